import PyProof.Rows.All
import Wide.All
import OpenK.AllK
import Wide.FinOn
import HandS.ForMost
import HandS.DictTup
import KE.KDictKeyed
import KE.SortData
import PyProof.NeData
import HandS.Wide
import HandS.More
import HandS.IsInst
import HandS.Style
import HandS.TupAny
import HandS.TupMul
import HandS.TupLe
import HandS.Flow
import HandS.Deep
import KE.KTupSum
import HandS.Zip
import HandS.Conv
import HandS.CallLocal
import KE.GoesEnum
import KE.GoesMore
import HandS.TupSets
import PyProof.Transfer
import HandS.DictComp
import HandS.Ends
import HandS.Defaults
import KE.KStateDown
import Lean
import HandS.Words
import HandS.WordsExc
import HandS.Head0
import HandS.Head1
import HandS.Head2
import HandS.HeadEnd
import HandS.HeadHook1
import HandS.HeadHook2
import PyProof.ReprLen
import PySem.Challenge.RW_strangersay_k06_states_of_anything
set_option Elab.async false
set_option linter.all false
set_option maxRecDepth 100000
set_option maxHeartbeats 0
/-! Values as trees, a small store of changing objects, and how both lie in the layer's heap. -/
namespace SG
open PySem PySem.Spec PyProof.Rows L2

/-- a value: tuples and lists that nobody changes any more are trees; what changes stands in the store -/
inductive PV where
  | non
  | bl (b : Bool)
  | int (i : Int)
  | str (x : Str)
  | tup (xs : List PV)
  | lst (xs : List PV)
  | ref (a : Addr)
  | fn (f : Str)
  | emp
instance : Inhabited PV := ⟨.non⟩

/-- what stands in the store: a list, a dict whose keys are tuples, a dict whose keys are ints and texts -/
inductive SO where
  | lst (xs : List PV)
  | dct (kvs : List (PV × PV)) (t : Array DictEntry × Nat)
  | dks (kvs : List (Key × PV)) (t : Array DictEntry × Nat)

mutual
/-- a value as a key -/
def PV.key : PV → Option NestedKey
  | .non => some .none
  | .bl b => some (.num (if b = true then 1 else 0))
  | .int i => some (.num i)
  | .str x => some (.text x)
  | .tup xs => (PV.keys xs).map .tup
  | .lst _ => none
  | .ref _ => none
  | .fn _ => none
  | .emp => none
def PV.keys : List PV → Option (List NestedKey)
  | [] => some []
  | x :: r => match PV.key x, PV.keys r with
    | some k, some ks => some (k :: ks)
    | _, _ => none
end

mutual
/-- plain data -/
def PV.pl : PV → Bool
  | .str x => PyData.strOk x
  | .tup xs => PV.pls xs
  | .lst xs => PV.pls xs
  | .ref _ => false
  | .fn _ => false
  | .emp => false
  | _ => true
def PV.pls : List PV → Bool
  | [] => true
  | x :: r => PV.pl x && PV.pls r
end
abbrev Sto := Addr → Option SO
def Sto.put (M : Sto) (a : Addr) (o : SO) : Sto := fun b => if b = a then some o else M b
theorem Sto.put_same {M : Sto} {a : Addr} {o : SO} : M.put a o a = some o := by unfold Sto.put; simp
theorem Sto.put_ne {M : Sto} {a b : Addr} {o : SO} (h : b ≠ a) : M.put a o b = M b := by unfold Sto.put; simp [h]
theorem Sto.put_put {M : Sto} {a : Addr} {o u : SO} : (M.put a o).put a u = M.put a u := by
  funext b; unfold Sto.put; split <;> rfl

/-- what is told once for the whole text: the written part, and where its defs stand -/
structure Ctx where
  P : Program
  w : World
  K : PySem.W.Frag
  ga : Str → Option Addr

/-- a list of the written part -/
def KLst (K : PySem.W.Frag) (a : Addr) (vs : List V) : Prop :=
  ∃ (its : Array Value) (n : Nat), K.lookup a = some { cls := .type "list", data := .seq its n } ∧ its.size ≤ sizeLine ∧ Vals vs its.toList
/-- a list: tracked, known to its object, or of the written part -/
def LQ (K : PySem.W.Frag) (H : Hp) (a : Addr) (vs : List V) : Prop := H a = some (.lst vs) ∨ (∃ o, H a = some (.frz o (.lst vs))) ∨ KLst K a vs
theorem LQ.sq {K : PySem.W.Frag} {H : Hp} {a : Addr} {vs : List V} (h : LQ K H a vs) : SqL K H a vs := by
  rcases h with h | ⟨o, h⟩ | ⟨its, n, h1, h2, h3⟩
  · exact .inl (.inl h)
  · exact .inl (.inr ⟨o, h⟩)
  · exact .inr ⟨_, its, n, h1, rfl, rfl, rfl, h2, h3⟩
theorem LQ.isL {X : Cx} {pins : List (Addr × Obj)} {σ : L2.St} {H : Hp} {s : Shared} {a : Addr} {vs : List V} (h : LQ X.K H a vs) (I : L2.Inv X pins σ H s) :
    ∃ (its : List Value) (n : Nat), Vals vs its ∧ s.heap.get? a = some { cls := .type "list", data := .seq its.toArray n } ∧ vs.length ≤ sizeLine := by
  rcases h with h | ⟨o, h⟩ | ⟨its, n, h1, h2, h3⟩
  · obtain ⟨z, its, n, r, e⟩ := I.hok a _ h
    exact ⟨its, n, r, e, z⟩
  · obtain ⟨_, z, its, n, r, e⟩ := I.hok a _ h
    exact ⟨its, n, r, e, z⟩
  · have e := h3.length
    simp only [Array.length_toList] at e
    exact ⟨its.toList, n, h3, by simpa using I.kIn a _ h1, by omega⟩

/-- a dict that holds nothing, told by its object -/
def EmpAt (H : Hp) (a : Addr) : Prop := H a = some (.dK [])

mutual
inductive Rep (C : Ctx) (H : Hp) (M : Sto) (Z : Addr → Prop) : PV → V → Prop
  | non : Rep C H M Z .non .non
  | bl (b : Bool) : Rep C H M Z (.bl b) (.bl b)
  | int (i : Int) : Rep C H M Z (.int i) (.int i)
  | str (x : Str) : Rep C H M Z (.str x) (.str x)
  | tup {a : Addr} {vs : List V} {xs : List PV} : SqT C.K H a vs → RepL C H M Z xs vs → Rep C H M Z (.tup xs) (.ref a)
  | lz {a : Addr} {vs : List V} {xs : List PV} : Z a → H a = some (.lst vs) → RepL C H M Z xs vs → Rep C H M Z (.lst xs) (.ref a)
  | lr {a : Addr} {vs : List V} {xs : List PV} : ((∃ o, H a = some (.frz o (.lst vs))) ∨ KLst C.K a vs) → RepL C H M Z xs vs → Rep C H M Z (.lst xs) (.ref a)
  | ref {a : Addr} : (M a).isSome = true → Rep C H M Z (.ref a) (.ref a)
  | fn {f : Str} {a : Addr} : C.ga f = some a → Rep C H M Z (.fn f) (.ref a)
  | emp {a : Addr} : Z a → EmpAt H a → Rep C H M Z .emp (.ref a)
inductive RepL (C : Ctx) (H : Hp) (M : Sto) (Z : Addr → Prop) : List PV → List V → Prop
  | nil : RepL C H M Z [] []
  | cons {v : PV} {x : V} {vs : List PV} {xs : List V} : Rep C H M Z v x → RepL C H M Z vs xs → RepL C H M Z (v :: vs) (x :: xs)
end

/-- the pairs of a dict with tuple keys, and its entries -/
inductive KVR (C : Ctx) (H : Hp) (M : Sto) (Z : Addr → Prop) : List (PV × PV) → List (NestedKey × Addr × Value) → Prop
  | nil : KVR C H M Z [] []
  | cons {k v : PV} {nk : NestedKey} {b : Addr} {u : Value} {x : V} {kvs : List (PV × PV)} {es : List (NestedKey × Addr × Value)} : k.key = some nk → (nk.depth ≤ 8 ∧ k.pl = true) → Rep C H M Z k (.ref b) → RelV x u → Rep C H M Z v x →
      KVR C H M Z kvs es → KVR C H M Z ((k, v) :: kvs) ((nk, b, u) :: es)
/-- the pairs of a dict with plain keys -/
inductive KSR (C : Ctx) (H : Hp) (M : Sto) (Z : Addr → Prop) : List (Key × PV) → List (Key × Value) → Prop
  | nil : KSR C H M Z [] []
  | cons {k : Key} {v : PV} {x : V} {u : Value} {kvs : List (Key × PV)} {es : List (Key × Value)} : RelV x u → Rep C H M Z v x → KSR C H M Z kvs es → KSR C H M Z ((k, v) :: kvs) ((k, u) :: es)

/-- an object of the store, in the layer's heap -/
def SBody (C : Ctx) (H : Hp) (M : Sto) (Z : Addr → Prop) (a : Addr) : SO → HO → Prop
  | .lst xs, o => ∃ vs, o = .lst vs ∧ RepL C H M Z xs vs
  | .dct kvs t, o => ∃ (xs : List (NestedKey × Addr × Value)), o = .ext (fun h => DT.Raw h a t.1 t.2) ∧ (a == sysModules) = false ∧ t.1.toList = xs.map (entryOfKey (nestedKind C.P C.w)) ∧ (xs.map (·.1)).Nodup ∧ KVR C H M Z kvs xs
  | .dks kvs t, o => ∃ (vs : List (Key × Value)), o = .ext (fun h => DT.Raw h a t.1 t.2) ∧ (a == sysModules) = false ∧ KeysOf (mixKind C.P C.w) t.1 ∧ Pairs (mixKind C.P C.w) t.1.toList vs ∧ (vs.map (·.1)).Nodup ∧ KSR C H M Z kvs vs
def SOk (C : Ctx) (H : Hp) (M : Sto) (Z : Addr → Prop) (a : Addr) (so : SO) : Prop := ∃ o, H a = some o ∧ SBody C H M Z a so o

/-- the store and the heap agree -/
structure SR (C : Ctx) (H : Hp) (M : Sto) (Z : Addr → Prop) : Prop where
  sto : ∀ a o, M a = some o → SOk C H M Z a o
  frz : ∀ a, Z a → M a = none ∧ (H a).isSome = true

/-- what later states keep -/
structure Ext (H : Hp) (M : Sto) (Z : Addr → Prop) (H' : Hp) (M' : Sto) (Z' : Addr → Prop) : Prop where
  unm : ∀ a o, H a = some o → M a = none → H' a = some o ∧ M' a = none
  dom : ∀ a, (M a).isSome = true → (M' a).isSome = true
  zz : ∀ a, Z a → Z' a
  hd : ∀ a, (H a).isSome = true → (H' a).isSome = true
  zn : ∀ a, Z' a → Z a ∨ H a = none
/-- what a value's place leans on -/
structure Kp (H : Hp) (M : Sto) (Z : Addr → Prop) (H' : Hp) (M' : Sto) (Z' : Addr → Prop) : Prop where
  tp : ∀ a vs, H a = some (.tup vs) → H' a = some (.tup vs)
  fz : ∀ a o u, H a = some (.frz o u) → H' a = some (.frz o u)
  zs : ∀ a, Z a → H' a = H a
  dom : ∀ a, (M a).isSome = true → (M' a).isSome = true
  zz : ∀ a, Z a → Z' a

section
variable {C : Ctx} {H H1 H2 : Hp} {M M1 M2 : Sto} {Z Z1 Z2 : Addr → Prop}
theorem Ext.refl : Ext H M Z H M Z := ⟨fun _ _ h m => ⟨h, m⟩, fun _ h => h, fun _ h => h, fun _ h => h, fun _ h => .inl h⟩
theorem Ext.trans (x : Ext H M Z H1 M1 Z1) (y : Ext H1 M1 Z1 H2 M2 Z2) : Ext H M Z H2 M2 Z2 :=
  ⟨fun a o h m => let ⟨p, q⟩ := x.unm a o h m; y.unm a o p q, fun a h => y.dom a (x.dom a h), fun a h => y.zz a (x.zz a h), fun a h => y.hd a (x.hd a h), fun a h => by
    rcases y.zn a h with h | h
    · exact x.zn a h
    · refine .inr ?_
      cases e : H a with
      | none => rfl
      | some o =>
        have q := x.hd a (by rw [e]; rfl)
        rw [h] at q; cases q⟩
theorem SBody.mut {a : Addr} {so : SO} {o : HO} (h : SBody C H M Z a so o) : Mut (some o) := by
  cases so with
  | lst xs => obtain ⟨_, rfl, _⟩ := h; trivial
  | dct kvs t => obtain ⟨_, rfl, _⟩ := h; trivial
  | dks kvs t => obtain ⟨_, rfl, _⟩ := h; trivial
theorem SR.nomut (r : SR C H M Z) {a : Addr} {o : HO} (h : H a = some o) (n : ¬ Mut (some o)) : M a = none := by
  cases e : M a with
  | none => rfl
  | some so =>
    obtain ⟨u, q, b⟩ := r.sto a so e
    rw [h] at q; cases q
    exact (n b.mut).elim
theorem SR.notup (r : SR C H M Z) {a : Addr} {vs : List V} (h : H a = some (.tup vs)) : M a = none := r.nomut h fun z => z
theorem SR.nofrz (r : SR C H M Z) {a : Addr} {o : Obj} {u : HO} (h : H a = some (.frz o u)) : M a = none := r.nomut h fun z => z
theorem SR.fresh (r : SR C H M Z) {a : Addr} (h : H a = none) : M a = none := by
  cases e : M a with
  | none => rfl
  | some so =>
    obtain ⟨u, q, b⟩ := r.sto a so e
    rw [h] at q; cases q
theorem SR.nz (r : SR C H M Z) {a : Addr} (h : H a = none) : ¬ Z a := fun z => by
  have := (r.frz a z).2
  rw [h] at this; cases this
theorem Ext.kp (r : SR C H M Z) (x : Ext H M Z H1 M1 Z1) : Kp H M Z H1 M1 Z1 :=
  ⟨fun a vs h => (x.unm _ _ h (r.notup h)).1, fun a o u h => (x.unm _ _ h (r.nofrz h)).1, fun a z => by
    obtain ⟨m, h⟩ := r.frz a z
    cases e : H a with
    | none => rw [e] at h; cases h
    | some o => exact (x.unm a o e m).1, x.dom, x.zz⟩
theorem sqT_kp (x : Kp H M Z H1 M1 Z1) {a : Addr} {vs : List V} (h : SqT C.K H a vs) : SqT C.K H1 a vs := by
  rcases h with (h | ⟨o, h⟩) | h
  · exact .inl (.inl (x.tp _ _ h))
  · exact .inl (.inr ⟨o, x.fz _ _ _ h⟩)
  · exact .inr h
theorem sqT_mono (r : SR C H M Z) (x : Ext H M Z H1 M1 Z1) {a : Addr} {vs : List V} (h : SqT C.K H a vs) : SqT C.K H1 a vs := sqT_kp (x.kp r) h
mutual
theorem Rep.kp (x : Kp H M Z H1 M1 Z1) : ∀ {v : PV} {u : V}, Rep C H M Z v u → Rep C H1 M1 Z1 v u
  | _, _, .non => .non
  | _, _, .bl b => .bl b
  | _, _, .int i => .int i
  | _, _, .str s => .str s
  | _, _, .tup h l => .tup (sqT_kp x h) (RepL.kp x l)
  | _, _, .lz z h l => .lz (x.zz _ z) (by rw [x.zs _ z]; exact h) (RepL.kp x l)
  | _, _, .lr h l => .lr (by
      rcases h with ⟨o, h⟩ | h
      · exact .inl ⟨o, x.fz _ _ _ h⟩
      · exact .inr h) (RepL.kp x l)
  | _, _, .ref h => .ref (x.dom _ h)
  | _, _, .fn h => .fn h
  | _, _, .emp z h => .emp (x.zz _ z) (by unfold EmpAt; rw [x.zs _ z]; exact h)
theorem RepL.kp (x : Kp H M Z H1 M1 Z1) : ∀ {vs : List PV} {us : List V}, RepL C H M Z vs us → RepL C H1 M1 Z1 vs us
  | _, _, .nil => .nil
  | _, _, .cons a b => .cons (Rep.kp x a) (RepL.kp x b)
end
theorem Rep.mono (r : SR C H M Z) (x : Ext H M Z H1 M1 Z1) {v : PV} {u : V} (h : Rep C H M Z v u) : Rep C H1 M1 Z1 v u := Rep.kp (x.kp r) h
theorem RepL.mono (r : SR C H M Z) (x : Ext H M Z H1 M1 Z1) {v : List PV} {u : List V} (h : RepL C H M Z v u) : RepL C H1 M1 Z1 v u := RepL.kp (x.kp r) h
theorem KVR.kp (x : Kp H M Z H1 M1 Z1) {kvs : List (PV × PV)} {es : List (NestedKey × Addr × Value)} (h : KVR C H M Z kvs es) : KVR C H1 M1 Z1 kvs es := by
  induction h with
  | nil => exact .nil
  | cons a b c d e _ ih => exact .cons a b (Rep.kp x c) d (Rep.kp x e) ih
theorem KSR.kp (x : Kp H M Z H1 M1 Z1) {kvs : List (Key × PV)} {es : List (Key × Value)} (h : KSR C H M Z kvs es) : KSR C H1 M1 Z1 kvs es := by
  induction h with
  | nil => exact .nil
  | cons u a _ ih => exact .cons u (Rep.kp x a) ih
theorem SBody.kp (x : Kp H M Z H1 M1 Z1) {a : Addr} {so : SO} {o : HO} (h : SBody C H M Z a so o) : SBody C H1 M1 Z1 a so o := by
  cases so with
  | lst xs => obtain ⟨vs, e, l⟩ := h; exact ⟨vs, e, RepL.kp x l⟩
  | dct kvs t => obtain ⟨xs, e, ns, e2, nd, l⟩ := h; exact ⟨xs, e, ns, e2, nd, l.kp x⟩
  | dks kvs t => obtain ⟨es, e, ns, k1, k2, k3, l⟩ := h; exact ⟨es, e, ns, k1, k2, k3, l.kp x⟩
theorem SBody.mono (r : SR C H M Z) (x : Ext H M Z H1 M1 Z1) {a : Addr} {so : SO} {o : HO} (h : SBody C H M Z a so o) : SBody C H1 M1 Z1 a so o := h.kp (x.kp r)
theorem RepL.length : ∀ {vs : List PV} {us : List V}, RepL C H M Z vs us → vs.length = us.length
  | _, _, .nil => rfl
  | _, _, .cons _ b => by simp [RepL.length b]
theorem RepL.get : ∀ {vs : List PV} {us : List V} {i : Nat} {v : PV}, RepL C H M Z vs us → vs[i]? = some v → ∃ u, us[i]? = some u ∧ Rep C H M Z v u
  | _, _, _, _, .nil, e => by simp at e
  | _, _, 0, _, .cons a _, e => by simp at e; subst e; exact ⟨_, rfl, a⟩
  | _, _, i + 1, v, .cons _ b, e => by
    obtain ⟨u, h1, h2⟩ := RepL.get (i := i) (v := v) b (by simpa using e)
    exact ⟨u, by simpa using h1, h2⟩
theorem RepL.append : ∀ {vs ws : List PV} {us ts : List V}, RepL C H M Z vs us → RepL C H M Z ws ts → RepL C H M Z (vs ++ ws) (us ++ ts)
  | _, _, _, _, .nil, s => s
  | _, _, _, _, .cons a b, s => .cons a (RepL.append b s)
theorem RepL.take : ∀ {vs : List PV} {us : List V} (n : Nat), RepL C H M Z vs us → RepL C H M Z (vs.take n) (us.take n)
  | _, _, 0, _ => .nil
  | _, _, _ + 1, .nil => .nil
  | _, _, n + 1, .cons a b => .cons a (RepL.take n b)
theorem RepL.drop : ∀ {vs : List PV} {us : List V} (n : Nat), RepL C H M Z vs us → RepL C H M Z (vs.drop n) (us.drop n)
  | _, _, 0, r => r
  | _, _, _ + 1, .nil => .nil
  | _, _, n + 1, .cons _ b => RepL.drop n b
theorem RepL.set {v : PV} {u : V} (r : Rep C H M Z v u) : ∀ {vs : List PV} {us : List V} (i : Nat), RepL C H M Z vs us → RepL C H M Z (vs.set i v) (us.set i u)
  | _, _, _, .nil => .nil
  | _, _, 0, .cons _ b => .cons r b
  | _, _, i + 1, .cons a b => .cons a (RepL.set r i b)
theorem RepL.eraseIdx : ∀ {vs : List PV} {us : List V} (n : Nat), RepL C H M Z vs us → RepL C H M Z (vs.eraseIdx n) (us.eraseIdx n)
  | _, _, _, .nil => .nil
  | _, _, 0, .cons _ r => r
  | _, _, n + 1, .cons h r => .cons h (RepL.eraseIdx n r)
theorem RepL.reverse {vs : List PV} {us : List V} (r : RepL C H M Z vs us) : RepL C H M Z vs.reverse us.reverse := by
  induction vs generalizing us with
  | nil => cases r; exact .nil
  | cons v vs ih =>
    cases r with
    | cons a b => rw [List.reverse_cons, List.reverse_cons]; exact (ih b).append (.cons a .nil)

/-- a new untracked object at p leaves everything -/
theorem upd_some {p a : Addr} {o : HO} (h : (H a).isSome = true) : (upd H p o a).isSome = true := by
  by_cases q : a = p
  · subst q; rw [upd_same]; rfl
  · rw [upd_ne q]; exact h
theorem Ext.new {p : Addr} {o : HO} (h : H p = none) : Ext H M Z (upd H p o) M Z :=
  ⟨fun a u e m => ⟨by rw [upd_ne (ne_of_none e h)]; exact e, m⟩, fun _ h => h, fun _ h => h, fun _ h => upd_some h, fun _ h => .inl h⟩
theorem SR.lift (r : SR C H M Z) (x : Ext H M Z H1 M Z1) (keep : ∀ a o, M a = some o → H1 a = H a) (hz : ∀ a, Z1 a → M a = none ∧ (H1 a).isSome = true) : SR C H1 M Z1 := by
  refine ⟨fun a o e => ?_, hz⟩
  obtain ⟨u, h, b⟩ := r.sto a o e
  exact ⟨u, by rw [keep a _ e]; exact h, b.mono r x⟩
theorem SR.new (r : SR C H M Z) {p : Addr} {o : HO} (h : H p = none) : SR C (upd H p o) M Z :=
  r.lift (Ext.new h) (fun a so e => upd_ne (fun z => by subst z; rw [r.fresh h] at e; cases e)) fun a z => ⟨(r.frz a z).1, by
    have q : a ≠ p := fun q => by subst q; exact r.nz h z
    rw [upd_ne q]; exact (r.frz a z).2⟩
/-- a new object at p that nobody changes any more -/
theorem Ext.newZ {p : Addr} {o : HO} (h : H p = none) : Ext H M Z (upd H p o) M (fun a => a = p ∨ Z a) :=
  ⟨fun a u e m => ⟨by rw [upd_ne (ne_of_none e h)]; exact e, m⟩, fun _ h => h, fun _ h => .inr h, fun _ h => upd_some h, fun a z => by
    rcases z with z | z
    · subst z; exact .inr h
    · exact .inl z⟩
theorem SR.newZ (r : SR C H M Z) {p : Addr} {o : HO} (h : H p = none) : SR C (upd H p o) M (fun a => a = p ∨ Z a) :=
  r.lift (Ext.newZ h) (fun a so e => upd_ne (fun z => by subst z; rw [r.fresh h] at e; cases e)) fun a z => by
    rcases z with z | z
    · subst z; exact ⟨r.fresh h, by rw [upd_same]; rfl⟩
    · have q : a ≠ p := fun q => by subst q; exact r.nz h z
      exact ⟨(r.frz a z).1, by rw [upd_ne q]; exact (r.frz a z).2⟩
/-- a new object at p, in the store -/
theorem Ext.newM {p : Addr} {o : HO} {so : SO} (r : SR C H M Z) (h : H p = none) : Ext H M Z (upd H p o) (M.put p so) Z :=
  ⟨fun a u e m => ⟨by rw [upd_ne (ne_of_none e h)]; exact e, by rw [Sto.put_ne (ne_of_none e h)]; exact m⟩, fun a h' => by
    by_cases q : a = p
    · subst q; rw [Sto.put_same]; rfl
    · rw [Sto.put_ne q]; exact h', fun _ h => h, fun _ h => upd_some h, fun _ h => .inl h⟩
/-- the object at p, new or changed, is so now -/
theorem SR.put (r : SR C H M Z) {p : Addr} {o : HO} {so : SO} (x : Ext H M Z (upd H p o) (M.put p so) Z) (nz : ¬ Z p) (b : SBody C H M Z p so o) : SR C (upd H p o) (M.put p so) Z := by
  refine ⟨fun a u e => ?_, fun a z => ?_⟩
  · by_cases q : a = p
    · subst q
      rw [Sto.put_same] at e
      cases e
      exact ⟨o, upd_same, b.mono r x⟩
    · rw [Sto.put_ne q] at e
      obtain ⟨ho, hu, lu⟩ := r.sto a u e
      exact ⟨ho, by rw [upd_ne q]; exact hu, lu.mono r x⟩
  · have q : a ≠ p := fun e => by subst e; exact nz z
    exact ⟨by rw [Sto.put_ne q]; exact (r.frz a z).1, by rw [upd_ne q]; exact (r.frz a z).2⟩
theorem SR.newM (r : SR C H M Z) {p : Addr} {o : HO} {so : SO} (h : H p = none) (b : SBody C H M Z p so o) : SR C (upd H p o) (M.put p so) Z :=
  r.put (Ext.newM r h) (r.nz h) b
/-- an object of the store is changed -/
theorem Ext.wr {p : Addr} {o : HO} {so so' : SO} (h : M p = some so) : Ext H M Z (upd H p o) (M.put p so') Z :=
  ⟨fun a u e m => by
    have q : a ≠ p := fun z => by subst z; rw [h] at m; cases m
    exact ⟨by rw [upd_ne q]; exact e, by rw [Sto.put_ne q]; exact m⟩, fun a h' => by
    by_cases q : a = p
    · subst q; rw [Sto.put_same]; rfl
    · rw [Sto.put_ne q]; exact h', fun _ h => h, fun _ h => upd_some h, fun _ h => .inl h⟩
theorem SR.wr (r : SR C H M Z) {p : Addr} {o : HO} {so so' : SO} (h : M p = some so) (b : SBody C H M Z p so' o) : SR C (upd H p o) (M.put p so') Z :=
  r.put (Ext.wr h) (fun z => by rw [(r.frz p z).1] at h; cases h) b
/-- a list under way at D, that no value tells -/
theorem Kp.hid {D : Addr} {vs ws : List V} (h : H D = some (.lst vs)) (nz : ¬ Z D) : Kp H M Z (upd H D (.lst ws)) M Z :=
  ⟨fun a us e => by rw [upd_ne (fun q => by subst q; rw [h] at e; cases e)]; exact e, fun a o u e => by rw [upd_ne (fun q => by subst q; rw [h] at e; cases e)]; exact e,
   fun a z => upd_ne (fun q => by subst q; exact nz z), fun _ h => h, fun _ h => h⟩
theorem SR.hid (r : SR C H M Z) {D : Addr} {vs ws : List V} (h : H D = some (.lst vs)) (nz : ¬ Z D) (nm : M D = none) : SR C (upd H D (.lst ws)) M Z := by
  refine ⟨fun a o e => ?_, fun a z => ?_⟩
  · obtain ⟨u, hu, b⟩ := r.sto a o e
    exact ⟨u, by rw [upd_ne (fun q => by subst q; rw [nm] at e; cases e)]; exact hu, b.kp (Kp.hid h nz)⟩
  · rw [upd_ne (fun q => by subst q; exact nz z)]; exact r.frz a z
/-- .. seen from before it was there -/
theorem Ext.hid {D : Addr} {ws : List V} (x : Ext H M Z H1 M1 Z1) (h : H D = none) : Ext H M Z (upd H1 D (.lst ws)) M1 Z1 :=
  ⟨fun a o e m => by
    rw [upd_ne (ne_of_none e h)]; exact x.unm a o e m, x.dom, x.zz, fun a h => upd_some (x.hd a h), x.zn⟩
/-- .. told at last -/
theorem Ext.told {D : Addr} (x : Ext H M Z H1 M1 Z1) (h : H D = none) : Ext H M Z H1 M1 (fun a => a = D ∨ Z1 a) :=
  ⟨x.unm, x.dom, fun a z => .inr (x.zz a z), x.hd, fun a z => by
    rcases z with z | z
    · subst z; exact .inr h
    · exact x.zn a z⟩
theorem SR.told (r : SR C H M Z) {D : Addr} {o : HO} (h : H D = some o) (nm : M D = none) : SR C H M (fun a => a = D ∨ Z a) := by
  have k : Kp H M Z H M (fun a => a = D ∨ Z a) := ⟨fun _ _ h => h, fun _ _ _ h => h, fun _ _ => rfl, fun _ h => h, fun _ h => .inr h⟩
  refine ⟨fun a o e => ?_, fun a z => ?_⟩
  · obtain ⟨u, hu, b⟩ := r.sto a o e
    exact ⟨u, hu, b.kp k⟩
  · rcases z with z | z
    · subst z; exact ⟨nm, by rw [h]; rfl⟩
    · exact r.frz a z
theorem RepL.told {D : Addr} {vs : List PV} {us : List V} (l : RepL C H M Z vs us) : RepL C H M (fun a => a = D ∨ Z a) vs us :=
  RepL.kp ⟨fun _ _ h => h, fun _ _ _ h => h, fun _ _ => rfl, fun _ h => h, fun _ h => .inr h⟩ l
end
end SG
/-! sorting tuples that can be compared up to the first place where they differ (not place by place to their ends) -/
namespace SG
open PySem PySem.SeqAt PyProof.Rows PySem.W
mutual
/-- can be compared up to the first difference -/
def fcmp : PyData → PyData → Prop
  | .tuple xs, .tuple ys => fcmps xs ys
  | .tuple _, .none | .tuple _, .bool _ | .tuple _, .int _ | .tuple _, .str _ | .tuple _, .list _ | .tuple _, .dict _ => False
  | .none, y => alike .none y = true
  | .bool b, y => alike (.bool b) y = true
  | .int b, y => alike (.int b) y = true
  | .str b, y => alike (.str b) y = true
  | .list b, y => alike (.list b) y = true
  | .dict _, _ => False
def fcmps : List PyData → List PyData → Prop
  | x :: xs, y :: ys => fcmp x y ∧ (x = y → fcmps xs ys)
  | [], _ => True
  | _ :: _, [] => True
end
theorem fcmp_al {x y : PyData} (h : fcmp x y) (n : ∀ t, x ≠ .tuple t) : alike x y = true := by
  cases x with
  | tuple xs => exact absurd rfl (n xs)
  | dict _ => unfold fcmp at h; exact h.elim
  | _ => unfold fcmp at h; exact h
theorem fcmp_tt {xs : List PyData} {y : PyData} (h : fcmp (.tuple xs) y) : ∃ ys, y = .tuple ys ∧ fcmps xs ys := by
  cases y with
  | tuple ys => exact ⟨ys, rfl, by unfold fcmp at h; exact h⟩
  | _ => unfold fcmp at h; exact h.elim
theorem fcmps_cons {x y : PyData} {xs ys : List PyData} (h : fcmps (x :: xs) (y :: ys)) : fcmp x y ∧ (x = y → fcmps xs ys) := by unfold fcmps at h; exact h
mutual
theorem al_fcmp : ∀ {x y : PyData}, alike x y = true → fcmp x y
  | .tuple xs, y, h => by
    cases y with
    | tuple ys => unfold fcmp; exact al_fcmps (by simpa [alike] using h)
    | _ => simp [alike] at h
  | .none, y, h => by unfold fcmp; exact h
  | .bool _, y, h => by unfold fcmp; exact h
  | .int _, y, h => by unfold fcmp; exact h
  | .str _, y, h => by unfold fcmp; exact h
  | .list _, y, h => by unfold fcmp; exact h
  | .dict _, y, h => by cases y <;> simp [alike] at h
theorem al_fcmps : ∀ {xs ys : List PyData}, alikeAll xs ys = true → fcmps xs ys
  | [], _, _ => by unfold fcmps; trivial
  | _ :: _, [], _ => by unfold fcmps; trivial
  | x :: xs, y :: ys, h => by
    have q := alike_all_cons h
    unfold fcmps
    exact ⟨al_fcmp q.1, fun _ => al_fcmps q.2⟩
end
mutual
/-- alike data that are equal are the same -/
theorem al_eqv : ∀ {x y : PyData}, alike x y = true → PyData.eqv x y = true → x = y
  | .none, y, h, e => by cases y <;> simp [alike] at h ⊢
  | .bool _, y, h, e => by
    cases y <;> simp [alike] at h ⊢
    simpa [PyData.eqv] using e
  | .int _, y, h, e => by
    cases y <;> simp [alike] at h ⊢
    simpa [PyData.eqv] using e
  | .str _, y, h, e => by
    cases y <;> simp [alike] at h ⊢
    simpa [PyData.eqv] using e
  | .list xs, y, h, e => by
    cases y <;> simp [alike] at h ⊢
    exact al_eqvs h (by simpa [PyData.eqv] using e)
  | .tuple xs, y, h, e => by
    cases y <;> simp [alike] at h ⊢
    exact al_eqvs h (by simpa [PyData.eqv] using e)
  | .dict _, y, h, e => by cases y <;> simp [alike] at h
theorem al_eqvs : ∀ {xs ys : List PyData}, alikeAll xs ys = true → PyData.eqvAll xs ys = true → xs = ys
  | [], [], _, _ => rfl
  | [], _ :: _, _, e => by simp [PyData.eqvAll] at e
  | _ :: _, [], _, e => by simp [PyData.eqvAll] at e
  | x :: xs, y :: ys, h, e => by
    have q := alike_all_cons h
    rw [eqv_all_cons, Bool.and_eq_true] at e
    rw [al_eqv q.1 e.1, al_eqvs q.2 e.2]
end
mutual
theorem f_eqv : ∀ {x y : PyData}, fcmp x y → PyData.eqv x y = true → x = y
  | .tuple xs, y, h, e => by
    obtain ⟨ys, rfl, h'⟩ := fcmp_tt h
    rw [f_eqvs h' (by simpa [PyData.eqv] using e)]
  | .none, y, h, e => al_eqv (fcmp_al h (by intro t z; cases z)) e
  | .bool _, y, h, e => al_eqv (fcmp_al h (by intro t z; cases z)) e
  | .int _, y, h, e => al_eqv (fcmp_al h (by intro t z; cases z)) e
  | .str _, y, h, e => al_eqv (fcmp_al h (by intro t z; cases z)) e
  | .list _, y, h, e => al_eqv (fcmp_al h (by intro t z; cases z)) e
  | .dict _, y, h, e => by unfold fcmp at h; exact h.elim
theorem f_eqvs : ∀ {xs ys : List PyData}, fcmps xs ys → PyData.eqvAll xs ys = true → xs = ys
  | [], [], _, _ => rfl
  | [], _ :: _, _, e => by simp [PyData.eqvAll] at e
  | _ :: _, [], _, e => by simp [PyData.eqvAll] at e
  | x :: xs, y :: ys, h, e => by
    have q := fcmps_cons h
    rw [eqv_all_cons, Bool.and_eq_true] at e
    have e1 := f_eqv q.1 e.1
    rw [e1, f_eqvs (q.2 e1) e.2]
end
mutual
theorem al_lay : ∀ (x : PyData), x.canLay0 = true → alike x x = true
  | .none, _ => by simp [alike]
  | .bool _, _ => by simp [alike]
  | .int _, _ => by simp [alike]
  | .str _, _ => by simp [alike]
  | .list xs, h => by simp only [alike]; exact al_lays xs (by simpa [PyData.canLay0] using h)
  | .tuple xs, h => by simp only [alike]; exact al_lays xs (by simpa [PyData.canLay0] using h)
  | .dict _, h => by simp [PyData.canLay0] at h
theorem al_lays : ∀ (xs : List PyData), PyData.canLayAll0 xs = true → alikeAll xs xs = true
  | [], _ => by simp [alikeAll]
  | x :: xs, h => by
    have q : x.canLay0 = true ∧ PyData.canLayAll0 xs = true := by simpa [PyData.canLayAll0] using h
    simp only [alikeAll]
    rw [al_lay x q.1, al_lays xs q.2]
    rfl
end
/-- what stands behind does not matter where they differ -/
def Cut (p q : List (Int ⊕ List Nat)) : Prop := ∀ l m, PyProof.Rows.lexLt itemOrd (p ++ l) (q ++ m) = PyProof.Rows.lexLt itemOrd p q
mutual
theorem f_cut : ∀ {x y : PyData}, fcmp x y → PyData.eqv x y = false → Cut (keyToks x) (keyToks y)
  | .tuple xs, y, h, e => by
    obtain ⟨ys, rfl, h'⟩ := fcmp_tt h
    have := f_cuts h' (by simpa [PyData.eqv] using e)
    unfold keyToks
    exact this
  | .none, y, h, e => (toks_eqv _ _ (fcmp_al h (by intro t z; cases z))).2 e
  | .bool _, y, h, e => (toks_eqv _ _ (fcmp_al h (by intro t z; cases z))).2 e
  | .int _, y, h, e => (toks_eqv _ _ (fcmp_al h (by intro t z; cases z))).2 e
  | .str _, y, h, e => (toks_eqv _ _ (fcmp_al h (by intro t z; cases z))).2 e
  | .list _, y, h, e => (toks_eqv _ _ (fcmp_al h (by intro t z; cases z))).2 e
  | .dict _, y, h, e => by unfold fcmp at h; exact h.elim
theorem f_cuts : ∀ {xs ys : List PyData}, fcmps xs ys → PyData.eqvAll xs ys = false → Cut (keyToksAll xs) (keyToksAll ys)
  | [], [], _, e => by simp [PyData.eqvAll] at e
  | [], y :: ys, _, _ => (toksAll_eqv [] (y :: ys) (by simp [alikeAll])).2 (by simp [PyData.eqvAll])
  | x :: xs, [], _, _ => (toksAll_eqv (x :: xs) [] (by simp [alikeAll])).2 (by simp [PyData.eqvAll])
  | x :: xs, y :: ys, h, e => by
    intro l m
    have q := fcmps_cons h
    rw [eqv_all_cons] at e
    rw [toks_all_cons, toks_all_cons]
    simp only [List.cons_append, List.append_assoc]
    rw [lex_self (O := itemOrd), lex_self (O := itemOrd)]
    cases hx : PyData.eqv x y with
    | true =>
      have e1 := f_eqv q.1 hx
      subst e1
      rw [lex_pre, lex_pre]
      exact f_cuts (q.2 rfl) (by rw [hx, Bool.true_and] at e; exact e) l m
    | false =>
      have c := f_cut q.1 hx
      rw [c, c]
end
theorem f_lex {x y : PyData} {xs ys : List PyData} (h : fcmp x y) : PyProof.Rows.lexLt itemOrd (keyToksAll (x :: xs)) (keyToksAll (y :: ys)) = if PyData.eqv x y = true then PyProof.Rows.lexLt itemOrd (keyToksAll xs) (keyToksAll ys) else dataLt x y := by
  rw [toks_all_cons, toks_all_cons, lex_self (O := itemOrd)]
  cases hx : PyData.eqv x y with
  | true =>
    have e1 := f_eqv h hx
    subst e1
    rw [lex_pre, if_pos rfl]
  | false =>
    rw [f_cut h hx, if_neg (by simp)]
    rfl
theorem lex_nil_cons (y : PyData) (ys : List PyData) : PyProof.Rows.lexLt itemOrd (keyToksAll []) (keyToksAll (y :: ys)) = true := by
  rw [toks_all_cons]
  simp only [keyToksAll]
  rw [lex_diff (O := itemOrd) (by simp)]
  simp [itemLt]
theorem lex_cons_nil (y : PyData) (ys : List PyData) : PyProof.Rows.lexLt itemOrd (keyToksAll (y :: ys)) (keyToksAll []) = false := by
  rw [toks_all_cons]
  simp only [keyToksAll]
  rw [lex_diff (O := itemOrd) (by simp)]
  simp [itemLt]
/-! ### the tuple's own < -/
/-- place by place, up to the first difference -/
def Lx (A : Around) (s : Shared) : List Value → List Value → Bool → Prop
  | v :: vs, u :: us, r => (EqAt A s v u true ∧ Lx A s vs us r) ∨ (EqAt A s v u false ∧ RcLt A s v u r)
  | [], us, r => r = decide (0 < us.length)
  | _ :: _, [], r => r = false
section
open AutoSeq1 (wpAny_loadPart')
open MeetsSeq MeetsSeq2 MeetsSeq3 SeqRoads2
theorem tupLt (l b : Addr) (p q : Array Value) (n m : Nat) (d1 d2 : Option Addr) (t1 t2 : Array (Option Value)) (k : Bool) :
    Meets (Builtin.«tuple.__lt__» ⟨[.ref l, .ref b], []⟩)
      (fun A R s => s.heap.get? l = some { cls := .type "tuple", dict := d1, data := .seq p n, slots := t1 } ∧ s.heap.get? b = some { cls := .type "tuple", dict := d2, data := .seq q m, slots := t2 } ∧
        Lx A.in1 s p.toList q.toList k ∧ R (.ok (.ret (.bool k))) s) :=
  .of_wp fun prog w A R s h => by
    obtain ⟨hp, g, d, tk, os⟩ := s
    obtain ⟨h1, h2, hx, hR⟩ := h
    have sub := AutoSeq1.sub_tuple_tuple
    wp_walk using wpAny_loadPart' h1, wpAny_loadPart' h2, wpAny_forIn_list _ (fun rest b s' => b.1 = none ∧ s' = ⟨hp, g, d, tk, os⟩ ∧ ∃ vs us, rest = vs.zip us ∧ Lx A.in1 ⟨hp, g, d, tk, os⟩ vs us k ∧ (vs.length < us.length ↔ p.size < q.size)) _
    case turn =>
      rintro ⟨y, x⟩ rest c s' ⟨hc, rfl, vs, us, hz, hL, hn⟩
      cases vs with
      | nil => simp at hz
      | cons v vs =>
        cases us with
        | nil => simp at hz
        | cons u us =>
          rw [List.zip_cons_cons] at hz
          injection hz with e1 e2
          injection e1 with e1 e3
          subst e1 e3
          rcases hL with ⟨eq, hL⟩ | ⟨eq, hL⟩
          · refine wpAny_bind (eq prog w _ _ ?_)
            wp_walk
            exact ⟨rfl, rfl, vs, us, e2, hL, by simpa using hn⟩
          · refine wpAny_bind (eq prog w _ _ ?_)
            have hL' : ∀ (E : Value → Shared → Prop) (Q : Value → Shared → Prop), Q (.bool k) _ → wpAny (model prog w) A.in1 (richCompare .Lt y x) Q E _ := hL prog w
            generalize richCompare CmpOp.Lt y x = rc at hL' ⊢
            wp_walk
            refine hL' _ _ ?_
            wp_walk
            exact ⟨_, rfl, hR⟩
    case fin =>
      rintro ⟨b1, b2⟩ s' ⟨hb, rfl, vs, us, hz, hL, hn⟩
      simp only at hb
      subst hb
      have ek : k = decide (p.size < q.size) := by
        cases vs with
        | nil =>
          unfold Lx at hL
          rw [hL]
          exact decide_eq_decide.mpr (by simpa using hn)
        | cons v vs =>
          cases us with
          | nil =>
            unfold Lx at hL
            rw [hL]
            have : ¬ p.size < q.size := fun z => by simpa using hn.mpr z
            simp [this]
          | cons u us => simp at hz
      wp_walk
      exact ⟨_, rfl, by rw [ek] at hR; simpa [Builtin.Tuple.tupleCompareSizes] using hR⟩
    case h =>
      exact ⟨rfl, rfl, _, _, rfl, hx, by simp⟩
end
theorem rcTup {A : Around} {s : Shared} {l b : Addr} {p q : Array Value} {k : Bool} (hl : s.heap.IsTuple l p) (hb : s.heap.IsTuple b q) (hu : A.units < cLine) (hx : Lx A.in1 s p.toList q.toList k) : RcLt A s (.ref l) (.ref b) k := fun prog w E Q h => by
  obtain ⟨⟨c1, d1, a1, t1⟩, o1, e1, n1, f1⟩ := id hl
  obtain ⟨⟨c2, d2, a2, t2⟩, o2, e2, n2, f2⟩ := id hb
  simp only at e1 f1 e2 f2
  subst e1 f1 e2 f2
  exact richCompare_meets_room (op := .Lt) ⟨_, o1, rfl⟩ ⟨_, o2, rfl⟩ F.slot_tuple_lt F.entry_tuple_lt (F.args_tuple_lt_2 _ _) (tupLt l b p q n1 n2 d1 d2 t1 t2 k)
    ⟨o1, o2, hx, show Value.bool k ≠ Value.notImplemented ∧ Q (.bool k) s from ⟨(fun z => nomatch z), h⟩⟩ hu
theorem f_none {x y : PyData} (h : fcmp x y) (e : PyData.eqv x y = false) : x ≠ .none := by
  rintro rfl
  exact ne_none_of (fcmp_al h (by intro t z; cases z)) e rfl
mutual
theorem rcLt_f : ∀ (x y : PyData) (A : Around) (s : Shared) (a b : Value) (as bs : List Addr), Reads s.heap a x as → Reads s.heap b y bs → fcmp x y → x.canLay0 = true → y.canLay0 = true → x ≠ .none → A.units + min x.depth y.depth < cLine → RcLt A s a b (dataLt x y)
  | .tuple xs, y, A, s, a, b, as, bs, ra, rb, h, c1, c2, _, hu => by
    obtain ⟨ys, rfl, h'⟩ := fcmp_tt h
    rw [dataLt_tuple]
    cases ra with
    | tuple a1 a2 a3 a4 =>
      cases rb with
      | tuple b1 b2 b3 b4 =>
        exact rcTup ⟨_, a1, a2, _, a3⟩ ⟨_, b1, b2, _, b3⟩ (room_here hu) (lx_f xs ys A.in1 s _ _ _ _ a4 b4 h' c1 c2 (room_in hu))
  | .none, y, A, s, a, b, as, bs, ra, rb, h, c1, c2, n, hu => absurd rfl n
  | .bool _, y, A, s, a, b, as, bs, ra, rb, h, c1, c2, n, hu => rcLt_alike _ _ A s a b as bs ra rb (fcmp_al h (by intro t z; cases z)) n hu
  | .int _, y, A, s, a, b, as, bs, ra, rb, h, c1, c2, n, hu => rcLt_alike _ _ A s a b as bs ra rb (fcmp_al h (by intro t z; cases z)) n hu
  | .str _, y, A, s, a, b, as, bs, ra, rb, h, c1, c2, n, hu => rcLt_alike _ _ A s a b as bs ra rb (fcmp_al h (by intro t z; cases z)) n hu
  | .list _, y, A, s, a, b, as, bs, ra, rb, h, c1, c2, n, hu => rcLt_alike _ _ A s a b as bs ra rb (fcmp_al h (by intro t z; cases z)) n hu
  | .dict _, y, A, s, a, b, as, bs, ra, rb, h, c1, c2, n, hu => by unfold fcmp at h; exact h.elim
theorem lx_f : ∀ (xs ys : List PyData) (A : Around) (s : Shared) (vs ws : List Value) (as bs : List Addr), ReadsAll s.heap vs xs as → ReadsAll s.heap ws ys bs → fcmps xs ys → PyData.canLayAll0 xs = true → PyData.canLayAll0 ys = true →
    A.units + min (PyData.depthAll xs) (PyData.depthAll ys) < cLine → Lx A s vs ws (PyProof.Rows.lexLt itemOrd (keyToksAll xs) (keyToksAll ys))
  | [], [], A, s, vs, ws, as, bs, ra, rb, h, c1, c2, hu => by
    cases ra
    cases rb
    unfold Lx
    rw [lex_irrefl]
    simp
  | [], y :: ys, A, s, vs, ws, as, bs, ra, rb, h, c1, c2, hu => by
    cases ra
    cases rb
    unfold Lx
    rw [lex_nil_cons]
    simp
  | x :: xs, [], A, s, vs, ws, as, bs, ra, rb, h, c1, c2, hu => by
    cases ra
    cases rb
    unfold Lx
    rw [lex_cons_nil]
  | x :: xs, y :: ys, A, s, vs, ws, as, bs, ra, rb, h, c1, c2, hu => by
    have q := fcmps_cons h
    have d1 : x.canLay0 = true ∧ PyData.canLayAll0 xs = true := by simpa [PyData.canLayAll0] using c1
    have d2 : y.canLay0 = true ∧ PyData.canLayAll0 ys = true := by simpa [PyData.canLayAll0] using c2
    cases ra with
    | cons r1 r2 =>
      cases rb with
      | cons t1 t2 =>
        have eq := eqAt_reads x y A s _ _ _ _ r1 t1 d1.1 d2.1 (room_head hu)
        unfold Lx
        rw [f_lex q.1]
        cases hx : PyData.eqv x y with
        | true =>
          rw [hx] at eq
          rw [if_pos rfl]
          exact .inl ⟨eq, lx_f xs ys A s _ _ _ _ r2 t2 (q.2 (f_eqv q.1 hx)) d1.2 d2.2 (room_tail hu)⟩
        | false =>
          rw [hx] at eq
          rw [if_neg (by simp)]
          exact .inr ⟨eq, rcLt_f x y A s _ _ _ _ r1 t1 q.1 d1.1 d2.1 (f_none q.1 hx) (room_head hu)⟩
end
/-! ### as sorting compares -/
section
variable {prog : Program} {w : World} {A : Around} {E : Value → Shared → Prop} {s : Shared}
theorem one_f {f : Bool} {x y : PyData} {a b : Value} {as bs : List Addr} {Q : Bool → Shared → Prop} (hf : f = true → ∀ xs, x ≠ .tuple xs) (ra : Reads s.heap a x as) (rb : Reads s.heap b y bs) (h : fcmp x y) (c1 : x.canLay0 = true) (c2 : y.canLay0 = true) (hn : x ≠ .none)
    (hu : A.units + min x.depth y.depth < cLine) (hq : Q (dataLt x y) s) : wpAny (model prog w) A (oneLt' f a b) Q E s := by
  cases f with
  | false =>
    rw [oneLt'_eq]
    simp only [Bool.false_eq_true, if_false]
    exact wpAny_bind (rcLt_f x y A s a b as bs ra rb h c1 c2 hn hu prog w E _ (wpAny_truthy_bool hq))
  | true => exact oneLt_alike hf ra rb (fcmp_al h (hf rfl)) hn hu hq
theorem kat_f {b fin : Bool} {Q : Bool → Shared → Prop} : ∀ (xs ys : List PyData) (i : Nat) (vs ws : List Value) (as bs : List Addr), ReadsAll s.heap vs xs as → ReadsAll s.heap ws ys bs → fcmps xs ys → PyData.canLayAll0 xs = true → PyData.canLayAll0 ys = true →
    A.units + min (PyData.depthAll xs) (PyData.depthAll ys) < cLine → (b = true → i = 0 → ∀ x r t, xs = x :: r → x ≠ .tuple t) → fin = decide (xs.length < ys.length) → Q (PyProof.Rows.lexLt itemOrd (keyToksAll xs) (keyToksAll ys)) s → KatLex prog w A b fin Q (vs.zip ws) i s
  | [], [], i, _, _, _, _, ra, rb, _, _, _, _, _, hf, hq => by
    cases ra; cases rb
    rw [lex_irrefl] at hq
    exact kat_nil (by rw [hf]; exact hq)
  | [], y :: ys, i, _, _, _, _, ra, rb, _, _, _, _, _, hf, hq => by
    cases ra; cases rb
    rw [lex_nil_cons] at hq
    exact kat_nil (by rw [hf]; simpa using hq)
  | x :: xs, [], i, _, _, _, _, ra, rb, _, _, _, _, _, hf, hq => by
    cases ra; cases rb
    rw [lex_cons_nil] at hq
    exact kat_nil (by rw [hf]; simpa using hq)
  | x :: xs, y :: ys, i, _, _, _, _, ra, rb, h, c1, c2, hu, hb, hf, hq => by
    have q := fcmps_cons h
    have d1 : x.canLay0 = true ∧ PyData.canLayAll0 xs = true := by simpa [PyData.canLayAll0] using c1
    have d2 : y.canLay0 = true ∧ PyData.canLayAll0 ys = true := by simpa [PyData.canLayAll0] using c2
    cases ra with
    | cons r1 r2 =>
      cases rb with
      | cons t1 t2 =>
        rw [List.zip_cons_cons]
        rw [f_lex q.1] at hq
        refine kat_cons (eqAt_reads x y A s _ _ _ _ r1 t1 d1.1 d2.1 (room_head hu) prog w _ _ ?_)
        cases hx : PyData.eqv x y with
        | true =>
          rw [hx, if_pos rfl] at hq
          exact kat_yes (kat_f xs ys (i + 1) _ _ _ _ r2 t2 (q.2 (f_eqv q.1 hx)) d1.2 d2.2 (room_tail hu) (fun _ z => absurd z (Nat.succ_ne_zero i)) (by rw [hf]; simp) hq)
        | false =>
          rw [hx, if_neg (by simp)] at hq
          refine kat_no (one_f (fun z t => ?_) r1 t1 q.1 d1.1 d2.1 (f_none q.1 hx) (room_head hu) hq)
          rw [Bool.and_eq_true] at z
          exact hb z.1 (by simpa using z.2) x xs t rfl
/-- every two can be compared -/
structure AllCmp (ds : List PyData) : Prop where
  cmp : ∀ d ∈ ds, ∀ e ∈ ds, fcmp d e
  lay : ∀ d ∈ ds, d.canLay0 = true
theorem kind_some {h : Heap} {ds : List PyData} (hal : AllCmp ds) {v : Value} {d : PyData} {as : List Addr} (hd : d ∈ ds) (r : Reads h v d as) : (dataKind h ds).keyOf v = some (keyToks d) := by
  have q : ∃ d, d ∈ ds ∧ ∃ as, Reads h v d as := ⟨d, hd, as, r⟩
  have e : ∃ k, (dataKind h ds).keyOf v = some k := by
    refine ⟨keyToks q.choose, ?_⟩
    simp only [dataKind]
    rw [dif_pos q]
  obtain ⟨k, e⟩ := e
  obtain ⟨d', as', m, r', rfl⟩ := dataKind_inv e
  rw [e, Reads.unique d' d v as' as (hal.lay d' m) r' r]
  rfl
theorem kind_eq {x y : PyData} (h : fcmp x y) : dataType x = dataType y := by
  cases x with
  | tuple xs => obtain ⟨ys, rfl, _⟩ := fcmp_tt h; rfl
  | dict _ => unfold fcmp at h; exact h.elim
  | _ => exact dataType_alike (fcmp_al h (by intro t z; cases z))
theorem sorts_f {vs : List Value} {ds : List PyData} (e : EachIs (fun v d => ∃ as, Reads s.heap v d as) vs ds) (hal : AllCmp ds) (hk : PySem.W.Sortable ds) (hu : ∀ d, d ∈ ds → A.units + d.depth < cLine) : SortsAt prog w A s (dataKind s.heap ds) vs := by
  rcases hk with ht | hn
  · refine ⟨fun v hv => ?_, ?_⟩
    · obtain ⟨d, hd, as, r⟩ := e.left v hv
      exact ⟨_, kind_some hal hd r⟩
    · cases ds with
      | nil =>
        cases e
        refine ⟨general', fun E x y a b Q ha _ _ => ?_, fun z => absurd z (by simp)⟩
        obtain ⟨d, _, hd, _⟩ := dataKind_inv ha
        cases hd
      | cons d0 dr =>
        obtain ⟨x0, r0, e0⟩ := ht d0 List.mem_cons_self
        have first : ∀ x r, PyData.tuple (x :: r) ∈ d0 :: dr → fcmp x x0 := fun x r m => by
          have q := hal.cmp _ m d0 List.mem_cons_self
          rw [e0] at q
          obtain ⟨ys, e1, q⟩ := fcmp_tt q
          cases e1
          exact (fcmps_cons q).1
        refine ⟨tuples' (dataType x0 != Value.type "tuple"), ?_, fun h2 E Q hq => ?_⟩
        · intro E u v a b Q ha hb hq
          obtain ⟨d, as, md, ra, rfl⟩ := dataKind_inv ha
          obtain ⟨d', as', md', rb, rfl⟩ := dataKind_inv hb
          have hc := hal.cmp d md d' md'
          have l1 := hal.lay d md
          have l2 := hal.lay d' md'
          have rm : A.units + min d.depth d'.depth < cLine := by have := hu d md; omega
          obtain ⟨x1, r1, rfl⟩ := ht d md
          obtain ⟨x2, r2, rfl⟩ := ht d' md'
          have hq : Q (dataLt (.tuple (x1 :: r1)) (.tuple (x2 :: r2))) s := hq
          rw [dataLt_tuple] at hq
          obtain ⟨ys, ey, hc⟩ := fcmp_tt hc
          cases ey
          cases ra with
          | tuple a1 a2 a3 a4 =>
            cases rb with
            | tuple b1 b2 b3 b4 =>
              have n1 := SeqAt.ReadsAll.length _ _ _ a4
              have n2 := SeqAt.ReadsAll.length _ _ _ b4
              refine kat_lt a1 a3 b1 b3 (kat_f (x1 :: r1) (x2 :: r2) 0 _ _ _ _ a4 b4 hc l1 l2 (by have := room_in rm; omega) (fun z _ x r t ex => ?_) (by rw [← n1, ← n2]; simp) hq)
              cases ex
              rw [← kind_eq (first _ _ md)] at z
              exact dataType_tuple z t
        · obtain ⟨fs, t1, t2, t3⟩ := each_katTups e ht
          refine kat_kind (T := dataType x0) t1 (by omega) (fun f hf => ?_) (beq_self_eq_true _) hq
          obtain ⟨x, r, as, m1, m2⟩ := t3 f hf
          rw [← kind_eq (first x r m1)]
          exact looks_reads m2
  · exact SortsAt.data e (fun d hd d' hd' => fcmp_al (hal.cmp d hd d' hd') (hn d hd).2) (.inr hn) hu
theorem sv_f {h' : Heap} {β : Type} {R : Value → β → Prop} {enc : β → PyData} {vs : List Value} {bs : List β} (e : EachIs R vs bs) (er : EachIs (fun v b => ∃ as, Reads h' v (enc b) as) vs bs) (hal : AllCmp (bs.map enc)) :
    EachIs R (sortVals (dataKind h' (bs.map enc)) false vs vs) (bs.mergeSort (dataLe false enc)) :=
  sortVals_each (κ := dataKind h' (bs.map enc)) (fun b => keyToks (enc b)) e ((each_mem er).mono fun _ _ ⟨⟨_, r⟩, hb⟩ => kind_some hal (List.mem_map.mpr ⟨_, hb, rfl⟩) r)
variable {β : Type} {vs : List Value} {bs : List β} {enc : β → PyData} {R : Value → β → Prop}
theorem sorted_f {l : Addr} {Q : Value → Shared → Prop} (hl : s.heap.IsList l vs.toArray) (e : EachIs R vs bs) (er : EachIs (fun v b => ∃ as, Reads s.heap v (enc b) as) vs bs) (hal : AllCmp (bs.map enc)) (hk : PySem.W.Sortable (bs.map enc)) (hL : bs.length ≤ sizeLine)
    (hu : ∀ b, b ∈ bs → A.units + 2 + (enc b).depth < cLine) (h : ∀ out, out.length = bs.length → EachIs R out (bs.mergeSort (dataLe false enc)) → Q (.ref (s.heap.objs.size + 1)) { s with heap := sortedAll s.heap vs (List.toArray out) }) :
    wpAny (model prog w) A (call (.builtin "sorted") [.ref l]) Q E s := by
  have er' : EachIs (fun v b => ∃ as, Reads (sortingHeap (copyHeap s.heap vs) (s.heap.objs.size + 1) vs) v (enc b) as) vs bs := er.mono fun _ _ ⟨as, r⟩ => ⟨as, PyProof.Rows.Reads.keeps (fun _ _ => sorting_copy_old) r⟩
  have S := sorts_f (prog := prog) (w := w) (A := A.in1.in1) (s := { s with heap := sortingHeap (copyHeap s.heap vs) (s.heap.objs.size + 1) vs }) (each_map (R := fun v d => ∃ as, Reads (sortingHeap (copyHeap s.heap vs) (s.heap.objs.size + 1) vs) v d as) enc er') hal hk (bound_map hu)
  exact sorted_vals hl S (by rw [e.length]; exact hL) (h _ (by rw [sortVals_length false rfl]; exact e.length) (sv_f e er' hal))
theorem list_sort_f {a : Addr} {n : Nat} {Q : Value → Shared → Prop} (ho : s.heap.get? a = some (seqObj "list" vs.toArray n)) (e : EachIs R vs bs) (er : EachIs (fun v b => ∃ as, Reads s.heap v (enc b) as ∧ a ∉ as) vs bs) (hal : AllCmp (bs.map enc)) (hk : PySem.W.Sortable (bs.map enc)) (hL : bs.length ≤ sizeLine)
    (hu : ∀ b, b ∈ bs → A.units + 1 + (enc b).depth < cLine) (h : ∀ out, out.length = bs.length → EachIs R out (bs.mergeSort (dataLe false enc)) → Q .none { s with heap := sortedHeap s.heap a vs (List.toArray out) }) :
    wpAny (model prog w) A (call (.builtin "list.sort") [.ref a]) Q E s := by
  have er' : EachIs (fun v b => ∃ as, Reads (sortingHeap s.heap a vs) v (enc b) as) vs bs := (each_mem er).mono fun v b ⟨⟨as, r, hn⟩, hb⟩ =>
    ⟨as, PySem.W.Reads.keepBut (h := s.heap) (a := a) (fun _ _ hb q => sortingHeap_old hb q) (fun o q => by rw [ho] at q; rw [← Option.some.inj q]) _ _ _ (al_lay _ (hal.lay _ (List.mem_map.mpr ⟨b, hb, rfl⟩))) r hn⟩
  have S := sorts_f (prog := prog) (w := w) (A := A.in1) (s := { s with heap := sortingHeap s.heap a vs }) (each_map (R := fun v d => ∃ as, Reads (sortingHeap s.heap a vs) v d as) enc er') hal hk (bound_map hu)
  refine wpAny_call_entry slot_list_sort ⟨_, ho, rfl⟩ entry_list_sort (list_sort_vals (κ := dataKind (sortingHeap s.heap a vs) (bs.map enc)) ho S (by rw [e.length]; exact hL) ⟨.none, rfl, ?_⟩) (args_list_sort _)
  exact h _ (by rw [sortVals_length false rfl]; exact e.length) (sv_f e er' hal)
end
end SG
namespace SG
open PySem PySem.Spec PyProof.Rows L2

/-! ### the small language -/
inductive Op where
  | add | addM | sub | mul | mulM | fdiv | mod | pow
inductive Cp where
  | eq | ne | lt | le | gt | ge | is | isnot | isin | notin
inductive Bl where
  | len | abs | max | min | sum | all | any | int | str | repr | tuple | list | listM | sorted | sortedM
inductive Mt where
  | append | extend | insert | index | count | pop
inductive Ty where
  | int | bool | str | tuple | list
/-- targets -/
inductive Tg where
  | nm (i : Nat)
  | tp (gs : List Tg)

mutual
inductive E where
  | var (i : Nat)
  | cst (v : PV)
  | bin (op : Op) (a b : E)
  | neg (a : E)
  | cmp (op : Cp) (a b : E)
  | chain (op op' : Cp) (a b c : E)
  | and (a b : E)
  | or (a b : E)
  | not (a : E)
  | ite (c a b : E)
  | tup (es : List E)
  | lst (mt : Bool) (es : List E)
  | emp
  | ix (a b : E)
  | sl (a : E) (lo hi : Option E)
  | rev (a : E)
  | call (f : Str) (es : List E)
  | callv (i : Nat) (es : List E)
  | blt (b : Bl) (es : List E)
  | mth (m : Mt) (o : E) (es : List E)
  | isi (a : E) (t : Ty)
  | comp (mt : Bool) (g : Tg) (it : It) (c : Option E) (elt : E)
  | lrange (a b : E)
  | sset (mt : Bool) (a : E)
  | srt (mt : Bool) (a : E)
  | dnew
  | dget (o k x : E)
  | dix (o k : E)
  | ditems (mt : Bool) (o : E)
  | dcomp (g : Tg) (it : It) (c : Option E) (k v : E)
  | klit (es : List E)
  | knew
  | never
inductive It where
  | val (e : E)
  | rng (e : E)
  | rng2 (a b : E)
  | zip (es : List E)
  | enm (e : E)
  | dits (e : E)
  | dkeys (e : E)
end
inductive S where
  | expr (e : E)
  | asg (g : Tg) (e : E)
  | par (is : List Nat) (es : List E)
  | six (o i e : E)
  | dset (o i e : E)
  | aug (i : Nat) (op : Op) (e : E)
  | augx (o i : E) (op : Op) (e : E)
  | ret (e : E)
  | ret0
  | ite (c : E) (a b : List S)
  | for_ (g : Tg) (it : It) (body : List S)
  | while_ (c : E) (body : List S)
  | pass
  | brk
  | cont
  | never
abbrev Rho := List (Option PV)
abbrev Q1 := PV → Sto → Prop
abbrev FS := Str → List PV → Sto → Q1 → Prop

/-! ### what values do -/
/-- a list's items -/
def lo (M : Sto) : PV → Option (List PV)
  | .lst xs => some xs
  | .ref a => match M a with
    | some (.lst xs) => some xs
    | _ => none
  | _ => none
/-- a list's or a tuple's items -/
def so (M : Sto) : PV → Option (List PV)
  | .tup xs => some xs
  | v => lo M v
def truS (M : Sto) : PV → Option Bool
  | .non => some false
  | .bl b => some b
  | .int i => some (i != 0)
  | .str x => if x.length ≤ sizeLine then some ((x.length : Int) != 0) else none
  | .emp => some false
  | v => (so M v).map fun xs => !xs.isEmpty
def newL (mt : Bool) (xs : List PV) (M : Sto) (Q : Q1) : Prop :=
  if mt = true then ∀ p, M p = none → Q (.ref p) (M.put p (.lst xs)) else Q (.lst xs) M
mutual
def PV.dep : PV → Nat
  | .tup xs => PV.deps xs + 1
  | .lst xs => PV.deps xs + 1
  | .emp => 1
  | _ => 0
def PV.deps : List PV → Nat
  | [] => 0
  | x :: r => Nat.max (PV.dep x) (PV.deps r)
end
/-- a list of the store as a tree -/
def PV.now (M : Sto) : PV → PV
  | .ref a => match M a with
    | some (.lst xs) => .lst xs
    | _ => .ref a
  | v => v
mutual
/-- == -/
def PV.eqb : PV → PV → Bool
  | .non, .non => true
  | .bl a, .bl b => a == b
  | .bl a, .int j => (if a = true then 1 else 0) == j
  | .int i, .bl b => i == (if b = true then 1 else 0)
  | .int i, .int j => i == j
  | .str x, .str y => x == y
  | .tup xs, .tup ys => PV.eqbs xs ys
  | .lst xs, .lst ys => PV.eqbs xs ys
  | _, _ => false
def PV.eqbs : List PV → List PV → Bool
  | [], [] => true
  | x :: r, y :: t => PV.eqb x y && PV.eqbs r t
  | _, _ => false
end
mutual
/-- plain data, {} too -/
def PV.ple : PV → Bool
  | .str x => PyData.strOk x
  | .tup xs => PV.ples xs
  | .lst xs => PV.ples xs
  | .ref _ => false
  | .fn _ => false
  | _ => true
def PV.ples : List PV → Bool
  | [] => true
  | x :: r => PV.ple x && PV.ples r
end
mutual
theorem PV.pl_ple : ∀ v : PV, v.pl = true → v.ple = true
  | .non, _ => rfl
  | .bl _, _ => rfl
  | .int _, _ => rfl
  | .str x, h => by unfold PV.pl at h; unfold PV.ple; exact h
  | .tup xs, h => by unfold PV.pl at h; unfold PV.ple; exact PV.pls_ples xs h
  | .lst xs, h => by unfold PV.pl at h; unfold PV.ple; exact PV.pls_ples xs h
  | .ref _, h => by unfold PV.pl at h; cases h
  | .fn _, h => by unfold PV.pl at h; cases h
  | .emp, h => by unfold PV.pl at h; cases h
theorem PV.pls_ples : ∀ vs : List PV, PV.pls vs = true → PV.ples vs = true
  | [], _ => rfl
  | x :: r, h => by
    unfold PV.pls at h
    unfold PV.ples
    rw [Bool.and_eq_true_iff] at h ⊢
    exact ⟨PV.pl_ple x h.1, PV.pls_ples r h.2⟩
end
/-- a text, or () -/
def PV.isW : PV → Bool
  | .str _ => true
  | .tup [] => true
  | _ => false
/-- the two may be compared -/
def cmpOk (M : Sto) (x y : PV) : Prop := (∃ a b, x = .str a ∧ y = .str b) ∨ ((x.now M).pl = true ∧ (y.now M).pl = true ∧ ((x.now M).dep ≤ 64 ∨ (y.now M).dep ≤ 64)) ∨ (x.ple = true ∧ y.isW = true)
def eqS (M : Sto) (x y : PV) : Bool := PV.eqb (x.now M) (y.now M)
/-- an empty dict is like nothing of other kinds -/
def mulS (mt : Bool) : PV → PV → Sto → Q1 → Prop
  | .int i, .int j, M, Q => ((i.natAbs.log2 < 64 ∨ j.natAbs.log2 < 64) ∨ i.natAbs.log2 + j.natAbs.log2 < 1000000) ∧ Q (.int (i * j)) M
  | .tup xs, .int k, M, Q => 1 ≤ k ∧ k ≤ 1000 ∧ xs ≠ [] ∧ xs.length ≤ 1000 ∧ Q (.tup (List.replicate k.toNat xs).flatten) M
  | x, .int k, M, Q => ∃ xs, lo M x = some xs ∧ -(2 ^ 63) ≤ k ∧ k < 2 ^ 63 ∧ xs.length * k.toNat ≤ sizeLine ∧ newL mt (List.replicate k.toNat xs).flatten M Q
  | _, _, _, _ => False
def addS (mt : Bool) : PV → PV → Sto → Q1 → Prop
  | .int i, .int j, M, Q => Q (.int (i + j)) M
  | .str x, .str y, M, Q => x.length + y.length ≤ sizeLine ∧ Q (.str (x ++ y)) M
  | .tup xs, .tup ys, M, Q => xs.length + ys.length ≤ sizeLine ∧ Q (.tup (xs ++ ys)) M
  | x, y, M, Q => ∃ xs ys, lo M x = some xs ∧ lo M y = some ys ∧ xs.length + ys.length ≤ sizeLine ∧ newL mt (xs ++ ys) M Q
def binS : Op → PV → PV → Sto → Q1 → Prop
  | .add, x, y, M, Q => addS false x y M Q
  | .addM, x, y, M, Q => addS true x y M Q
  | .sub, x, y, M, Q => ∃ i j, x = .int i ∧ y = .int j ∧ Q (.int (i - j)) M
  | .mul, x, y, M, Q => mulS false x y M Q
  | .mulM, x, y, M, Q => mulS true x y M Q
  | .fdiv, x, y, M, Q => ∃ i j, x = .int i ∧ y = .int j ∧ 0 < j ∧ j.natAbs.log2 < 9000 ∧ Q (.int (i / j)) M
  | .mod, x, y, M, Q => ∃ i j, x = .int i ∧ y = .int j ∧ 0 < j ∧ Q (.int (i % j)) M
  | .pow, x, y, M, Q => ∃ i j, x = .int i ∧ y = .int j ∧ 0 ≤ j ∧ j ≤ 1000000 ∧ i.natAbs < 2 ^ 64 ∧ Q (.int (i ^ j.toNat)) M
/-- < of tuples of ints -/
def PV.ints : List PV → Option (List Int)
  | [] => some []
  | .int i :: r => (PV.ints r).map (i :: ·)
  | _ :: _ => none
def ordI (op : Cp) (i j : Int) : Bool := match op with
  | .lt => decide (i < j)
  | .le => decide (i ≤ j)
  | .gt => decide (j < i)
  | .ge => decide (j ≤ i)
  | _ => false
def ordS (op : Cp) : PV → PV → Sto → Q1 → Prop
  | .int i, .int j, M, Q => Q (.bl (ordI op i j)) M
  | .tup xs, .tup ys, M, Q => op = .lt ∧ ∃ ns ms, PV.ints xs = some ns ∧ PV.ints ys = some ms ∧ Q (.bl (HT.lexLt ns ms)) M
  | _, _, _, _ => False
/-- x may be looked for in y -/
def inOk (x y : PV) (ys : List PV) : Prop := (x.pl = true ∧ PV.pls ys = true ∧ (x.dep ≤ 64 ∨ PV.deps ys ≤ 64)) ∨ (x.ple = true ∧ y = .tup ys ∧ ∀ z ∈ ys, ∃ t, z = .str t)
def inS (neg : Bool) (x : PV) : PV → Sto → Q1 → Prop
  | y, M, Q => ∃ ys, so M y = some ys ∧ inOk x y ys ∧ Q (.bl (if neg = true then !(ys.any fun z => PV.eqb z x) else ys.any fun z => PV.eqb z x)) M
def isS (neg : Bool) : PV → PV → Sto → Q1 → Prop
  | .bl a, .bl b, M, Q => Q (.bl (if neg = true then !(a == b) else a == b)) M
  | x, .non, M, Q => Q (.bl (if neg = true then !(match x with | .non => true | _ => false) else (match x with | .non => true | _ => false))) M
  | _, _, _, _ => False
def cmpS : Cp → PV → PV → Sto → Q1 → Prop
  | .eq, x, y, M, Q => cmpOk M x y ∧ Q (.bl (eqS M x y)) M
  | .ne, x, y, M, Q => cmpOk M x y ∧ Q (.bl (!eqS M x y)) M
  | .is, x, y, M, Q => isS false x y M Q
  | .isnot, x, y, M, Q => isS true x y M Q
  | .isin, x, y, M, Q => inS false x y M Q
  | .notin, x, y, M, Q => inS true x y M Q
  | op, x, y, M, Q => ordS op x y M Q
def ixS : PV → PV → Sto → Q1 → Prop
  | .str z, .int i, M, Q => z.length ≤ sizeLine ∧ ∃ c, atI z.cps.toList i = some c ∧ Q (.str ⟨#[c]⟩) M
  | x, .int i, M, Q => ∃ xs v, so M x = some xs ∧ atI xs i = some v ∧ Q v M
  | _, _, _, _ => False
def cutP {α : Type} (xs : List α) (lo hi : Option Int) : List α := (xs.drop (HT.sIx xs.length 0 lo)).take (HT.sIx xs.length xs.length hi - HT.sIx xs.length 0 lo)
def slS : PV → Option Int → Option Int → Sto → Q1 → Prop
  | .tup xs, l, h, M, Q => Q (.tup (cutP xs l h)) M
  | x, l, h, M, Q => ∃ xs, lo M x = some xs ∧ Q (.lst (cutP xs l h)) M
def revS : PV → Sto → Q1 → Prop
  | .tup xs, M, Q => Q (.tup xs.reverse) M
  | x, M, Q => ∃ xs, lo M x = some xs ∧ Q (.lst xs.reverse) M
def tyS : PV → Sto → Option Ty
  | .bl _, _ => some .bool
  | .int _, _ => some .int
  | .str _, _ => some .str
  | .tup _, _ => some .tuple
  | .lst _, _ => some .list
  | .ref a, M => match M a with
    | some (.lst _) => some .list
    | _ => none
  | _, _ => none
def isiS (x : PV) (M : Sto) (t : Ty) : Option Bool := match x with
  | .non => some false
  | .emp => some false
  | .bl _ => some (match t with | .int => true | .bool => true | _ => false)
  | .int _ => some (match t with | .int => true | _ => false)
  | .str _ => some (match t with | .str => true | _ => false)
  | .tup _ => some (match t with | .tuple => true | _ => false)
  | .lst _ => some (match t with | .list => true | _ => false)
  | .ref a => match M a with
    | some (.lst _) => some (match t with | .list => true | _ => false)
    | _ => none
  | .fn _ => none
def maxI : Int → List Int → Int
  | m, [] => m
  | m, x :: r => maxI (if x > m then x else m) r
def minI : Int → List Int → Int
  | m, [] => m
  | m, x :: r => minI (if x < m then x else m) r
def PV.bools : List PV → Option (List Bool)
  | [] => some []
  | .bl i :: r => (PV.bools r).map (i :: ·)
  | _ :: _ => none
/-- one argument, by its value -/
def one1 (f : PV → Sto → Q1 → Prop) : List PV → Sto → Q1 → Prop
  | [v], M, Q => f v M Q
  | _, _, _ => False
def lenS : PV → Sto → Q1 → Prop
  | .str x, M, Q => x.length ≤ sizeLine ∧ Q (.int x.length) M
  | v, M, Q => ∃ xs, so M v = some xs ∧ Q (.int xs.length) M
def absS : PV → Sto → Q1 → Prop
  | .int i, M, Q => Q (.int (if i < 0 then -i else i)) M
  | _, _, _ => False
def maxS : List PV → Sto → Q1 → Prop
  | [x, y], M, Q => ∃ i j, x = .int i ∧ y = .int j ∧ Q (.int (if j > i then j else i)) M
  | [v], M, Q => ∃ xs n ns, lo M v = some xs ∧ PV.ints xs = some (n :: ns) ∧ Q (.int (maxI n ns)) M
  | _, _, _ => False
def minS : List PV → Sto → Q1 → Prop
  | [x, y], M, Q => ∃ i j, x = .int i ∧ y = .int j ∧ Q (.int (if j < i then j else i)) M
  | [v], M, Q => ∃ xs n ns, lo M v = some xs ∧ PV.ints xs = some (n :: ns) ∧ Q (.int (minI n ns)) M
  | _, _, _ => False
def intS : PV → Sto → Q1 → Prop
  | .int i, M, Q => Q (.int i) M
  | .bl b, M, Q => Q (.int (if b = true then 1 else 0)) M
  | _, _, _ => False
def strS : PV → Sto → Q1 → Prop
  | .int i, M, Q => i.natAbs.log2 < 1920 ∧ Q (.str (toString i)) M
  | .bl b, M, Q => Q (.str (if b = true then "True" else "False")) M
  | _, _, _ => False
mutual
def PV.dat : PV → PyData
  | .non => .none
  | .bl b => .bool b
  | .int i => .int i
  | .str x => .str x
  | .tup xs => .tuple (PV.dats xs)
  | .lst xs => .list (PV.dats xs)
  | .ref _ => .none
  | .fn _ => .none
  | .emp => .dict []
def PV.dats : List PV → List PyData
  | [] => []
  | x :: r => PV.dat x :: PV.dats r
end
/-- what repr can show -/
def repOk (v : PV) : Prop := v.ple = true ∧ v.dep ≤ 60 ∧ v.dat.showable = true ∧ v.dat.shown.length ≤ sizeLine
def bltS : Bl → List PV → Sto → Q1 → Prop
  | .len => one1 lenS
  | .abs => one1 absS
  | .max => maxS
  | .min => minS
  | .sum => one1 fun v M Q => ∃ xs ns, so M v = some xs ∧ PV.ints xs = some ns ∧ Q (.int ns.sum) M
  | .all => one1 fun v M Q => ∃ xs bs, lo M v = some xs ∧ PV.bools xs = some bs ∧ Q (.bl (bs.all id)) M
  | .any => one1 fun v M Q => ∃ xs bs, lo M v = some xs ∧ PV.bools xs = some bs ∧ Q (.bl (bs.any id)) M
  | .int => one1 intS
  | .str => one1 strS
  | .repr => one1 fun v M Q => repOk (v.now M) ∧ Q (.str (v.now M).dat.shown) M
  | .tuple => one1 fun v M Q => ∃ xs, so M v = some xs ∧ Q (.tup xs) M
  | .list => one1 fun v M Q => ∃ xs, so M v = some xs ∧ Q (.lst xs) M
  | .listM => one1 fun v M Q => ∃ xs, so M v = some xs ∧ newL true xs M Q
  | .sorted => fun _ _ _ => False
  | .sortedM => fun _ _ _ => False
def mthS : Mt → PV → List PV → Sto → Q1 → Prop
  | .append, x, [y], M, Q => ∃ a xs, x = .ref a ∧ M a = some (.lst xs) ∧ xs.length < sizeLine ∧ Q .non (M.put a (.lst (xs ++ [y])))
  | .extend, x, [y], M, Q => ∃ a xs ys, x = .ref a ∧ M a = some (.lst xs) ∧ lo M y = some ys ∧ xs.length + ys.length ≤ sizeLine ∧ Q .non (M.put a (.lst (xs ++ ys)))
  | .index, x, [y], M, Q => ∃ ys j, lo M x = some ys ∧ y.pl = true ∧ PV.pls ys = true ∧ (y.dep ≤ 64 ∨ PV.deps ys ≤ 64) ∧ ys.findIdx? (fun z => PV.eqb z y) = some j ∧ Q (.int (j : Nat)) M
  | .count, x, [y], M, Q => ∃ ys, lo M x = some ys ∧ y.pl = true ∧ PV.pls ys = true ∧ (y.dep ≤ 64 ∨ PV.deps ys ≤ 64) ∧ Q (.int ((ys.countP fun z => PV.eqb z y : Nat) : Int)) M
  | .insert, x, [i, y], M, Q => ∃ a xs k, x = .ref a ∧ i = .int k ∧ M a = some (.lst xs) ∧ xs.length < sizeLine ∧ 0 ≤ k ∧ k < 2 ^ 63 ∧ Q .non (M.put a (.lst (xs.take k.toNat ++ [y] ++ xs.drop k.toNat)))
  | .pop, x, [i], M, Q => ∃ a xs k v, x = .ref a ∧ i = .int ((k : Nat) : Int) ∧ M a = some (.lst xs) ∧ xs.length ≤ sizeLine ∧ xs[k]? = some v ∧ Q v (M.put a (.lst (xs.eraseIdx k)))
  | _, _, _, _, _ => False
/-- what a method's own object must be -/
def rcvS : Mt → PV → Sto → Prop
  | _, x, M => ∃ ys, lo M x = some ys
/-- a dict's pairs -/
def dO (M : Sto) : PV → Option (List (PV × PV))
  | .ref a => match M a with
    | some (.dct kvs _) => some kvs
    | _ => none
  | _ => none
/-- what may be a key -/
def keyOk (k : PV) : Prop := (∃ xs, k = .tup xs) ∧ k.pl = true ∧ ∃ nk, k.key = some nk ∧ nk.depth ≤ 8
def dlook (kvs : List (PV × PV)) (k : PV) : Option PV := (kvs.find? fun p => decide (p.1.key = k.key)).map (·.2)
def dstore (kvs : List (PV × PV)) (k v : PV) : List (PV × PV) := if (dlook kvs k).isSome = true then kvs.map fun p => if p.1.key = k.key then (p.1, v) else p else kvs ++ [(k, v)]
/-- plain keys -/
def PV.pk : PV → Option Key
  | .int i => some (.inl i)
  | .str x => some (.inr x)
  | _ => none
def kPV : Key → PV
  | .inl i => .int i
  | .inr x => .str x
def klook (kvs : List (Key × PV)) (k : Key) : Option PV := (kvs.find? fun p => decide (p.1 = k)).map (·.2)
def kput (kvs : List (Key × PV)) (k : Key) (v : PV) : List (Key × PV) := if (kvs.any fun p => decide (p.1 = k)) = true then kvs.map (fun p => if p.1 = k then (p.1, v) else p) else kvs ++ [(k, v)]
def kmerge (kvs : List (Key × PV)) : List (Key × PV) := kvs.foldl (fun acc p => kput acc p.1 p.2) []
/-- keys and values by turns -/
def pairK : List PV → Option (List (Key × PV))
  | [] => some []
  | [_] => none
  | k :: v :: r => match k.pk, pairK r with
    | some n, some kvs => some ((n, v) :: kvs)
    | _, _ => none
def isD (M : Sto) : PV → Bool
  | .ref a => match M a with
    | some (.dct _ _) => true
    | some (.dks _ _) => true
    | _ => false
  | _ => false
/-- what stands at a key -/
def dlk (M : Sto) (d k : PV) (P : Option PV → Prop) : Prop := match d with
  | .ref a => (match M a with
    | some (.dct kvs _) => keyOk k ∧ P (dlook kvs k)
    | some (.dks kvs _) => ∃ n, k.pk = some n ∧ P (klook kvs n)
    | _ => False)
  | _ => False
/-- a dict's pairs, whatever its keys -/
def entsS (M : Sto) (a : Addr) : Option (List (PV × PV)) := match M a with
  | some (.dct kvs _) => some kvs
  | some (.dks kvs _) => some (kvs.map fun p => (kPV p.1, p.2))
  | _ => none
/-- d[k] = v -/
def dsetS : PV → PV → PV → Sto → (Sto → Prop) → Prop
  | .ref a, k, v, M, Q => (match M a with
    | some (.dct kvs _) => keyOk k ∧ kvs.length < sizeLine ∧ ∀ t', Q (M.put a (.dct (dstore kvs k v) t'))
    | some (.dks kvs _) => ∃ n, k.pk = some n ∧ kvs.length < sizeLine ∧ ∀ t', Q (M.put a (.dks (kput kvs n v) t'))
    | _ => False)
  | _, _, _, _, _ => False
def pairV (p : PV × PV) : PV := .tup [p.1, p.2]
/-- o[i] = v -/
def setS : PV → PV → PV → Sto → (Sto → Prop) → Prop
  | .ref a, .int k, v, M, Q => ∃ xs j, M a = some (.lst xs) ∧ ixN xs.length k = some j ∧ Q (M.put a (.lst (xs.set j v)))
  | _, _, _, _, _ => False

/-- o[i] of o[i] op= e -/
def ixM : PV → PV → Sto → Q1 → Prop
  | .ref a, .int i, M, Q => ∃ xs v, M a = some (.lst xs) ∧ 0 ≤ i ∧ xs[i.toNat]? = some v ∧ Q v M
  | _, _, _, _ => False
/-- a op= b -/
def augS : Op → PV → PV → Sto → Q1 → Prop
  | .add, .int i, .int j, M, Q => Q (.int (i + j)) M
  | .add, .str x, .str y, M, Q => x.length + y.length ≤ sizeLine ∧ Q (.str (x ++ y)) M
  | .sub, .int i, .int j, M, Q => Q (.int (i - j)) M
  | _, _, _, _, _ => False

/-- sorted(x) -/
def psort (xs : List PV) : List PV := xs.mergeSort fun a b => !PySem.W.dataLt b.dat a.dat
def PV.isT : PV → Bool
  | .tup (_ :: _) => true
  | _ => false
def PV.isO : PV → Bool
  | .tup _ => false
  | .non => false
  | _ => true
def srtS (mt : Bool) (x : PV) (M : Sto) (Q : Q1) : Prop := ∃ xs, lo M x = some xs ∧ (∀ v ∈ xs, v.pl = true ∧ v.dep ≤ 40) ∧ ((∀ v ∈ xs, v.isT = true) ∨ (∀ v ∈ xs, v.isO = true)) ∧ (∀ v ∈ xs, ∀ u ∈ xs, fcmp v.dat u.dat) ∧ newL mt (psort xs) M Q

/-- sorted(set(x)) -/
def ssItem (v : PV) : Prop := ∃ y r k, v = .tup (y :: r) ∧ v.key = some k ∧ k.depth ≤ 8 ∧ v.pl = true ∧ v.dep ≤ 40
/-- ys: the things of xs once each, in order -/
structure Sset (xs ys : List PV) : Prop where
  sub : ∀ y ∈ ys, y ∈ xs
  all : ∀ v ∈ xs, ∃ y ∈ ys, y.key = v.key
  nd : (ys.map PV.key).Nodup
  ord : ys.Pairwise fun a b => PySem.W.dataLt b.dat a.dat = false
def ssetS (mt : Bool) (x : PV) (M : Sto) (Q : Q1) : Prop := ∃ xs, lo M x = some xs ∧ xs.length < 64 ∧ (∀ v ∈ xs, ssItem v) ∧ (∀ v ∈ xs, ∀ u ∈ xs, fcmp v.dat u.dat) ∧ ∀ ys, Sset xs ys → newL mt ys M Q

/-! ### names -/
def setAll : List Nat → List PV → Rho → Rho
  | i :: is, v :: vs, ρ => setAll is vs (ρ.set i (some v))
  | _, _, ρ => ρ
mutual
def bindT (M : Sto) : Tg → PV → Rho → Option Rho
  | .nm i, v, ρ => some (ρ.set i (some v))
  | .tp gs, v, ρ => (match so M v with
    | some vs => bindTs M gs vs ρ
    | none => none)
def bindTs (M : Sto) : List Tg → List PV → Rho → Option Rho
  | [], vs, ρ => (match vs with
    | [] => some ρ
    | _ => none)
  | g :: gs, vs, ρ => (match vs with
    | v :: r => (match bindT M g v ρ with
      | some ρ' => bindTs M gs r ρ'
      | none => none)
    | [] => none)
end

/-! ### what is walked -/
/-- the items, and what must stay while they are walked -/
abbrev QI := List PV → (Sto → Prop) → Sto → Prop
def walkS (v : PV) (M : Sto) (Q : QI) : Prop :=
  match v with
  | .tup xs => Q xs (fun _ => True) M
  | .lst xs => Q xs (fun _ => True) M
  | .ref a => ∃ xs, M a = some (.lst xs) ∧ Q xs (fun M' => M' a = some (.lst xs)) M
  | _ => False
def rngL (lo hi : Int) : List PV := (List.range (hi - lo).toNat).map fun i => .int (lo + (i : Nat))
def zipL : List PV → List PV → List PV
  | x :: r, y :: t => .tup [x, y] :: zipL r t
  | _, _ => []
def zipL3 : List PV → List PV → List PV → List PV
  | x :: r, y :: t, z :: u => .tup [x, y, z] :: zipL3 r t u
  | _, _, _ => []
def enmL : Nat → List PV → List PV
  | _, [] => []
  | i, x :: r => .tup [.int i, x] :: enmL (i + 1) r
/-- what zip walks -/
def srcS : PV → Option (List PV)
  | .tup xs => some xs
  | .lst xs => some xs
  | _ => none
def zipS (vs : List PV) (M : Sto) (Q : QI) : Prop :=
  match vs with
  | [x, y] => ∃ xs ys, srcS x = some xs ∧ srcS y = some ys ∧ Q (zipL xs ys) (fun _ => True) M
  | [x, y, z] => ∃ xs ys zs, srcS x = some xs ∧ srcS y = some ys ∧ srcS z = some zs ∧ Q (zipL3 xs ys zs) (fun _ => True) M
  | _ => False

/-! ### comprehensions and loops -/
def compL (step : PV → Sto → (Option PV → Sto → Prop) → Prop) (keep : Sto → Prop) : List PV → List PV → Sto → (List PV → Sto → Prop) → Prop
  | [], acc, M, Q => Q acc M
  | x :: r, acc, M, Q => step x M fun o M' => keep M' ∧ compL step keep r (match o with | some v => acc ++ [v] | none => acc) M' Q
def dcompL (step : PV → Sto → (Option (PV × PV) → Sto → Prop) → Prop) (keep : Sto → Prop) : List PV → List (PV × PV) → Sto → (List (PV × PV) → Sto → Prop) → Prop
  | [], acc, M, Q => Q acc M
  | x :: r, acc, M, Q => step x M fun o M' => keep M' ∧ dcompL step keep r (match o with | some p => dstore acc p.1 p.2 | none => acc) M' Q
structure Ends where
  nx : Rho → Sto → Prop
  rt : PV → Sto → Prop
  bk : Rho → Sto → Prop
  ct : Rho → Sto → Prop
def forL (turn : PV → Rho → Sto → (Rho → Sto → Prop) → Prop) (keep : Sto → Prop) (done : Rho → Sto → Prop) : List PV → Rho → Sto → Prop
  | [], ρ, M => done ρ M
  | x :: r, ρ, M => turn x ρ M fun ρ' M' => keep M' ∧ forL turn keep done r ρ' M'
def whileN (turn : Rho → Sto → (Rho → Sto → Prop) → Prop) : Nat → Rho → Sto → Prop
  | 0, _, _ => False
  | n + 1, ρ, M => turn ρ M fun ρ' M' => whileN turn n ρ' M'

mutual
def wpE (F : FS) : E → Rho → Sto → Q1 → Prop
  | .var i, ρ, M, Q => ∃ v, ρ[i]? = some (some v) ∧ Q v M
  | .cst v, _, M, Q => Q v M
  | .bin op a b, ρ, M, Q => wpE F a ρ M fun x M1 => wpE F b ρ M1 fun y M2 => binS op x y M2 Q
  | .neg a, ρ, M, Q => wpE F a ρ M fun x M1 => ∃ i, x = .int i ∧ Q (.int (-i)) M1
  | .cmp op a b, ρ, M, Q => wpE F a ρ M fun x M1 => wpE F b ρ M1 fun y M2 => cmpS op x y M2 Q
  | .chain op op' a b c, ρ, M, Q => wpE F a ρ M fun x M1 => wpE F b ρ M1 fun y M2 => cmpS op x y M2 fun z M3 => ∃ k, z = .bl k ∧ if k = true then wpE F c ρ M3 (fun w M4 => cmpS op' y w M4 Q) else Q (.bl false) M3
  | .and a b, ρ, M, Q => wpE F a ρ M fun x M1 => ∃ k, truS M1 x = some k ∧ if k = true then wpE F b ρ M1 Q else Q x M1
  | .or a b, ρ, M, Q => wpE F a ρ M fun x M1 => ∃ k, truS M1 x = some k ∧ if k = true then Q x M1 else wpE F b ρ M1 Q
  | .not a, ρ, M, Q => wpE F a ρ M fun x M1 => ∃ k, truS M1 x = some k ∧ Q (.bl (!k)) M1
  | .ite c a b, ρ, M, Q => wpE F c ρ M fun x M1 => ∃ k, truS M1 x = some k ∧ if k = true then wpE F a ρ M1 Q else wpE F b ρ M1 Q
  | .tup es, ρ, M, Q => wpL F es ρ M fun vs M1 => Q (.tup vs) M1
  | .lst mt es, ρ, M, Q => wpL F es ρ M fun vs M1 => newL mt vs M1 Q
  | .emp, _, M, Q => Q .emp M
  | .ix a b, ρ, M, Q => wpE F a ρ M fun x M1 => wpE F b ρ M1 fun y M2 => ixS x y M2 Q
  | .sl a l h, ρ, M, Q => wpE F a ρ M fun x M1 => wpO F l ρ M1 fun i M2 => wpO F h ρ M2 fun j M3 => slS x i j M3 Q
  | .rev a, ρ, M, Q => wpE F a ρ M fun x M1 => revS x M1 Q
  | .call f es, ρ, M, Q => wpL F es ρ M fun vs M1 => F f vs M1 Q
  | .callv i es, ρ, M, Q => ∃ f, ρ[i]? = some (some (.fn f)) ∧ wpL F es ρ M fun vs M1 => F f vs M1 Q
  | .blt b es, ρ, M, Q => wpL F es ρ M fun vs M1 => bltS b vs M1 Q
  | .mth m o es, ρ, M, Q => wpE F o ρ M fun x M1 => rcvS m x M1 ∧ wpL F es ρ M1 fun vs M2 => mthS m x vs M2 Q
  | .isi a t, ρ, M, Q => wpE F a ρ M fun x M1 => ∃ k, isiS x M1 t = some k ∧ Q (.bl k) M1
  | .comp mt g it c elt, ρ, M, Q => wpI F it ρ M fun items keep M1 => items.length ≤ sizeLine ∧
      compL (fun x M' k => ∃ ρ', bindT M' g x ρ = some ρ' ∧ wpC F c ρ' M' fun b M2 => if b = true then wpE F elt ρ' M2 fun v M3 => k (some v) M3 else k none M2) keep items [] M1 fun acc M2 => newL mt acc M2 Q
  | .lrange a b, ρ, M, Q => wpE F a ρ M fun x M1 => wpE F b ρ M1 fun y M2 => ∃ i j, x = .int i ∧ y = .int j ∧ -(2 ^ 62) ≤ i ∧ i < 2 ^ 62 ∧ -(2 ^ 62) ≤ j ∧ j < 2 ^ 62 ∧ j - i ≤ 1000000 ∧ Q (.lst (rngL i j)) M2
  | .sset mt a, ρ, M, Q => wpE F a ρ M fun x M1 => ssetS mt x M1 Q
  | .srt mt a, ρ, M, Q => wpE F a ρ M fun x M1 => srtS mt x M1 Q
  | .dnew, _, M, Q => ∀ p t, M p = none → Q (.ref p) (M.put p (.dct [] t))
  | .dget o k x, ρ, M, Q => wpE F o ρ M fun d M1 => isD M1 d = true ∧ wpE F k ρ M1 fun kv M2 => wpE F x ρ M2 fun y M3 => dlk M3 d kv fun o => Q (o.getD y) M3
  | .dix o k, ρ, M, Q => wpE F o ρ M fun d M1 => wpE F k ρ M1 fun kv M2 => dlk M2 d kv fun o => ∃ v, o = some v ∧ Q v M2
  | .ditems mt o, ρ, M, Q => wpE F o ρ M fun d M1 => ∃ kvs, dO M1 d = some kvs ∧ kvs.length ≤ sizeLine ∧ (∀ v ∈ kvs.map pairV, v.pl = true ∧ v.dep ≤ 40) ∧ (∀ v ∈ kvs.map pairV, ∀ u ∈ kvs.map pairV, fcmp v.dat u.dat) ∧ newL mt (psort (kvs.map pairV)) M1 Q
  | .dcomp g it c k v, ρ, M, Q => wpI F it ρ M fun items keep M1 => items.length ≤ sizeLine ∧
      dcompL (fun x M' kk => ∃ ρ', bindT M' g x ρ = some ρ' ∧ wpC F c ρ' M' fun b M2 => if b = true then wpE F k ρ' M2 fun kv M3 => wpE F v ρ' M3 fun vv M4 => keyOk kv ∧ kk (some (kv, vv)) M4 else kk none M2) keep items [] M1 fun acc M2 => ∀ p t, M2 p = none → Q (.ref p) (M2.put p (.dct acc t))
  | .knew, _, M, Q => ∀ p t, M p = none → Q (.ref p) (M.put p (.dks [] t))
  | .klit es, ρ, M, Q => wpL F es ρ M fun us M1 => ∃ kvs, pairK us = some kvs ∧ ∀ p t, M1 p = none → Q (.ref p) (M1.put p (.dks (kmerge kvs) t))
  | .never, _, _, _ => False
def wpL (F : FS) : List E → Rho → Sto → (List PV → Sto → Prop) → Prop
  | [], _, M, Q => Q [] M
  | e :: r, ρ, M, Q => wpE F e ρ M fun v M1 => wpL F r ρ M1 fun vs M2 => Q (v :: vs) M2
def wpO (F : FS) : Option E → Rho → Sto → (Option Int → Sto → Prop) → Prop
  | none, _, M, Q => Q none M
  | some e, ρ, M, Q => wpE F e ρ M fun v M1 => ∃ i, v = .int i ∧ Q (some i) M1
def wpC (F : FS) : Option E → Rho → Sto → (Bool → Sto → Prop) → Prop
  | none, _, M, Q => Q true M
  | some e, ρ, M, Q => wpE F e ρ M fun v M1 => ∃ k, truS M1 v = some k ∧ Q k M1
def wpI (F : FS) : It → Rho → Sto → QI → Prop
  | .val e, ρ, M, Q => wpE F e ρ M fun v M1 => walkS v M1 Q
  | .rng e, ρ, M, Q => wpE F e ρ M fun v M1 => ∃ j, v = .int j ∧ -(2 ^ 62) ≤ j ∧ j < 2 ^ 62 ∧ Q (rngL 0 j) (fun _ => True) M1
  | .rng2 a b, ρ, M, Q => wpE F a ρ M fun x M1 => wpE F b ρ M1 fun y M2 => ∃ i j, x = .int i ∧ y = .int j ∧ -(2 ^ 62) ≤ i ∧ i < 2 ^ 62 ∧ -(2 ^ 62) ≤ j ∧ j < 2 ^ 62 ∧ Q (rngL i j) (fun _ => True) M2
  | .zip es, ρ, M, Q => wpL F es ρ M fun vs M1 => zipS vs M1 Q
  | .enm e, ρ, M, Q => wpE F e ρ M fun v M1 => ∃ xs, (v = .lst xs ∨ v = .tup xs) ∧ Q (enmL 0 xs) (fun _ => True) M1
  | .dits e, ρ, M, Q => wpE F e ρ M fun v M1 => ∃ a kvs, v = .ref a ∧ entsS M1 a = some kvs ∧ Q (kvs.map pairV) (fun M' => M' a = M1 a) M1
  | .dkeys e, ρ, M, Q => wpE F e ρ M fun v M1 => ∃ a kvs, v = .ref a ∧ entsS M1 a = some kvs ∧ Q (kvs.map (·.1)) (fun M' => M' a = M1 a) M1
end
mutual
def wpS (F : FS) : S → Rho → Sto → Ends → Prop
  | .expr e, ρ, M, D => wpE F e ρ M fun _ M1 => D.nx ρ M1
  | .asg g e, ρ, M, D => wpE F e ρ M fun v M1 => ∃ ρ', bindT M1 g v ρ = some ρ' ∧ D.nx ρ' M1
  | .par is es, ρ, M, D => wpL F es ρ M fun vs M1 => D.nx (setAll is vs ρ) M1
  | .six o i e, ρ, M, D => wpE F e ρ M fun v M1 => wpE F o ρ M1 fun x M2 => wpE F i ρ M2 fun y M3 => setS x y v M3 fun M4 => D.nx ρ M4
  | .dset o i e, ρ, M, D => wpE F e ρ M fun v M1 => wpE F o ρ M1 fun x M2 => wpE F i ρ M2 fun y M3 => dsetS x y v M3 fun M4 => D.nx ρ M4
  | .aug i op e, ρ, M, D => ∃ x, ρ[i]? = some (some x) ∧ wpE F e ρ M fun y M1 => augS op x y M1 fun z M2 => D.nx (ρ.set i (some z)) M2
  | .augx o i op e, ρ, M, D => wpE F o ρ M fun x M1 => wpE F i ρ M1 fun y M2 => ixM x y M2 fun u M3 => wpE F e ρ M3 fun v M4 => augS op u v M4 fun z M5 => setS x y z M5 fun M6 => D.nx ρ M6
  | .ret e, ρ, M, D => wpE F e ρ M D.rt
  | .ret0, _, M, D => D.rt .non M
  | .ite c a b, ρ, M, D => wpE F c ρ M fun x M1 => ∃ k, truS M1 x = some k ∧ if k = true then wpSs F a ρ M1 D else wpSs F b ρ M1 D
  | .for_ g it body, ρ, M, D => wpI F it ρ M fun items keep M1 =>
      forL (fun x ρ1 M' k => ∃ ρ', bindT M' g x ρ1 = some ρ' ∧ wpSs F body ρ' M' ⟨k, D.rt, D.nx, k⟩) keep D.nx items ρ M1
  | .while_ c body, ρ, M, D => ∃ n, whileN (fun ρ1 M1 k => wpE F c ρ1 M1 fun x M2 => ∃ b, truS M2 x = some b ∧ if b = true then wpSs F body ρ1 M2 ⟨k, D.rt, D.nx, k⟩ else D.nx ρ1 M2) n ρ M
  | .pass, ρ, M, D => D.nx ρ M
  | .brk, ρ, M, D => D.bk ρ M
  | .cont, ρ, M, D => D.ct ρ M
  | .never, _, _, _ => False
def wpSs (F : FS) : List S → Rho → Sto → Ends → Prop
  | [], ρ, M, D => D.nx ρ M
  | s :: r, ρ, M, D => wpS F s ρ M { D with nx := fun ρ' M' => wpSs F r ρ' M' D }
end
end SG
/-! a dict against a text, against a tuple; any data against a text, against () -/
namespace PySem.SeqAt
open MeetsSeq
theorem dict_eq_declines_str (l : Addr) (es : Array DictEntry) (n : Nat) (dd : Option Addr) (sl : Array (Option Value)) (b : Str) (u : Tok) :
    Meets (Builtin.«dict.__eq__» ⟨[.ref l, .str b u], []⟩) (fun _ R s => s.heap.get? l = some { cls := .type "dict", dict := dd, data := .dict es n, slots := sl } ∧ R (.ok (.ret .notImplemented)) s) :=
  .of_wp fun prog w A R s h => by obtain ⟨hp, g, d, tk, os⟩ := s; obtain ⟨hl, h⟩ := h; have f1 := F.sub_str_dict; wp_walk using wpAny_loadPart' hl; exact ⟨_, rfl, h⟩
theorem str_eq_declines_dict (b : Str) (u : Tok) (l : Addr) (es : Array DictEntry) (n : Nat) (dd : Option Addr) (sl : Array (Option Value)) :
    Meets (Builtin.«str.__eq__» ⟨[.str b u, .ref l], []⟩) (fun _ R s => s.heap.get? l = some { cls := .type "dict", dict := dd, data := .dict es n, slots := sl } ∧ R (.ok (.ret .notImplemented)) s) :=
  .of_wp fun prog w A R s h => by obtain ⟨hp, g, d, tk, os⟩ := s; obtain ⟨hl, h⟩ := h; wp_walk using wpAny_loadPart' hl, wpAny_load hl; exact ⟨_, rfl, h⟩
theorem dict_eq_declines_tuple (l m : Addr) (es : Array DictEntry) (n : Nat) (dd : Option Addr) (sl : Array (Option Value)) (its : Array Value) (k : Nat) (dm : Option Addr) (sm : Array (Option Value)) :
    Meets (Builtin.«dict.__eq__» ⟨[.ref l, .ref m], []⟩) (fun _ R s => s.heap.get? l = some { cls := .type "dict", dict := dd, data := .dict es n, slots := sl } ∧ s.heap.get? m = some { cls := .type "tuple", dict := dm, data := .seq its k, slots := sm } ∧ R (.ok (.ret .notImplemented)) s) :=
  .of_wp fun prog w A R s h => by obtain ⟨hp, g, d, tk, os⟩ := s; obtain ⟨hl, hm, h⟩ := h; have f1 := F.sub_tuple_dict; wp_walk using wpAny_loadPart' hl, wpAny_loadPart' hm; exact ⟨_, rfl, h⟩
theorem tuple_eq_declines_dict (l m : Addr) (es : Array DictEntry) (n : Nat) (dd : Option Addr) (sl : Array (Option Value)) (its : Array Value) (k : Nat) (dm : Option Addr) (sm : Array (Option Value)) :
    Meets (Builtin.«tuple.__eq__» ⟨[.ref m, .ref l], []⟩) (fun _ R s => s.heap.get? l = some { cls := .type "dict", dict := dd, data := .dict es n, slots := sl } ∧ s.heap.get? m = some { cls := .type "tuple", dict := dm, data := .seq its k, slots := sm } ∧ R (.ok (.ret .notImplemented)) s) :=
  .of_wp fun prog w A R s h => by obtain ⟨hp, g, d, tk, os⟩ := s; obtain ⟨hl, hm, h⟩ := h; have f1 := F.sub_dict_tuple; wp_walk using wpAny_loadPart' hl, wpAny_loadPart' hm; exact ⟨_, rfl, h⟩
theorem dict_ne_declines_str (l : Addr) (es : Array DictEntry) (n : Nat) (dd : Option Addr) (sl : Array (Option Value)) (b : Str) (u : Tok) :
    Meets (Builtin.«dict.__ne__» ⟨[.ref l, .str b u], []⟩) (fun _ R s => s.heap.get? l = some { cls := .type "dict", dict := dd, data := .dict es n, slots := sl } ∧ R (.ok (.ret .notImplemented)) s) :=
  .of_wp fun prog w A R s h => by obtain ⟨hp, g, d, tk, os⟩ := s; obtain ⟨hl, h⟩ := h; have f1 := F.sub_str_dict; wp_walk using wpAny_loadPart' hl; exact ⟨_, rfl, h⟩
theorem str_ne_declines_dict (b : Str) (u : Tok) (l : Addr) (es : Array DictEntry) (n : Nat) (dd : Option Addr) (sl : Array (Option Value)) :
    Meets (Builtin.«str.__ne__» ⟨[.str b u, .ref l], []⟩) (fun _ R s => s.heap.get? l = some { cls := .type "dict", dict := dd, data := .dict es n, slots := sl } ∧ R (.ok (.ret .notImplemented)) s) :=
  .of_wp fun prog w A R s h => by obtain ⟨hp, g, d, tk, os⟩ := s; obtain ⟨hl, h⟩ := h; wp_walk using wpAny_loadPart' hl, wpAny_load hl; exact ⟨_, rfl, h⟩
theorem dict_ne_declines_tuple (l m : Addr) (es : Array DictEntry) (n : Nat) (dd : Option Addr) (sl : Array (Option Value)) (its : Array Value) (k : Nat) (dm : Option Addr) (sm : Array (Option Value)) :
    Meets (Builtin.«dict.__ne__» ⟨[.ref l, .ref m], []⟩) (fun _ R s => s.heap.get? l = some { cls := .type "dict", dict := dd, data := .dict es n, slots := sl } ∧ s.heap.get? m = some { cls := .type "tuple", dict := dm, data := .seq its k, slots := sm } ∧ R (.ok (.ret .notImplemented)) s) :=
  .of_wp fun prog w A R s h => by obtain ⟨hp, g, d, tk, os⟩ := s; obtain ⟨hl, hm, h⟩ := h; have f1 := F.sub_tuple_dict; wp_walk using wpAny_loadPart' hl, wpAny_loadPart' hm; exact ⟨_, rfl, h⟩
theorem tuple_ne_declines_dict (l m : Addr) (es : Array DictEntry) (n : Nat) (dd : Option Addr) (sl : Array (Option Value)) (its : Array Value) (k : Nat) (dm : Option Addr) (sm : Array (Option Value)) :
    Meets (Builtin.«tuple.__ne__» ⟨[.ref m, .ref l], []⟩) (fun _ R s => s.heap.get? l = some { cls := .type "dict", dict := dd, data := .dict es n, slots := sl } ∧ s.heap.get? m = some { cls := .type "tuple", dict := dm, data := .seq its k, slots := sm } ∧ R (.ok (.ret .notImplemented)) s) :=
  .of_wp fun prog w A R s h => by obtain ⟨hp, g, d, tk, os⟩ := s; obtain ⟨hl, hm, h⟩ := h; have f1 := F.sub_dict_tuple; wp_walk using wpAny_loadPart' hl, wpAny_loadPart' hm; exact ⟨_, rfl, h⟩
/-- a dict at l -/
def IsDct (h : Heap) (l : Addr) : Prop := ∃ o es n, h.get? l = some o ∧ o.cls = .type "dict" ∧ o.data = .dict es n
section
variable {A : Around} {s : Shared}
theorem RcAt.dict_str {l : Addr} (b : Str) (u : Tok) (hl : IsDct s.heap l) (hu : A.units < cLine) : RcAt A s (.ref l) (.str b u) false := fun prog w E Q h => by
  obtain ⟨⟨cls, dd, data, sl⟩, es, n, ho, hc, hd⟩ := id hl
  simp only at hc hd
  subst hc hd
  exact rc_eq_decline_or (k := false) ⟨_, ho, rfl⟩ (typeIs_str s b u) (by decide) F.sub_str_dict F.slot_dict_eq F.slot_str_eq_refl
    (fun _ hq => call_meets F.slot_dict_eq ⟨_, ho, rfl⟩ F.entry_dict_eq (F.args_dict_eq_2 _ _) (dict_eq_declines_str l es n dd sl b u) ⟨ho, hq⟩)
    (fun _ hq => call_meets F.slot_str_eq_refl (typeIs_str s b u) F.entry_str_eq (F.args_str_eq_2 _ _) (str_eq_declines_dict b u l es n dd sl) ⟨ho, hq⟩)
    (fun _ hq => wpAny_of_eq (rfl : isSame (.ref l) (.str b u) = pure false) hq) (.inr hu) h
theorem RcAt.str_dict {l : Addr} (b : Str) (u : Tok) (hl : IsDct s.heap l) (hu : A.units < cLine) : RcAt A s (.str b u) (.ref l) false := fun prog w E Q h => by
  obtain ⟨⟨cls, dd, data, sl⟩, es, n, ho, hc, hd⟩ := id hl
  simp only at hc hd
  subst hc hd
  exact rc_eq_decline_or (k := false) (typeIs_str s b u) ⟨_, ho, rfl⟩ (by decide) F.sub_dict_str F.slot_str_eq F.slot_dict_eq_refl
    (fun _ hq => call_meets F.slot_str_eq (typeIs_str s b u) F.entry_str_eq (F.args_str_eq_2 _ _) (str_eq_declines_dict b u l es n dd sl) ⟨ho, hq⟩)
    (fun _ hq => call_meets F.slot_dict_eq_refl ⟨_, ho, rfl⟩ F.entry_dict_eq (F.args_dict_eq_2 _ _) (dict_eq_declines_str l es n dd sl b u) ⟨ho, hq⟩)
    (fun _ hq => wpAny_of_eq (rfl : isSame (.str b u) (.ref l) = pure false) hq) (.inr hu) h
theorem RcAt.dict_tuple {l m : Addr} {its : Array Value} (hl : IsDct s.heap l) (hm : s.heap.IsTuple m its) (hu : A.units < cLine) : RcAt A s (.ref l) (.ref m) false := fun prog w E Q h => by
  obtain ⟨⟨cls, dd, data, sl⟩, es, n, ho, hc, hd⟩ := id hl
  simp only at hc hd
  subst hc hd
  obtain ⟨⟨cls2, dm, data2, sm⟩, hp, hc2, k, hd2⟩ := id hm
  simp only at hc2 hd2
  subst hc2 hd2
  have ne : l ≠ m := fun e => by rw [e, hp] at ho; simp at ho
  exact rc_eq_decline_or (k := false) ⟨_, ho, rfl⟩ ⟨_, hp, rfl⟩ (by decide) F.sub_tuple_dict F.slot_dict_eq F.slot_tuple_eq_refl
    (fun _ hq => call_meets F.slot_dict_eq ⟨_, ho, rfl⟩ F.entry_dict_eq (F.args_dict_eq_2 _ _) (dict_eq_declines_tuple l m es n dd sl its k dm sm) ⟨ho, hp, hq⟩)
    (fun _ hq => call_meets F.slot_tuple_eq_refl ⟨_, hp, rfl⟩ F.entry_tuple_eq (F.args_tuple_eq_2 _ _) (tuple_eq_declines_dict l m es n dd sl its k dm sm) ⟨ho, hp, hq⟩)
    (fun _ hq => wpAny_isSame_ref_other ne ho hp (by simp) hq) (.inr hu) h
theorem RcNeAt.dict_str {l : Addr} (b : Str) (u : Tok) (hl : IsDct s.heap l) (hu : A.units < cLine) : RcNeAt A s (.ref l) (.str b u) true := fun prog w E Q h => by
  obtain ⟨⟨cls, dd, data, sl⟩, es, n, ho, hc, hd⟩ := id hl
  simp only at hc hd
  subst hc hd
  exact rc_ne_decline_or (k := false) ⟨_, ho, rfl⟩ (typeIs_str s b u) (by decide) F.sub_str_dict F.slot_dict_ne F.slot_str_ne_refl
    (fun _ hq => call_meets F.slot_dict_ne ⟨_, ho, rfl⟩ F.entry_dict_ne (F.args_dict_ne_2 _ _) (dict_ne_declines_str l es n dd sl b u) ⟨ho, hq⟩)
    (fun _ hq => call_meets F.slot_str_ne_refl (typeIs_str s b u) F.entry_str_ne (F.args_str_ne_2 _ _) (str_ne_declines_dict b u l es n dd sl) ⟨ho, hq⟩)
    (fun _ hq => wpAny_of_eq (rfl : isSame (.ref l) (.str b u) = pure false) hq) (.inr hu) h
theorem RcNeAt.str_dict {l : Addr} (b : Str) (u : Tok) (hl : IsDct s.heap l) (hu : A.units < cLine) : RcNeAt A s (.str b u) (.ref l) true := fun prog w E Q h => by
  obtain ⟨⟨cls, dd, data, sl⟩, es, n, ho, hc, hd⟩ := id hl
  simp only at hc hd
  subst hc hd
  exact rc_ne_decline_or (k := false) (typeIs_str s b u) ⟨_, ho, rfl⟩ (by decide) F.sub_dict_str F.slot_str_ne F.slot_dict_ne_refl
    (fun _ hq => call_meets F.slot_str_ne (typeIs_str s b u) F.entry_str_ne (F.args_str_ne_2 _ _) (str_ne_declines_dict b u l es n dd sl) ⟨ho, hq⟩)
    (fun _ hq => call_meets F.slot_dict_ne_refl ⟨_, ho, rfl⟩ F.entry_dict_ne (F.args_dict_ne_2 _ _) (dict_ne_declines_str l es n dd sl b u) ⟨ho, hq⟩)
    (fun _ hq => wpAny_of_eq (rfl : isSame (.str b u) (.ref l) = pure false) hq) (.inr hu) h
theorem RcNeAt.dict_tuple {l m : Addr} {its : Array Value} (hl : IsDct s.heap l) (hm : s.heap.IsTuple m its) (hu : A.units < cLine) : RcNeAt A s (.ref l) (.ref m) true := fun prog w E Q h => by
  obtain ⟨⟨cls, dd, data, sl⟩, es, n, ho, hc, hd⟩ := id hl
  simp only at hc hd
  subst hc hd
  obtain ⟨⟨cls2, dm, data2, sm⟩, hp, hc2, k, hd2⟩ := id hm
  simp only at hc2 hd2
  subst hc2 hd2
  have ne : l ≠ m := fun e => by rw [e, hp] at ho; simp at ho
  exact rc_ne_decline_or (k := false) ⟨_, ho, rfl⟩ ⟨_, hp, rfl⟩ (by decide) F.sub_tuple_dict F.slot_dict_ne F.slot_tuple_ne_refl
    (fun _ hq => call_meets F.slot_dict_ne ⟨_, ho, rfl⟩ F.entry_dict_ne (F.args_dict_ne_2 _ _) (dict_ne_declines_tuple l m es n dd sl its k dm sm) ⟨ho, hp, hq⟩)
    (fun _ hq => call_meets F.slot_tuple_ne_refl ⟨_, hp, rfl⟩ F.entry_tuple_ne (F.args_tuple_ne_2 _ _) (tuple_ne_declines_dict l m es n dd sl its k dm sm) ⟨ho, hp, hq⟩)
    (fun _ hq => wpAny_isSame_ref_other ne ho hp (by simp) hq) (.inr hu) h
theorem RcAt.any_str {v : Value} {d : PyData} {as : List Addr} (r : Reads s.heap v d as) (b : Str) (u : Tok) (hu : A.units < cLine) : RcAt A s v (.str b u) (PyData.eqv d (.str b)) := by
  cases r with
  | none => exact RcAt.none_str b u
  | bool x => exact RcAt.bool_str x b u
  | int x t => exact RcAt.int_str x t b u
  | str x t => exact RcAt.str_str x t b u
  | list h1 h2 h3 h4 => exact RcAt.list_str b u ⟨_, h1, h2, _, h3⟩ hu
  | tuple h1 h2 h3 h4 => exact RcAt.tuple_str b u ⟨_, h1, h2, _, h3⟩ hu
  | dict h1 h2 h3 h4 h5 => exact RcAt.dict_str b u ⟨_, _, _, h1, h2, h3⟩ hu
theorem RcAt.any_nil {v : Value} {d : PyData} {as : List Addr} (r : Reads s.heap v d as) {m : Addr} (hm : s.heap.IsTuple m #[]) (hu : A.units < cLine) : RcAt A s v (.ref m) (PyData.eqv d (.tuple [])) := by
  cases r with
  | none => exact RcAt.none_tuple hm hu
  | bool x => exact RcAt.bool_tuple x hm hu
  | int x t => exact RcAt.int_tuple x t hm hu
  | str x t => exact RcAt.str_tuple x t hm hu
  | list h1 h2 h3 h4 => exact RcAt.list_tuple ⟨_, h1, h2, _, h3⟩ hm hu
  | @tuple l o vs n xs as₁ h1 h2 h3 h4 =>
    have hl : s.heap.IsTuple l vs := ⟨_, h1, h2, _, h3⟩
    have n1 : vs.size = xs.length := by simpa using ReadsAll.length _ _ _ h4
    have he : ∀ j (j1 : j < vs.size) (j2 : j < (#[] : Array Value).size), EqAt A.in1 s vs[j] (#[] : Array Value)[j] (pairEq xs [] j) := fun j j1 j2 => absurd j2 (by simp)
    show RcAt A s (.ref l) (.ref m) (PyData.eqvAll xs [])
    rw [← eqvAll_eq xs [], ← n1]
    exact RcAt.tuples hl hm hu he
  | dict h1 h2 h3 h4 h5 => exact RcAt.dict_tuple ⟨_, _, _, h1, h2, h3⟩ hm hu
theorem RcNeAt.any_str {v : Value} {d : PyData} {as : List Addr} (r : Reads s.heap v d as) (b : Str) (u : Tok) (hu : A.units < cLine) : RcNeAt A s v (.str b u) (!PyData.eqv d (.str b)) := by
  cases r with
  | none => exact RcNeAt.none_str b u
  | bool x => exact RcNeAt.bool_str x b u
  | int x t => exact RcNeAt.int_str x t b u
  | str x t => exact RcNeAt.str_str x t b u
  | list h1 h2 h3 h4 => exact RcNeAt.list_str b u ⟨_, h1, h2, _, h3⟩ hu
  | tuple h1 h2 h3 h4 => exact RcNeAt.tuple_str b u ⟨_, h1, h2, _, h3⟩ hu
  | dict h1 h2 h3 h4 h5 => exact RcNeAt.dict_str b u ⟨_, _, _, h1, h2, h3⟩ hu
theorem RcNeAt.any_nil {v : Value} {d : PyData} {as : List Addr} (r : Reads s.heap v d as) {m : Addr} (hm : s.heap.IsTuple m #[]) (hu : A.units < cLine) : RcNeAt A s v (.ref m) (!PyData.eqv d (.tuple [])) := by
  cases r with
  | none => exact RcNeAt.none_tuple hm hu
  | bool x => exact RcNeAt.bool_tuple x hm hu
  | int x t => exact RcNeAt.int_tuple x t hm hu
  | str x t => exact RcNeAt.str_tuple x t hm hu
  | list h1 h2 h3 h4 => exact RcNeAt.list_tuple ⟨_, h1, h2, _, h3⟩ hm hu
  | @tuple l o vs n xs as₁ h1 h2 h3 h4 =>
    have hl : s.heap.IsTuple l vs := ⟨_, h1, h2, _, h3⟩
    have n1 : vs.size = xs.length := by simpa using ReadsAll.length _ _ _ h4
    have he : ∀ j (j1 : j < vs.size) (j2 : j < (#[] : Array Value).size), EqAt A.in1 s vs[j] (#[] : Array Value)[j] (pairEq xs [] j) := fun j j1 j2 => absurd j2 (by simp)
    show RcNeAt A s (.ref l) (.ref m) (!PyData.eqvAll xs [])
    rw [← eqvAll_eq xs [], ← n1]
    exact RcNeAt.tuples hl hm hu he
  | dict h1 h2 h3 h4 h5 => exact RcNeAt.dict_tuple ⟨_, _, _, h1, h2, h3⟩ hm hu
theorem EqAt.str_dict {l : Addr} (b : Str) (u : Tok) (hl : IsDct s.heap l) (hu : A.units < cLine) : EqAt A s (.str b u) (.ref l) false := fun prog w E Q h => by
  unfold eqBool
  refine wpAny_holding ?_
  refine wpAny_ite_split (fun hab => absurd (eq_of_beq hab) nofun) (fun _ => ?_)
  exact wpAny_bind (RcAt.str_dict b u hl hu prog w E _ (wpAny_truthy_bool h))
/-- a text against any data -/
theorem EqAt.str_any {v : Value} {d : PyData} {as : List Addr} (r : Reads s.heap v d as) (b : Str) (u : Tok) (hu : A.units < cLine) : EqAt A s (.str b u) v (PyData.eqv (.str b) d) := by
  cases r with
  | none => exact EqAt.str_none b u
  | bool x => exact EqAt.str_bool b u x
  | int x t => exact EqAt.str_int b u x t
  | str x t => exact EqAt.str_str b u x t
  | list h1 h2 h3 h4 => exact EqAt.str_list b u ⟨_, h1, h2, _, h3⟩ hu
  | tuple h1 h2 h3 h4 => exact EqAt.str_tuple b u ⟨_, h1, h2, _, h3⟩ hu
  | dict h1 h2 h3 h4 h5 => exact EqAt.str_dict b u ⟨_, _, _, h1, h2, h3⟩ hu
end
end PySem.SeqAt
namespace SG
open PySem PySem.Spec PyProof.Rows L2

/-- what is wanted behind a step, told of the heap -/
def Clo (C : Ctx) (H : Hp) (M : Sto) (Z : Addr → Prop) (Q' : Q1) (Q : VK) : Prop :=
  ∀ v x H' M' Z', Ext H M Z H' M' Z' → SR C H' M' Z' → Rep C H' M' Z' v x → Q' v M' → Q x H'
def r2 (C : Ctx) (f : PV → PV → Sto → Q1 → Prop) : R2 := fun x y H Q =>
  ∃ v w M Z Q', SR C H M Z ∧ Rep C H M Z v x ∧ Rep C H M Z w y ∧ f v w M Q' ∧ Clo C H M Z Q' Q
def r1 (C : Ctx) (f : PV → Sto → Q1 → Prop) : V → Hp → VK → Prop := fun x H Q =>
  ∃ v M Z Q', SR C H M Z ∧ Rep C H M Z v x ∧ f v M Q' ∧ Clo C H M Z Q' Q
def rc (C : Ctx) (f : List PV → Sto → Q1 → Prop) : List V → Hp → VK → Prop := fun xs H Q =>
  ∃ vs M Z Q', SR C H M Z ∧ RepL C H M Z vs xs ∧ f vs M Q' ∧ Clo C H M Z Q' Q
def rm (C : Ctx) (f : PV → List PV → Sto → Q1 → Prop) : V → List V → Hp → VK → Prop := fun x xs H Q =>
  ∃ v vs M Z Q', SR C H M Z ∧ Rep C H M Z v x ∧ RepL C H M Z vs xs ∧ f v vs M Q' ∧ Clo C H M Z Q' Q

def ctx (X : Cx) (ga : Str → Option Addr) : Ctx := ⟨X.prog, X.w, X.K, ga⟩

section
variable {C : Ctx} {H : Hp} {M : Sto} {Z : Addr → Prop} {x : V}
theorem Rep.int_inv {i : Int} (h : Rep C H M Z (.int i) x) : x = .int i := by cases h; rfl
theorem Rep.bl_inv {i : Bool} (h : Rep C H M Z (.bl i) x) : x = .bl i := by cases h; rfl
theorem Rep.str_inv {i : Str} (h : Rep C H M Z (.str i) x) : x = .str i := by cases h; rfl
theorem Rep.non_inv (h : Rep C H M Z .non x) : x = .non := by cases h; rfl
theorem Rep.ref_inv {a : Addr} (h : Rep C H M Z (.ref a) x) : x = .ref a ∧ (M a).isSome = true := by cases h with | ref q => exact ⟨rfl, q⟩
theorem Rep.tup_inv {xs : List PV} (h : Rep C H M Z (.tup xs) x) : ∃ a vs, x = .ref a ∧ SqT C.K H a vs ∧ RepL C H M Z xs vs := by
  cases h with | tup h l => exact ⟨_, _, rfl, h, l⟩
/-- a list, told or in the store -/
theorem Rep.lo_inv (r : SR C H M Z) {v : PV} {xs : List PV} (h : Rep C H M Z v x) (e : lo M v = some xs) : ∃ a vs, x = .ref a ∧ LQ C.K H a vs ∧ RepL C H M Z xs vs := by
  cases v with
  | lst ys =>
    have e' : ys = xs := Option.some.inj e
    subst e'
    cases h with
    | lz z h l => exact ⟨_, _, rfl, .inl h, l⟩
    | lr h l => exact ⟨_, _, rfl, .inr h, l⟩
  | ref a =>
    cases h with
    | ref q =>
      have e : (match M a with | some (.lst xs) => some xs | _ => none) = some xs := e
      cases m : M a with
      | none => rw [m] at e; cases e
      | some so =>
        rw [m] at e
        cases so with
        | lst ys =>
          have e' : ys = xs := Option.some.inj e
          subst e'
          obtain ⟨o, hh, vs, rfl, l⟩ := r.sto a _ m
          exact ⟨a, vs, rfl, .inl hh, l⟩
        | dct _ _ => cases e
        | dks _ _ => cases e
  | _ => cases e
theorem Rep.so_inv (r : SR C H M Z) {v : PV} {xs : List PV} (h : Rep C H M Z v x) (e : so M v = some xs) : ∃ a vs, x = .ref a ∧ (SqL C.K H a vs ∨ SqT C.K H a vs) ∧ RepL C H M Z xs vs := by
  cases v with
  | tup ys =>
    have e' : ys = xs := Option.some.inj e
    subst e'
    obtain ⟨a, vs, e1, h1, l⟩ := h.tup_inv
    exact ⟨a, vs, e1, .inr h1, l⟩
  | non => exact (show (none : Option (List PV)) = some xs → _ from fun z => nomatch z) e
  | bl _ => exact (show (none : Option (List PV)) = some xs → _ from fun z => nomatch z) e
  | int _ => exact (show (none : Option (List PV)) = some xs → _ from fun z => nomatch z) e
  | str _ => exact (show (none : Option (List PV)) = some xs → _ from fun z => nomatch z) e
  | fn _ => exact (show (none : Option (List PV)) = some xs → _ from fun z => nomatch z) e
  | emp => exact (show (none : Option (List PV)) = some xs → _ from fun z => nomatch z) e
  | lst ys => obtain ⟨a, vs, h1, h2, h3⟩ := Rep.lo_inv r h (xs := xs) e; exact ⟨a, vs, h1, .inl h2.sq, h3⟩
  | ref b => obtain ⟨a, vs, h1, h2, h3⟩ := Rep.lo_inv r h (xs := xs) e; exact ⟨a, vs, h1, .inl h2.sq, h3⟩
/-- a new list -/
theorem Clo.newL {Q' : Q1} {Q : VK} {mt : Bool} {xs : List PV} {vs : List V} {p : Addr} (c : Clo C H M Z Q' Q) (r : SR C H M Z) (l : RepL C H M Z xs vs) (h : newL mt xs M Q') (hp : H p = none) : Q (.ref p) (upd H p (.lst vs)) := by
  unfold SG.newL at h
  cases mt with
  | true =>
    rw [if_pos rfl] at h
    have x : Ext H M Z (upd H p (.lst vs)) (M.put p (.lst xs)) Z := Ext.newM r hp
    exact c _ _ _ _ _ x (r.newM hp ⟨vs, rfl, l⟩) (.ref (by rw [Sto.put_same]; rfl)) (h p (r.fresh hp))
  | false =>
    rw [if_neg Bool.false_ne_true] at h
    have x : Ext H M Z (upd H p (.lst vs)) M (fun a => a = p ∨ Z a) := Ext.newZ hp
    exact c _ _ _ _ _ x (r.newZ hp) (.lz (.inl rfl) upd_same (RepL.mono r x l)) h
theorem Clo.newT {Q' : Q1} {Q : VK} {xs : List PV} {vs : List V} {p : Addr} (c : Clo C H M Z Q' Q) (r : SR C H M Z) (l : RepL C H M Z xs vs) (h : Q' (.tup xs) M) (hp : H p = none) : Q (.ref p) (upd H p (.tup vs)) := by
  have x : Ext H M Z (upd H p (.tup vs)) M Z := Ext.new hp
  exact c _ _ _ _ _ x (r.new hp) (.tup (.inl (.inl upd_same)) (RepL.mono r x l)) h
theorem Clo.same {Q' : Q1} {Q : VK} {v : PV} {x : V} (c : Clo C H M Z Q' Q) (r : SR C H M Z) (l : Rep C H M Z v x) (h : Q' v M) : Q x H := c _ _ _ _ _ Ext.refl r l h
theorem Clo.wrL {Q' : Q1} {Q : VK} {v : PV} {x : V} {xs : List PV} {vs : List V} {p : Addr} {so : SO} (c : Clo C H M Z Q' Q) (r : SR C H M Z) (m : M p = some so) (l : RepL C H M Z xs vs) (rv : Rep C H M Z v x) (h : Q' v (M.put p (.lst xs))) : Q x (upd H p (.lst vs)) := by
  have e : Ext H M Z (upd H p (.lst vs)) (M.put p (.lst xs)) Z := Ext.wr m
  exact c _ _ _ _ _ e (r.wr m ⟨vs, rfl, l⟩) (Rep.mono r e rv) h
theorem RepL.rep {xs : List PV} {vs : List V} (l : RepL C H M Z xs vs) : ∀ n : Nat, RepL C H M Z (List.replicate n xs).flatten (List.replicate n vs).flatten
  | 0 => .nil
  | n + 1 => by
    rw [List.replicate_succ, List.replicate_succ, List.flatten_cons, List.flatten_cons]
    exact l.append (RepL.rep l n)
end

section
variable {X : Cx} {ga : Str → Option Addr}
/-! list + list, list * int, whatever the list is -/
theorem op_catL : OpR X (binaryOp .Add) (fun x y H Q => ∃ l b xs zs, x = .ref l ∧ y = .ref b ∧ LQ X.K H l xs ∧ LQ X.K H b zs ∧ xs.length + zs.length ≤ sizeLine ∧ ∀ p, H p = none → Q (.ref p) (upd H p (.lst (xs ++ zs)))) := by
  intro pins s σ H x y v u Q I rx ry h
  obtain ⟨l, b, xs, zs, rfl, rfl, h1, h2, hz, q⟩ := h
  cases rx
  cases ry
  obtain ⟨its, n, r, e, z⟩ := h1.isL I
  obtain ⟨its2, n2, r2, e2, z2⟩ := h2.isL I
  have hl := r.length
  have hl2 := r2.length
  refine PySem.P.add_list e e2 ?_ (by rw [List.size_toArray, List.size_toArray]; omega)
  have ea : its.toArray ++ its2.toArray = (its ++ its2).toArray := by simp
  rw [ea]
  exact ⟨.ref _, _, I.lnew (t' := s.toks) (r.append r2) (by rw [List.length_append]; omega), rfl, q _ I.fresh⟩
theorem op_repL : OpR X (binaryOp .Mult) (fun x y H Q => ∃ l k xs, x = .ref l ∧ y = .int k ∧ LQ X.K H l xs ∧ -(2 ^ 63) ≤ k ∧ k < 2 ^ 63 ∧ xs.length * k.toNat ≤ sizeLine ∧
    ∀ p, H p = none → Q (.ref p) (upd H p (.lst (List.replicate k.toNat xs).flatten))) := by
  intro pins s σ H x y v u Q I rx ry h
  obtain ⟨l, k, xs, rfl, rfl, hq, h1, h2, hz, q⟩ := h
  cases rx
  obtain ⟨t, rfl⟩ := ry
  obtain ⟨its, n, r, e, z⟩ := hq.isL I
  have hl := r.length
  have hsz : its.toArray.size * k.toNat ≤ sizeLine := by
    rw [List.size_toArray, ← hl]; exact hz
  have hline : (sizeLine : Nat) ≤ (2 ^ 63 - 1) / 8 := by decide
  have c1 : ¬ its.toArray.size * k.toNat > (2 ^ 63 - 1) / 8 := by omega
  have c2 : ¬ (!Builtin.List.listFitsIndex k) = true := by
    rw [fitsIndex_both h1 h2]; decide
  have c3 : ¬ Builtin.List.listTooLong (its.toArray.size * k.toNat) = true := by
    rw [notLongL hsz]; decide
  have fl : ∀ m : Nat, List.foldl (fun a b => a ++ b) #[] (List.replicate m its.toArray) = (List.replicate m its).flatten.toArray := by
    intro m
    have g := foldl_rep its m []
    rwa [List.nil_append] at g
  have hnew : List.foldl (fun a b => a ++ b) #[] (List.replicate (if its.toArray.isEmpty = true then 0 else k.toNat) its.toArray)
      = (List.replicate k.toNat its).flatten.toArray := by
    rw [fl]
    cases its with
    | nil => simp
    | cons _ _ => rw [if_neg (by simp)]
  have inner := AutoListH.list___mul___list_int_3 l its.toArray n k t c2 c1 c3
  refine wpAny_binaryOp_repeat_ref (T := "list") (U := "int") (by decide) ⟨_, e, rfl⟩
    (fun s' => typeIs_int s' k t) noFill_list_mul F.fills_int_mul
    F.slot_int_rmul repeat_list F.slot_int_index.lookup
    (call_meets F.slot_int_rmul (typeIs_int s k t) F.entry_int_rmul
      (F.args_int_rmul_2 _ _) (int___rmul___int_list k t l its.toArray n)
      ⟨e, rfl, ⟨_, e, rfl⟩, call_meets F.slot_list_mul ⟨_, e, rfl⟩
        F.entry_list_mul (F.args_list_mul_2 _ _) inner ⟨e, ?_⟩⟩)
  rw [hnew]
  refine ⟨.ref _, _, I.lnew (t' := s.toks) (r.rep k.toNat) ?_, rfl, q _ I.fresh⟩
  rw [PyProof.Rows.lm_len_rep_flat, Nat.mul_comm]; exact hz

/-! ### + - * // % ** -/
abbrev opOf : Op → Operator
  | .add => .Add
  | .addM => .Add
  | .sub => .Sub
  | .mul => .Mult
  | .mulM => .Mult
  | .fdiv => .FloorDiv
  | .mod => .Mod
  | .pow => .Pow
theorem log_lt {i : Int} (h : i.natAbs.log2 < 64) : -(2 ^ 64) < i ∧ i < 2 ^ 64 := by
  have h2 : i.natAbs < 2 ^ 64 := by
    by_cases z : i.natAbs = 0
    · omega
    · exact Nat.lt_of_lt_of_le (Nat.lt_log2_self) (Nat.pow_le_pow_right (by decide) h)
  omega
theorem mul_ok {i j : Int} (h : (i.natAbs.log2 < 64 ∨ j.natAbs.log2 < 64) ∨ i.natAbs.log2 + j.natAbs.log2 < 1000000) : IntMulOk i j := by
  rcases h with (h | h) | h
  · exact CMul.ok (.inl (log_lt h))
  · exact CMul.ok (.inr (log_lt h))
  · exact CMulW.ok h
theorem add_ok (mt : Bool) : OpR X (binaryOp .Add) (r2 (ctx X ga) (addS mt)) := by
  intro pins s σ H x y v u Q I rx ry h
  obtain ⟨a, b, M, Z, Q', r, ra, rb, f, c⟩ := h
  have lists : (∃ xs ys, lo M a = some xs ∧ lo M b = some ys ∧ xs.length + ys.length ≤ sizeLine ∧ newL mt (xs ++ ys) M Q') → wpAny (model X.prog X.w) X.A (binaryOp .Add v u) (EP X pins σ Q) X.xe s := by
    rintro ⟨xs, ys, e1, e2, hz, q⟩
    obtain ⟨p, vs, rfl, h1, l1⟩ := ra.lo_inv r e1
    obtain ⟨p2, ws, rfl, h2, l2⟩ := rb.lo_inv r e2
    refine op_catL pins s σ H _ _ v u Q I rx ry ⟨p, p2, vs, ws, rfl, rfl, h1, h2, by rw [← l1.length, ← l2.length]; exact hz, fun p3 hp => ?_⟩
    exact c.newL r (l1.append l2) q hp
  cases a with
  | int i =>
    cases b with
    | int j =>
      obtain rfl := ra.int_inv
      obtain rfl := rb.int_inv
      exact op_add pins s σ H _ _ v u Q I rx ry ⟨i, j, rfl, rfl, c.same r (.int _) f⟩
    | _ => exact lists f
  | str i =>
    cases b with
    | str j =>
      obtain rfl := ra.str_inv
      obtain rfl := rb.str_inv
      exact op_add_str pins s σ H _ _ v u Q I rx ry ⟨i, j, rfl, rfl, f.1, c.same r (.str _) f.2⟩
    | _ => exact lists f
  | tup xs =>
    cases b with
    | tup ys =>
      obtain ⟨p, vs, rfl, h1, l1⟩ := ra.tup_inv
      obtain ⟨p2, ws, rfl, h2, l2⟩ := rb.tup_inv
      obtain ⟨hz, q⟩ := f
      refine op_catA pins s σ H _ _ v u Q I rx ry ⟨p, p2, vs, ws, rfl, rfl, h1, h2, by rw [← l1.length, ← l2.length]; exact hz, fun e => ?_, fun _ e => ?_, fun _ _ p3 hp => ?_⟩
      · subst e
        cases l1
        exact c.same r rb q
      · subst e
        cases l2
        rw [List.append_nil] at q
        exact c.same r ra q
      · exact c.newT r (l1.append l2) q hp
    | _ => exact lists f
  | _ => cases b <;> exact lists f
/-- t * 1 is t -/
theorem tuple_mul1 (l : Addr) (items : Array Value) (n : Nat) (dd : Option Addr) (sl : Array (Option Value)) (u : Tok) :
    Meets (Builtin.«tuple.__mul__» ⟨[.ref l, .int 1 u], []⟩) (fun _ R s => s.heap.get? l = some { cls := .type "tuple", dict := dd, data := .seq items n, slots := sl } ∧ R (.ok (.ret (Value.ref l))) s) :=
  .of_wp fun prog w A R s h => by
    obtain ⟨hp, g, d, tk, os⟩ := s
    obtain ⟨hl, h⟩ := h
    have f1 := AutoSeq1.idx_int
    wp_walk using wpAny_loadPart' hl
    repeat (first
      | (refine wpAny_ite_false (decide_eq_false (by decide)) ?_; wp_walk using wpAny_loadPart' hl)
      | (refine wpAny_ite_true (decide_eq_true (by simp)) ?_; wp_walk using wpAny_loadPart' hl))
    exact ⟨_, rfl, h⟩
def rRep1 (K : PySem.W.Frag) : R2 := fun x y H Q => ∃ l xs, x = .ref l ∧ y = .int 1 ∧ SqT K H l xs ∧ Q (.ref l) H
theorem op_repT1 : OpR X (binaryOp .Mult) (rRep1 X.K) := by
  intro pins s σ H x y v u Q I rx ry h
  obtain ⟨l, xs, rfl, rfl, hT, q⟩ := h
  cases rx
  obtain ⟨t, rfl⟩ := ry
  obtain ⟨its, r, ⟨⟨cls, dd, data, sl⟩, ho, hc, n, hd⟩, hs⟩ := I.tuple hT
  simp only at hc hd
  subst hc hd
  exact wpAny_binaryOp_repeat_ref (T := "tuple") (U := "int") (by decide) ⟨_, ho, rfl⟩ (fun s' => typeIs_int s' 1 t) noFill_tuple_mul F.fills_int_mul F.slot_int_rmul repeat_tuple F.slot_int_index.lookup
    (call_meets F.slot_int_rmul (typeIs_int s 1 t) F.entry_int_rmul (F.args_int_rmul_2 _ _) (int_rmul_tuple 1 t l its.toArray n dd sl)
      ⟨ho, rfl, ⟨_, ho, rfl⟩, call_meets F.slot_tuple_mul ⟨_, ho, rfl⟩ F.entry_tuple_mul (F.args_tuple_mul_2 _ _) (tuple_mul1 l its.toArray n dd sl t) ⟨ho, .ref l, H, I, rfl, q⟩⟩)
theorem mulS_ok (mt : Bool) : OpR X (binaryOp .Mult) (r2 (ctx X ga) (mulS mt)) := by
  intro pins s σ H x y v u Q I rx ry h
  obtain ⟨a, b, M, Z, Q', r, ra, rb, f, c⟩ := h
  cases b with
  | int k =>
    obtain rfl := rb.int_inv
    have lists : (∃ xs, lo M a = some xs ∧ -(2 ^ 63) ≤ k ∧ k < 2 ^ 63 ∧ xs.length * k.toNat ≤ sizeLine ∧ newL mt (List.replicate k.toNat xs).flatten M Q') → wpAny (model X.prog X.w) X.A (binaryOp .Mult v u) (EP X pins σ Q) X.xe s := by
      rintro ⟨xs, e1, h1, h2, hz, q⟩
      obtain ⟨p, vs, rfl, hl, l1⟩ := ra.lo_inv r e1
      exact op_repL pins s σ H _ _ v u Q I rx ry ⟨p, k, vs, rfl, rfl, hl, h1, h2, by rw [← l1.length]; exact hz, fun p3 hp => c.newL r (l1.rep _) q hp⟩
    cases a with
    | int i =>
      obtain rfl := ra.int_inv
      obtain ⟨t, rfl⟩ := rx
      obtain ⟨t', rfl⟩ := ry
      exact mul_int ⟨.int _, H, I.tok _, ⟨_, rfl⟩, c.same r (.int _) f.2⟩ (mul_ok f.1)
    | tup xs =>
      obtain ⟨p, vs, rfl, h1, l1⟩ := ra.tup_inv
      obtain ⟨k1, k2, ne, hz, q⟩ := f
      by_cases one : k = 1
      · subst one
        refine op_repT1 pins s σ H _ _ v u Q I rx ry ⟨p, vs, rfl, rfl, h1, ?_⟩
        have e1 : (List.replicate (1 : Int).toNat xs).flatten = xs := by simp
        rw [e1] at q
        exact c.same r ra q
      refine op_repT pins s σ H _ _ v u Q I rx ry ⟨p, k, vs, rfl, rfl, h1, ?_, by omega, k2, by rw [← l1.length]; exact hz, fun p3 hp => c.newT r (l1.rep _) q hp⟩
      intro e; subst e; cases l1; exact ne rfl
    | _ => exact lists f
  | _ => cases a <;> exact f.elim
theorem bin_ok (op : Op) : OpR X (binaryOp (opOf op)) (r2 (ctx X ga) (binS op)) := by
  cases op with
  | add => exact add_ok false
  | addM => exact add_ok true
  | mul => exact mulS_ok false
  | mulM => exact mulS_ok true
  | sub =>
    intro pins s σ H x y v u Q I rx ry h
    obtain ⟨a, b, M, Z, Q', r, ra, rb, ⟨i, j, rfl, rfl, q⟩, c⟩ := h
    obtain rfl := ra.int_inv
    obtain rfl := rb.int_inv
    exact op_sub pins s σ H _ _ v u Q I rx ry ⟨i, j, rfl, rfl, c.same r (.int _) q⟩
  | fdiv =>
    intro pins s σ H x y v u Q I rx ry h
    obtain ⟨a, b, M, Z, Q', r, ra, rb, ⟨i, j, rfl, rfl, h1, h2, q⟩, c⟩ := h
    obtain rfl := ra.int_inv
    obtain rfl := rb.int_inv
    exact op_fdivW pins s σ H _ _ v u Q I rx ry ⟨i, j, rfl, rfl, ⟨h1, h2⟩, c.same r (.int _) q⟩
  | mod =>
    intro pins s σ H x y v u Q I rx ry h
    obtain ⟨a, b, M, Z, Q', r, ra, rb, ⟨i, j, rfl, rfl, h1, q⟩, c⟩ := h
    obtain rfl := ra.int_inv
    obtain rfl := rb.int_inv
    exact op_mod pins s σ H _ _ v u Q I rx ry ⟨i, j, rfl, rfl, h1, c.same r (.int _) q⟩
  | pow =>
    intro pins s σ H x y v u Q I rx ry h
    obtain ⟨a, b, M, Z, Q', r, ra, rb, ⟨i, j, rfl, rfl, h1, h2, h3, q⟩, c⟩ := h
    obtain rfl := ra.int_inv
    obtain rfl := rb.int_inv
    exact op_pow pins s σ H _ _ v u Q I rx ry ⟨i, j, rfl, rfl, ⟨h1, h2, h3⟩, c.same r (.int _) q⟩

/-! ### truth -/
theorem tru_inv {C : Ctx} {H : Hp} {M : Sto} {Z : Addr → Prop} {v : PV} {x : V} {k : Bool} (r : SR C H M Z) (h : Rep C H M Z v x) (e : truS M v = some k) : TruV C.K x H k := by
  have seq : (so M v).map (fun xs => !xs.isEmpty) = some k → TruV C.K x H k := fun e => by
    obtain ⟨xs, e1, e2⟩ := Option.map_eq_some_iff.mp e
    obtain ⟨a, vs, rfl, hs, l⟩ := h.so_inv r e1
    have hl := l.length
    have e3 : k = !vs.isEmpty := by
      rw [← e2]
      cases xs <;> cases vs <;> simp_all
    rcases hs with hs | hs
    · exact .inl ⟨vs, hs, e3⟩
    · exact .inr (.inl ⟨vs, hs, e3⟩)
  cases v with
  | non => cases h; exact (Option.some.inj e).symm
  | bl b => cases h; exact (Option.some.inj e).symm
  | int i => cases h; exact (Option.some.inj e).symm
  | str x =>
    cases h
    unfold truS at e
    dsimp only at e
    split at e
    · rename_i hz
      exact ⟨hz, (Option.some.inj e).symm⟩
    · cases e
  | emp =>
    cases h with
    | emp z hz => exact .inr (.inr ⟨[], hz, (Option.some.inj e).symm⟩)
  | tup xs => exact seq e
  | lst xs => exact seq e
  | ref a => exact seq e
  | fn f => exact seq e

/-! ### == -/
mutual
theorem PV.dat_lay : ∀ v : PV, v.pl = true → v.dat.canLay0 = true
  | .non, _ => rfl
  | .bl _, _ => rfl
  | .int _, _ => rfl
  | .str x, h => by unfold PV.pl at h; unfold PV.dat PyData.canLay0; exact h
  | .tup xs, h => by unfold PV.pl at h; unfold PV.dat PyData.canLay0; exact PV.dats_lay xs h
  | .lst xs, h => by unfold PV.pl at h; unfold PV.dat PyData.canLay0; exact PV.dats_lay xs h
  | .ref _, h => by cases h
  | .fn _, h => by cases h
  | .emp, h => by cases h
theorem PV.dats_lay : ∀ vs : List PV, PV.pls vs = true → PyData.canLayAll0 (PV.dats vs) = true
  | [], _ => rfl
  | v :: vs, h => by
    unfold PV.pls at h
    obtain ⟨h1, h2⟩ := Bool.and_eq_true_iff.mp h
    unfold PV.dats PyData.canLayAll0
    rw [PV.dat_lay v h1, PV.dats_lay vs h2, Bool.and_self]
end
mutual
theorem PV.dat_dep : ∀ v : PV, v.dat.depth = v.dep
  | .non => rfl
  | .bl _ => rfl
  | .int _ => rfl
  | .str x => rfl
  | .tup xs => by unfold PV.dat PV.dep PyData.depth; rw [PV.dats_dep xs]
  | .lst xs => by unfold PV.dat PV.dep PyData.depth; rw [PV.dats_dep xs]
  | .ref _ => rfl
  | .fn _ => rfl
  | .emp => rfl
theorem PV.dats_dep : ∀ vs : List PV, PyData.depthAll (PV.dats vs) = PV.deps vs
  | [] => rfl
  | v :: vs => by
    unfold PV.dats PyData.depthAll PV.deps
    rw [PV.dat_dep v, PV.dats_dep vs]
end
mutual
theorem PV.dat_eqv : ∀ v w : PV, v.pl = true → w.pl = true → PyData.eqv v.dat w.dat = PV.eqb v w
  | .non, w, _, h => by cases w <;> first | rfl | cases h
  | .bl _, w, _, h => by cases w <;> first | rfl | cases h
  | .int _, w, _, h => by cases w <;> first | rfl | cases h
  | .str x, w, _, h => by cases w <;> first | rfl | cases h
  | .tup xs, w, h', h => by
    cases w with
    | tup ys =>
      unfold PV.pl at h h'
      unfold PV.dat PyData.eqv PV.eqb
      exact PV.dats_eqv xs ys h' h
    | _ => first | rfl | cases h
  | .lst xs, w, h', h => by
    cases w with
    | lst ys =>
      unfold PV.pl at h h'
      unfold PV.dat PyData.eqv PV.eqb
      exact PV.dats_eqv xs ys h' h
    | _ => first | rfl | cases h
  | .ref _, _, h, _ => by cases h
  | .fn _, _, h, _ => by cases h
  | .emp, _, h, _ => by cases h
theorem PV.dats_eqv : ∀ vs ws : List PV, PV.pls vs = true → PV.pls ws = true → PyData.eqvAll (PV.dats vs) (PV.dats ws) = PV.eqbs vs ws
  | [], [], _, _ => rfl
  | [], _ :: _, _, _ => rfl
  | _ :: _, [], _, _ => rfl
  | v :: vs, w :: ws, h', h => by
    unfold PV.pls at h h'
    obtain ⟨h1, h2⟩ := Bool.and_eq_true_iff.mp h
    obtain ⟨h1', h2'⟩ := Bool.and_eq_true_iff.mp h'
    unfold PV.dats PyData.eqvAll PV.eqbs
    rw [PV.dat_eqv v w h1' h1, PV.dats_eqv vs ws h2' h2]
end
mutual
theorem Rep.dp {C : Ctx} {H : Hp} {M : Sto} {Z : Addr → Prop} : ∀ {v : PV} {x : V}, Rep C H M Z v x → v.pl = true → Dp C.K H x v.dat
  | _, _, .non, _ => .non
  | _, _, .bl b, _ => .bl b
  | _, _, .int i, _ => .int i
  | _, _, .str s, _ => .str s
  | _, _, .tup h l, p => by unfold PV.pl at p; unfold PV.dat; exact .tup h (RepL.dp l p)
  | _, _, .lz z h l, p => by unfold PV.pl at p; unfold PV.dat; exact .lst (.inl (.inl h)) (RepL.dp l p)
  | _, _, .lr h l, p => by unfold PV.pl at p; unfold PV.dat; exact .lst (LQ.sq (.inr h)) (RepL.dp l p)
  | _, _, .ref _, p => by cases p
  | _, _, .fn _, p => by cases p
  | _, _, .emp _ _, p => by cases p
theorem RepL.dp {C : Ctx} {H : Hp} {M : Sto} {Z : Addr → Prop} : ∀ {vs : List PV} {xs : List V}, RepL C H M Z vs xs → PV.pls vs = true → DpAll C.K H xs (PV.dats vs)
  | _, _, .nil, _ => .nil
  | _, _, .cons a b, p => by
    unfold PV.pls at p
    obtain ⟨h1, h2⟩ := Bool.and_eq_true_iff.mp p
    unfold PV.dats
    exact .cons (Rep.dp a h1) (RepL.dp b h2)
end
theorem Rep.now {C : Ctx} {H : Hp} {M : Sto} {Z : Addr → Prop} {v : PV} {x : V} (r : SR C H M Z) (h : Rep C H M Z v x) (p : (v.now M).pl = true) : Dp C.K H x (v.now M).dat := by
  cases v with
  | ref a =>
    obtain ⟨rfl, q⟩ := h.ref_inv
    have e : (PV.ref a).now M = (match M a with | some (.lst xs) => .lst xs | _ => .ref a) := rfl
    rw [e] at p ⊢
    cases m : M a with
    | none => rw [m] at q; cases q
    | some o =>
      rw [m] at p
      cases o with
      | lst xs =>
        obtain ⟨o, hh, vs, rfl, l⟩ := r.sto a _ m
        have p : PV.pls xs = true := by unfold PV.pl at p; exact p
        exact .lst (.inl (.inl hh)) (RepL.dp l p)
      | dct _ _ => cases p
      | dks _ _ => cases p
  | non => exact Rep.dp h p
  | bl _ => exact Rep.dp h p
  | int _ => exact Rep.dp h p
  | str _ => exact Rep.dp h p
  | tup _ => exact Rep.dp h p
  | lst _ => exact Rep.dp h p
  | fn _ => exact Rep.dp h p
  | emp => exact Rep.dp h p
theorem room_min {A : Around} {a b : Nat} (hu : A.units + 64 < cLine) (h : a ≤ 64 ∨ b ≤ 64) : A.units + min a b < cLine := by
  have h1 : min a b ≤ a := Nat.min_le_left _ _
  have h2 : min a b ≤ b := Nat.min_le_right _ _
  omega
/-- the heap's own table of modules is a dict -/
def NoSys (s : Shared) : Prop := ∃ o, s.heap.get? sysModules = some o ∧ o.cls = .type "dict"
mutual
/-- what is told, read off the heap -/
theorem Rep.rds {pins : List (Addr × Obj)} {s : Shared} {σ : L2.St} {H : Hp} {M : Sto} {Z : Addr → Prop} (I : L2.Inv X pins σ H s) : ∀ {v : PV} {x : V} {u : Value}, Rep (ctx X ga) H M Z v x → RelV x u → v.ple = true → ∃ as, Reads s.heap u v.dat as ∧ (NoSys s → sysModules ∉ as)
  | _, _, _, .non, r, _ => by cases r; exact ⟨[], .none, fun _ => by simp⟩
  | _, _, _, .bl b, r, _ => by cases r; exact ⟨[], .bool b, fun _ => by simp⟩
  | _, _, _, .int i, r, _ => by obtain ⟨t, rfl⟩ := r; exact ⟨[], .int i t, fun _ => by simp⟩
  | _, _, _, .str x, r, _ => by obtain ⟨t, rfl⟩ := r; exact ⟨[], .str x t, fun _ => by simp⟩
  | _, _, _, .tup h l, r, p => by
    cases r
    unfold PV.ple at p
    obtain ⟨its, rv, ⟨o, h1, h2, n, h3⟩, _⟩ := I.tuple h
    obtain ⟨as, ra, hn⟩ := RepL.rds I l rv p
    refine ⟨as, ?_, hn⟩
    unfold PV.dat
    exact .tuple h1 h2 h3 (by simpa using ra)
  | _, _, _, @Rep.lz _ _ _ _ a _ _ z h l, r, p => by
    cases r
    unfold PV.ple at p
    obtain ⟨its, n, rv, e, _⟩ := LQ.isL (X := X) (.inl h) I
    obtain ⟨as, ra, hn⟩ := RepL.rds I l rv p
    refine ⟨a :: as, ?_, fun ns => ?_⟩
    · unfold PV.dat
      exact .list e rfl rfl (by simpa using ra)
    · obtain ⟨o, g1, g2⟩ := ns
      have h2 := hn ⟨o, g1, g2⟩
      intro hm
      rcases List.mem_cons.mp hm with z | z
      · rw [← z, g1] at e
        cases e
        simp at g2
      · exact h2 z
  | _, _, _, @Rep.lr _ _ _ _ a _ _ h l, r, p => by
    cases r
    unfold PV.ple at p
    obtain ⟨its, n, rv, e, _⟩ := LQ.isL (X := X) (.inr h) I
    obtain ⟨as, ra, hn⟩ := RepL.rds I l rv p
    refine ⟨a :: as, ?_, fun ns => ?_⟩
    · unfold PV.dat
      exact .list e rfl rfl (by simpa using ra)
    · obtain ⟨o, g1, g2⟩ := ns
      have h2 := hn ⟨o, g1, g2⟩
      intro hm
      rcases List.mem_cons.mp hm with z | z
      · rw [← z, g1] at e
        cases e
        simp at g2
      · exact h2 z
  | _, _, _, .ref _, _, p => by unfold PV.ple at p; cases p
  | _, _, _, .fn _, _, p => by unfold PV.ple at p; cases p
  | _, _, _, @Rep.emp _ _ _ _ a z hz, r, _ => by
    cases r
    obtain ⟨_, ns, vs, kv, dd⟩ := dk_of I.hok hz
    cases kv
    obtain ⟨o, es, ep, h1, h2, h3, _, h5, _⟩ := dd
    have he : es.toList = [] := by
      have := h5.length
      simpa using this
    refine ⟨[a], ?_, fun _ => ?_⟩
    · unfold PV.dat
      exact Reads.dict (kvs := []) h1 h2.1 h3 (by rw [he]; exact .nil) (by rw [he]; exact .nil)
    · intro hm
      rw [List.mem_singleton] at hm
      rw [← hm] at ns
      simp at ns
theorem RepL.rds {pins : List (Addr × Obj)} {s : Shared} {σ : L2.St} {H : Hp} {M : Sto} {Z : Addr → Prop} (I : L2.Inv X pins σ H s) : ∀ {vs : List PV} {xs : List V} {us : List Value}, RepL (ctx X ga) H M Z vs xs → Vals xs us → PV.ples vs = true → ∃ as, ReadsAll s.heap us (PV.dats vs) as ∧ (NoSys s → sysModules ∉ as)
  | _, _, _, .nil, r, _ => by cases r; exact ⟨[], .nil, fun _ => by simp⟩
  | _, _, _, .cons a b, r, p => by
    cases r with
    | cons r1 r2 =>
      unfold PV.ples at p
      obtain ⟨p1, p2⟩ := Bool.and_eq_true_iff.mp p
      obtain ⟨as, ra, n1⟩ := Rep.rds I a r1 p1
      obtain ⟨bs, rb, n2⟩ := RepL.rds I b r2 p2
      refine ⟨as ++ bs, ?_, fun ns => ?_⟩
      · unfold PV.dats
        exact .cons ra rb
      · intro hm
        rcases List.mem_append.mp hm with z | z
        · exact n1 ns z
        · exact n2 ns z
end
theorem Rep.rdsN {pins : List (Addr × Obj)} {s : Shared} {σ : L2.St} {H : Hp} {M : Sto} {Z : Addr → Prop} (I : L2.Inv X pins σ H s) (r : SR (ctx X ga) H M Z) {v : PV} {x : V} {u : Value} (h : Rep (ctx X ga) H M Z v x) (ru : RelV x u) (p : (v.now M).ple = true) : ∃ as, Reads s.heap u (v.now M).dat as ∧ (NoSys s → sysModules ∉ as) := by
  cases v with
  | ref a =>
    simp only [PV.now] at p ⊢
    cases e : M a with
    | none => rw [e] at p; unfold PV.ple at p; cases p
    | some o =>
      rw [e] at p
      cases o with
      | lst xs =>
        simp only at p ⊢
        obtain ⟨rfl, _⟩ := h.ref_inv
        cases ru
        obtain ⟨o, hh, vs, rfl, l⟩ := r.sto a _ e
        unfold PV.ple at p
        obtain ⟨its, n, rv, e2, _⟩ := LQ.isL (X := X) (.inl hh) I
        obtain ⟨as, ra, hn⟩ := RepL.rds I l rv p
        refine ⟨a :: as, ?_, fun ns => ?_⟩
        · unfold PV.dat
          exact .list e2 rfl rfl (by simpa using ra)
        · obtain ⟨o, g1, g2⟩ := ns
          have h2 := hn ⟨o, g1, g2⟩
          intro hm
          rcases List.mem_cons.mp hm with z | z
          · rw [← z, g1] at e2
            cases e2
            simp at g2
          · exact h2 z
      | dct _ _ => unfold PV.ple at p; cases p
      | dks _ _ => unfold PV.ple at p; cases p
  | _ => exact h.rds I ru p
theorem eqv_w (a : PV) (b : PV) (h : b.isW = true) : PyData.eqv a.dat b.dat = PV.eqb a b := by
  cases b with
  | str t => cases a <;> rfl
  | tup ys =>
    cases ys with
    | cons _ _ => cases h
    | nil =>
      cases a with
      | tup xs =>
        show PyData.eqvAll (PV.dats xs) [] = PV.eqbs xs []
        cases xs <;> rfl
      | _ => rfl
  | _ => cases h
theorem w_plain {b : PV} (h : b.isW = true) (M : Sto) : b.now M = b := by
  cases b <;> first | rfl | cases h
theorem e_plain {b : PV} (h : b.ple = true) (M : Sto) : b.now M = b := by
  cases b with
  | ref a => unfold PV.ple at h; cases h
  | _ => rfl
theorem eq_ok (hu : X.A.units + 64 < cLine) : OpR X (compareOp .Eq) (r2 (ctx X ga) (cmpS .eq)) := by
  intro pins s σ H x y v u Q I rx ry h
  obtain ⟨a, b, M, Z, Q', r, ra, rb, ⟨⟨z1, z2, rfl, rfl⟩ | ⟨p1, p2, pd⟩ | ⟨w1, w2⟩, q⟩, c⟩ := h
  rotate_left 2
  · obtain ⟨as, rd, _⟩ := ra.rds I rx w1
    have e := eqv_w a b w2
    unfold eqS at q
    rw [w_plain w2, e_plain w1, ← e] at q
    have hu0 : X.A.units < cLine := by omega
    have fin : EP X pins σ Q (.bool (PyData.eqv a.dat b.dat)) s := ⟨.bl _, H, I, rfl, c.same r (.bl _) q⟩
    cases b with
    | str t =>
      obtain rfl := rb.str_inv
      obtain ⟨tk, rfl⟩ := ry
      exact SeqAt.RcAt.any_str rd t tk hu0 _ _ _ _ fin
    | tup ys =>
      cases ys with
      | cons _ _ => cases w2
      | nil =>
        obtain ⟨m, vs, rfl, hq, l⟩ := rb.tup_inv
        cases l
        cases ry
        obtain ⟨its, rv, ht, _⟩ := I.tuple hq
        cases rv
        exact SeqAt.RcAt.any_nil rd ht hu0 _ _ _ _ fin
    | _ => cases w2
  · obtain rfl := ra.str_inv
    obtain rfl := rb.str_inv
    exact op_eq pins s σ H _ _ v u Q I rx ry ⟨rfl, by rw [dec_str]; exact c.same r (.bl _) q⟩
  obtain ⟨as, q1⟩ := Dp.reads I _ x v (ra.now r p1) rx
  obtain ⟨bs, q2⟩ := Dp.reads I _ y u (rb.now r p2) ry
  refine SeqAt.compareEq_reads q1 q2 (PV.dat_lay _ p1) (PV.dat_lay _ p2) (by rw [PV.dat_dep, PV.dat_dep]; exact room_min hu pd) ⟨.bl _, H, I, rfl, ?_⟩
  rw [PV.dat_eqv _ _ p1 p2]
  exact c.same r (.bl _) q
theorem ne_ok (hu : X.A.units + 64 < cLine) : OpR X (compareOp .NotEq) (r2 (ctx X ga) (cmpS .ne)) := by
  intro pins s σ H x y v u Q I rx ry h
  obtain ⟨a, b, M, Z, Q', r, ra, rb, ⟨⟨z1, z2, rfl, rfl⟩ | ⟨p1, p2, pd⟩ | ⟨w1, w2⟩, q⟩, c⟩ := h
  rotate_left 2
  · obtain ⟨as, rd, _⟩ := ra.rds I rx w1
    have e := eqv_w a b w2
    unfold eqS at q
    rw [w_plain w2, e_plain w1, ← e] at q
    have hu0 : X.A.units < cLine := by omega
    have fin : EP X pins σ Q (.bool (!PyData.eqv a.dat b.dat)) s := ⟨.bl _, H, I, rfl, c.same r (.bl _) q⟩
    cases b with
    | str t =>
      obtain rfl := rb.str_inv
      obtain ⟨tk, rfl⟩ := ry
      exact SeqAt.RcNeAt.any_str rd t tk hu0 _ _ _ _ fin
    | tup ys =>
      cases ys with
      | cons _ _ => cases w2
      | nil =>
        obtain ⟨m, vs, rfl, hq, l⟩ := rb.tup_inv
        cases l
        cases ry
        obtain ⟨its, rv, ht, _⟩ := I.tuple hq
        cases rv
        exact SeqAt.RcNeAt.any_nil rd ht hu0 _ _ _ _ fin
    | _ => cases w2
  · obtain rfl := ra.str_inv
    obtain rfl := rb.str_inv
    exact op_ne pins s σ H _ _ v u Q I rx ry ⟨rfl, by rw [dec_str]; exact c.same r (.bl _) q⟩
  obtain ⟨as, q1⟩ := Dp.reads I _ x v (ra.now r p1) rx
  obtain ⟨bs, q2⟩ := Dp.reads I _ y u (rb.now r p2) ry
  refine SeqAt.compareNe_reads q1 q2 (PV.dat_lay _ p1) (PV.dat_lay _ p2) (by rw [PV.dat_dep, PV.dat_dep]; exact room_min hu pd) ⟨.bl _, H, I, rfl, ?_⟩
  rw [PV.dat_eqv _ _ p1 p2]
  exact c.same r (.bl _) q

/-! ### other comparisons -/
abbrev cpOf : Cp → CmpOp
  | .eq => .Eq
  | .ne => .NotEq
  | .lt => .Lt
  | .le => .LtE
  | .gt => .Gt
  | .ge => .GtE
  | .is => .Is
  | .isnot => .IsNot
  | .isin => .In
  | .notin => .NotIn
theorem ints_of {C : Ctx} {H : Hp} {M : Sto} {Z : Addr → Prop} : ∀ {xs : List PV} {vs : List V} {ns : List Int}, RepL C H M Z xs vs → PV.ints xs = some ns → vs = ns.map V.int
  | _, _, _, .nil, e => by
    have e' := Option.some.inj e
    subst e'; rfl
  | v :: xs, _, ns, .cons a b, e => by
    cases v with
    | int i =>
      obtain ⟨ms, e1, e2⟩ := Option.map_eq_some_iff.mp (show (PV.ints xs).map (i :: ·) = some ns from e)
      obtain rfl := a.int_inv
      rw [← e2, ints_of b e1]; rfl
    | _ => cases e
theorem bools_of {C : Ctx} {H : Hp} {M : Sto} {Z : Addr → Prop} : ∀ {xs : List PV} {vs : List V} {ns : List Bool}, RepL C H M Z xs vs → PV.bools xs = some ns → vs = ns.map V.bl
  | _, _, _, .nil, e => by
    have e' := Option.some.inj e
    subst e'; rfl
  | v :: xs, _, ns, .cons a b, e => by
    cases v with
    | bl i =>
      obtain ⟨ms, e1, e2⟩ := Option.map_eq_some_iff.mp (show (PV.bools xs).map (i :: ·) = some ns from e)
      obtain rfl := a.bl_inv
      rw [← e2, bools_of b e1]; rfl
    | _ => cases e
theorem ord_ok (hu : X.A.units + 64 < cLine) {op : Cp} (rule : ∀ (i j : Int) (t u : Tok) (Q : Value → Shared → Prop) (s : Shared), Q (.bool (ordI op i j)) s → wpAny (model X.prog X.w) X.A (compareOp (cpOf op) (.int i t) (.int j u)) Q X.xe s) :
    OpR X (compareOp (cpOf op)) (r2 (ctx X ga) (ordS op)) := by
  intro pins s σ H x y v u Q I rx ry h
  obtain ⟨a, b, M, Z, Q', r, ra, rb, f, c⟩ := h
  cases a with
  | int i =>
    cases b with
    | int j =>
      obtain rfl := ra.int_inv
      obtain rfl := rb.int_inv
      obtain ⟨t, rfl⟩ := rx
      obtain ⟨t', rfl⟩ := ry
      exact rule i j t t' _ s ⟨.bl _, H, I, rfl, c.same r (.bl _) f⟩
    | _ => exact f.elim
  | tup xs =>
    cases b with
    | tup ys =>
      obtain ⟨rfl, ns, ms, e1, e2, q⟩ := f
      obtain ⟨p, vs, rfl, h1, l1⟩ := ra.tup_inv
      obtain ⟨p2, ws, rfl, h2, l2⟩ := rb.tup_inv
      have g1 := ints_of l1 e1
      have g2 := ints_of l2 e2
      subst g1 g2
      exact op_ltT (by omega) pins s σ H _ _ v u Q I rx ry ⟨p, p2, ns, ms, rfl, rfl, h1, h2, c.same r (.bl _) q⟩
    | _ => exact f.elim
  | _ => cases b <;> exact f.elim
theorem is_ok : OpR X (compareOp .Is) (r2 (ctx X ga) (isS false)) := by
  intro pins s σ H x y v u Q I rx ry h
  obtain ⟨a, b, M, Z, Q', r, ra, rb, f, c⟩ := h
  cases b with
  | non =>
    obtain rfl := rb.non_inv
    refine op_isN pins s σ H _ _ v u Q I rx ry ⟨rfl, ?_⟩
    cases a with
    | non => obtain rfl := ra.non_inv; exact c.same r (.bl _) f
    | bl b => obtain rfl := ra.bl_inv; exact c.same r (.bl _) f
    | int b => obtain rfl := ra.int_inv; exact c.same r (.bl _) f
    | str b => obtain rfl := ra.str_inv; exact c.same r (.bl _) f
    | tup b => cases ra; exact c.same r (.bl _) f
    | lst b => cases ra <;> exact c.same r (.bl _) f
    | ref b => cases ra; exact c.same r (.bl _) f
    | fn b => cases ra; exact c.same r (.bl _) f
    | emp => cases ra; exact c.same r (.bl _) f
  | bl k =>
    cases a with
    | bl j =>
      obtain rfl := ra.bl_inv
      obtain rfl := rb.bl_inv
      refine op_is_bl pins s σ H _ _ v u Q I rx ry ⟨j, k, rfl, rfl, ?_⟩
      have e : decide (j = k) = (j == k) := by cases j <;> cases k <;> rfl
      rw [e]
      exact c.same r (.bl _) f
    | _ => exact f.elim
  | _ => cases a <;> exact f.elim
theorem isnot_ok : OpR X (compareOp .IsNot) (r2 (ctx X ga) (isS true)) := by
  intro pins s σ H x y v u Q I rx ry h
  obtain ⟨a, b, M, Z, Q', r, ra, rb, f, c⟩ := h
  cases b with
  | non =>
    obtain rfl := rb.non_inv
    refine op_notN pins s σ H _ _ v u Q I rx ry ⟨rfl, ?_⟩
    cases a with
    | non => obtain rfl := ra.non_inv; exact c.same r (.bl _) f
    | bl b => obtain rfl := ra.bl_inv; exact c.same r (.bl _) f
    | int b => obtain rfl := ra.int_inv; exact c.same r (.bl _) f
    | str b => obtain rfl := ra.str_inv; exact c.same r (.bl _) f
    | tup b => cases ra; exact c.same r (.bl _) f
    | lst b => cases ra <;> exact c.same r (.bl _) f
    | ref b => cases ra; exact c.same r (.bl _) f
    | fn b => cases ra; exact c.same r (.bl _) f
    | emp => cases ra; exact c.same r (.bl _) f
  | bl k =>
    cases a with
    | bl j =>
      obtain rfl := ra.bl_inv
      obtain rfl := rb.bl_inv
      refine op_isnot_bl pins s σ H _ _ v u Q I rx ry ⟨j, k, rfl, rfl, ?_⟩
      have e : (!decide (j = k)) = !(j == k) := by cases j <;> cases k <;> rfl
      rw [e]
      exact c.same r (.bl _) f
    | _ => exact f.elim
  | _ => cases a <;> exact f.elim

/-! ### in, items, slices -/
theorem any_dat {x : PV} (hx : x.pl = true) : ∀ {ys : List PV}, PV.pls ys = true → ((PV.dats ys).any fun z => PyData.eqv z x.dat) = ys.any fun z => PV.eqb z x
  | [], _ => rfl
  | y :: ys, h => by
    unfold PV.pls at h
    obtain ⟨h1, h2⟩ := Bool.and_eq_true_iff.mp h
    unfold PV.dats
    rw [List.any_cons, List.any_cons, PV.dat_eqv y x h1 hx, any_dat hx h2]
theorem in_ok (hu : X.A.units + 65 < cLine) (neg : Bool) : OpR X (compareOp (if neg = true then .NotIn else .In)) (r2 (ctx X ga) (fun x y => inS neg x y)) := by
  intro pins s σ H x y v u Q I rx ry h
  obtain ⟨a, b, M, Z, Q', r, ra, rb, ⟨ys, e, ⟨p1, p2, pd⟩ | ⟨w1, rfl, w2⟩, q⟩, c⟩ := h
  rotate_left
  · obtain ⟨as, rd, _⟩ := ra.rds I rx w1
    obtain ⟨p, vs, rfl, hs, l⟩ := rb.tup_inv
    cases ry
    obtain ⟨its, rv, ht, _⟩ := I.tuple hs
    have hu1 : X.A.in1.units < cLine := by have : X.A.in1.units = X.A.units + 1 := rfl; omega
    have ev : ∀ (z : PV), (∃ t, z = .str t) → PyData.eqv z.dat a.dat = PV.eqb z a := by
      rintro _ ⟨t, rfl⟩
      cases a <;> rfl
    have each : ∀ {ys : List PV} {vs : List V} {its : List Value}, RepL (ctx X ga) H M Z ys vs → Vals vs its → (∀ z ∈ ys, ∃ t, z = .str t) → (∀ y ∈ its, ∃ t tk, y = Value.str t tk) ∧ its.any (fun y => match y with | .str t _ => PyData.eqv (.str t) a.dat | _ => false) = ys.any fun z => PV.eqb z a := by
      intro ys
      induction ys with
      | nil =>
        intro vs its l rv _
        cases l
        cases rv
        exact ⟨fun y hy => (by cases hy), rfl⟩
      | cons z ys ih =>
        intro vs its l rv w
        cases l with
        | cons l1 l2 =>
          cases rv with
          | cons r1 r2 =>
            obtain ⟨t, rfl⟩ := w z List.mem_cons_self
            obtain rfl := l1.str_inv
            obtain ⟨tk, rfl⟩ := r1
            obtain ⟨i1, i2⟩ := ih l2 r2 fun z hz => w z (List.mem_cons_of_mem _ hz)
            refine ⟨fun y hy => ?_, ?_⟩
            · rcases List.mem_cons.mp hy with e | e
              · exact ⟨t, tk, e⟩
              · exact i1 y e
            · rw [List.any_cons, List.any_cons, i2, ← ev _ ⟨t, rfl⟩]
              rfl
    obtain ⟨g1, g2⟩ := each l rv w2
    have items : ∀ y, y ∈ its.toArray → SeqAt.EqAt X.A.in1 s y v (match y with | .str t _ => PyData.eqv (.str t) a.dat | _ => false) := fun y hy => by
      obtain ⟨t, tk, rfl⟩ := g1 y (by simpa using hy)
      exact SeqAt.EqAt.str_any rd t tk hu1
    have fin : ∀ {k : Bool}, k = (if neg = true then !(ys.any fun z => PV.eqb z a) else ys.any fun z => PV.eqb z a) → EP X pins σ Q (.bool k) s := fun {k} e => by
      rw [e]
      exact ⟨.bl _, H, I, rfl, c.same r (.bl _) q⟩
    have ha : its.toArray.any (fun y => match y with | .str t _ => PyData.eqv (.str t) a.dat | _ => false) = ys.any fun z => PV.eqb z a := by rw [← g2]; simp
    cases neg with
    | true => exact SeqAt.notIn_tupleAt _ ht items (fin (by rw [ha]; rfl))
    | false => exact SeqAt.in_tupleAt _ ht items (fin (by rw [ha]; rfl))
  obtain ⟨as, q1⟩ := Dp.reads I _ x v (ra.dp p1) rx
  obtain ⟨p, vs, rfl, hs, l⟩ := rb.so_inv r e
  have room : X.A.units + 1 + min (PyData.depthAll (PV.dats ys)) a.dat.depth < cLine := by
    rw [PV.dats_dep, PV.dat_dep]
    have h1 : min (PV.deps ys) a.dep ≤ a.dep := Nat.min_le_right _ _
    have h2 : min (PV.deps ys) a.dep ≤ PV.deps ys := Nat.min_le_left _ _
    omega
  have fin : ∀ {k : Bool}, k = (if neg = true then !((PV.dats ys).any fun z => PyData.eqv z a.dat) else (PV.dats ys).any fun z => PyData.eqv z a.dat) → EP X pins σ Q (.bool k) s := fun {k} e => by
    rw [e, any_dat p1 p2]
    exact ⟨.bl _, H, I, rfl, c.same r (.bl _) q⟩
  rcases hs with hs | hs
  · obtain ⟨bs, q2⟩ := Dp.reads I _ _ u (Dp.lst hs (l.dp p2)) ry
    cases neg with
    | true => exact SeqAt.notIn_list_reads q2 q1 (PV.dats_lay _ p2) (PV.dat_lay _ p1) room (fin rfl)
    | false => exact SeqAt.in_list_reads q2 q1 (PV.dats_lay _ p2) (PV.dat_lay _ p1) room (fin rfl)
  · obtain ⟨bs, q2⟩ := Dp.reads I _ _ u (Dp.tup hs (l.dp p2)) ry
    cases neg with
    | true => exact SeqAt.notIn_tuple_reads q2 q1 (PV.dats_lay _ p2) (PV.dat_lay _ p1) room (fin rfl)
    | false => exact SeqAt.in_tuple_reads q2 q1 (PV.dats_lay _ p2) (PV.dat_lay _ p1) room (fin rfl)
theorem cmp_ok (hu : X.A.units + 65 < cLine) (op : Cp) : OpR X (compareOp (cpOf op)) (r2 (ctx X ga) (cmpS op)) := by
  have hu' : X.A.units + 64 < cLine := by omega
  cases op with
  | eq => exact eq_ok hu'
  | ne => exact ne_ok hu'
  | lt => exact ord_ok (op := .lt) hu' fun _ _ _ _ _ _ q => lt_int q
  | le => exact ord_ok (op := .le) hu' fun _ _ _ _ _ _ q => le_int q
  | gt => exact ord_ok (op := .gt) hu' fun _ _ _ _ _ _ q => gt_int q
  | ge => exact ord_ok (op := .ge) hu' fun _ _ _ _ _ _ q => ge_int q
  | is => exact is_ok
  | isnot => exact isnot_ok
  | isin => exact in_ok hu false
  | notin => exact in_ok hu true
theorem atI_rep {C : Ctx} {H : Hp} {M : Sto} {Z : Addr → Prop} {xs : List PV} {vs : List V} {i : Int} {v : PV} (l : RepL C H M Z xs vs) (h : atI xs i = some v) : ∃ u, atI vs i = some u ∧ Rep C H M Z v u := by
  unfold atI at h ⊢
  rw [← l.length]
  cases e : ixN xs.length i with
  | none => rw [e] at h; cases h
  | some j =>
    rw [e] at h
    exact l.get h
theorem ix_ok : IxR X (r2 (ctx X ga) ixS) := by
  intro value slice pins s σ H x y v u Q I rx ry h hp
  obtain ⟨a, b, M, Z, Q', r, ra, rb, f, c⟩ := h
  cases b with
  | int i =>
    obtain rfl := rb.int_inv
    have seq : (∃ xs v, so M a = some xs ∧ atI xs i = some v ∧ Q' v M) → wpAny (model X.prog X.w) X.A (subscriptTail value slice v u) (EP X pins σ Q) X.xe s := by
      rintro ⟨xs, w, e1, e2, q⟩
      obtain ⟨p, vs, rfl, hs, l⟩ := ra.so_inv r e1
      obtain ⟨z, e3, rz⟩ := atI_rep l e2
      rcases hs with hs | hs
      · exact ix_list value slice pins s σ H _ _ v u Q I rx ry ⟨p, vs, i, z, rfl, rfl, hs, e3, c.same r rz q⟩ hp
      · exact ix_tup value slice pins s σ H _ _ v u Q I rx ry ⟨p, vs, i, z, rfl, rfl, hs, e3, c.same r rz q⟩ hp
    cases a with
    | str z =>
      obtain rfl := ra.str_inv
      obtain ⟨hz, k, e, q⟩ := f
      exact ix_str value slice pins s σ H _ _ v u Q I rx ry ⟨z, i, k, rfl, rfl, hz, e, c.same r (.str _) q⟩ hp
    | _ => exact seq f
  | _ => cases a <;> exact f.elim
theorem cut_rep {C : Ctx} {H : Hp} {M : Sto} {Z : Addr → Prop} {xs : List PV} {vs : List V} (l : RepL C H M Z xs vs) (lo hi : Option Int) : RepL C H M Z (cutP xs lo hi) (cutV vs lo hi) := by
  unfold cutP cutV
  rw [← l.length]
  exact (l.drop _).take _
def rsl (C : Ctx) : V → Option Int → Option Int → Hp → VK → Prop := fun x l h H Q =>
  ∃ v M Z Q', SR C H M Z ∧ Rep C H M Z v x ∧ slS v l h M Q' ∧ Clo C H M Z Q' Q
theorem cut_whole {xs : List PV} {lo hi : Option Int} (h1 : HT.sIx xs.length 0 lo = 0) (h2 : HT.sIx xs.length xs.length hi = xs.length) : cutP xs lo hi = xs := by
  unfold cutP
  rw [h1, h2, List.drop_zero, Nat.sub_zero, List.take_length]
theorem sl_ok : SlR X (rsl (ctx X ga)) := by
  intro pins s σ H x v vl vu lo hi sl Q I rx hs pl pu h
  obtain ⟨a, M, Z, Q', r, ra, f, c⟩ := h
  have lists : (∃ xs, SG.lo M a = some xs ∧ Q' (.lst (cutP xs lo hi)) M) → rSlL X.K x lo hi H Q ∨ rSlA X.K x lo hi H Q := by
    rintro ⟨xs, e, q⟩
    obtain ⟨p, vs, rfl, hq, l⟩ := ra.lo_inv r e
    exact .inl ⟨p, vs, rfl, hq.sq, fun p2 hp => c.newL (mt := false) r (cut_rep l lo hi) q hp⟩
  refine (sl_list.or sl_tupA) pins s σ H x v vl vu lo hi sl Q I rx hs pl pu ?_
  cases a with
  | tup xs =>
    obtain ⟨p, vs, rfl, hq, l⟩ := ra.tup_inv
    refine .inr ⟨p, vs, rfl, hq, fun hw => ?_, fun _ p2 hp => c.newT r (cut_rep l lo hi) f hp⟩
    rw [← l.length] at hw
    have f : Q' (.tup (cutP xs lo hi)) M := f
    rw [cut_whole hw.1 hw.2] at f
    exact c.same r ra f
  | _ => exact lists f

/-! ### isinstance -/
abbrev tyOf : Ty → String
  | .int => "int"
  | .bool => "bool"
  | .str => "str"
  | .tuple => "tuple"
  | .list => "list"
theorem kit_all : ∀ (a b : String) (k : Bool), (a, b, k) ∈ ([("NoneType", "int", false), ("NoneType", "bool", false), ("NoneType", "str", false), ("NoneType", "tuple", false), ("NoneType", "list", false),
    ("bool", "int", true), ("bool", "bool", true), ("bool", "str", false), ("bool", "tuple", false), ("bool", "list", false),
    ("int", "int", true), ("int", "bool", false), ("int", "str", false), ("int", "tuple", false), ("int", "list", false),
    ("str", "int", false), ("str", "bool", false), ("str", "str", true), ("str", "tuple", false), ("str", "list", false),
    ("tuple", "int", false), ("tuple", "bool", false), ("tuple", "str", false), ("tuple", "tuple", true), ("tuple", "list", false),
    ("list", "int", false), ("list", "bool", false), ("list", "str", false), ("list", "tuple", false), ("list", "list", true),
    ("dict", "int", false), ("dict", "bool", false), ("dict", "str", false), ("dict", "tuple", false), ("dict", "list", false)] : List (String × String × Bool)) → kitB a b = some k := by
  have h : (([("NoneType", "int", false), ("NoneType", "bool", false), ("NoneType", "str", false), ("NoneType", "tuple", false), ("NoneType", "list", false),
    ("bool", "int", true), ("bool", "bool", true), ("bool", "str", false), ("bool", "tuple", false), ("bool", "list", false),
    ("int", "int", true), ("int", "bool", false), ("int", "str", false), ("int", "tuple", false), ("int", "list", false),
    ("str", "int", false), ("str", "bool", false), ("str", "str", true), ("str", "tuple", false), ("str", "list", false),
    ("tuple", "int", false), ("tuple", "bool", false), ("tuple", "str", false), ("tuple", "tuple", true), ("tuple", "list", false),
    ("list", "int", false), ("list", "bool", false), ("list", "str", false), ("list", "tuple", false), ("list", "list", true),
    ("dict", "int", false), ("dict", "bool", false), ("dict", "str", false), ("dict", "tuple", false), ("dict", "list", false)] : List (String × String × Bool)).all fun x => decide (kitB x.1 x.2.1 = some x.2.2)) = true := by decide +kernel
  intro a b k hm
  exact of_decide_eq_true (List.all_eq_true.mp h _ hm)
def tyx (v : PV) : String := match v with
  | .non => "NoneType"
  | .bl _ => "bool"
  | .int _ => "int"
  | .str _ => "str"
  | .tup _ => "tuple"
  | .lst _ => "list"
  | .ref _ => "list"
  | _ => "dict"
theorem kit_NoneType (t : Ty) : kitB "NoneType" (tyOf t) = some false := by cases t <;> exact kit_all _ _ _ (by decide)
theorem kit_bool (t : Ty) : kitB "bool" (tyOf t) = some (match t with | .int => true | .bool => true | _ => false) := by cases t <;> exact kit_all _ _ _ (by decide)
theorem kit_int (t : Ty) : kitB "int" (tyOf t) = some (match t with | .int => true | _ => false) := by cases t <;> exact kit_all _ _ _ (by decide)
theorem kit_str (t : Ty) : kitB "str" (tyOf t) = some (match t with | .str => true | _ => false) := by cases t <;> exact kit_all _ _ _ (by decide)
theorem kit_tuple (t : Ty) : kitB "tuple" (tyOf t) = some (match t with | .tuple => true | _ => false) := by cases t <;> exact kit_all _ _ _ (by decide)
theorem kit_list (t : Ty) : kitB "list" (tyOf t) = some (match t with | .list => true | _ => false) := by cases t <;> exact kit_all _ _ _ (by decide)
theorem kit_dict (t : Ty) : kitB "dict" (tyOf t) = some false := by cases t <;> exact kit_all _ _ _ (by decide)
theorem isi_inv {C : Ctx} {H : Hp} {M : Sto} {Z : Addr → Prop} {v : PV} {x : V} {t : Ty} {k : Bool} (r : SR C H M Z) (h : Rep C H M Z v x) (e : isiS v M t = some k) : TyX C.K H x (.type (tyx v)) ∧ kitB (tyx v) (tyOf t) = some k := by
  have lq : ∀ {a : Addr} {vs : List V}, LQ C.K H a vs → TyX C.K H (.ref a) (.type "list") := fun {a vs} q => by
    rcases q with q | ⟨o, q⟩ | ⟨its, n, q, _⟩
    · exact .base (.lst q)
    · exact .base (.frz q)
    · exact .kList q rfl
  cases v with
  | non => cases h; exact ⟨.base .non, (kit_NoneType t).trans e⟩
  | bl b => cases h; exact ⟨.base (.bl b), (kit_bool t).trans e⟩
  | int b => cases h; exact ⟨.base (.int b), (kit_int t).trans e⟩
  | str b => cases h; exact ⟨.base (.str b), (kit_str t).trans e⟩
  | tup xs =>
    obtain ⟨a, vs, rfl, hq, _⟩ := h.tup_inv
    refine ⟨?_, (kit_tuple t).trans e⟩
    rcases hq with (q | ⟨o, q⟩) | ⟨o, its, n, q, c, _⟩
    · exact .base (.tup q)
    · exact .fTuple q
    · exact .kTuple q c
  | lst xs =>
    obtain ⟨a, vs, rfl, hq, _⟩ := h.lo_inv r rfl
    exact ⟨lq hq, (kit_list t).trans e⟩
  | ref a =>
    obtain ⟨rfl, q⟩ := h.ref_inv
    cases m : M a with
    | none => rw [m] at q; cases q
    | some o =>
      unfold isiS at e
      simp only [m] at e
      cases o with
      | lst xs =>
        obtain ⟨o, hh, vs, rfl, l⟩ := r.sto a _ m
        exact ⟨.base (.lst hh), (kit_list t).trans e⟩
      | dct _ _ => cases e
      | dks _ _ => cases e
  | fn f => cases e
  | emp =>
    cases h with
    | emp z q => exact ⟨.base (.dK q), (kit_dict t).trans e⟩

/-! ### built-in functions -/
theorem maxI_mem : ∀ (ns : List Int) (m : Int), maxI m ns ∈ m :: ns
  | [], m => by simp [maxI]
  | x :: r, m => by
    unfold maxI
    have h := maxI_mem r (if x > m then x else m)
    rcases List.mem_cons.mp h with e | e
    · rw [e]; split <;> simp
    · exact List.mem_cons_of_mem _ (List.mem_cons_of_mem _ e)
theorem maxI_ge : ∀ (ns : List Int) (m : Int), ∀ y ∈ m :: ns, y ≤ maxI m ns
  | [], m, y, h => by simp at h; subst h; exact Int.le_refl _
  | x :: r, m, y, h => by
    unfold maxI
    have g := maxI_ge r (if x > m then x else m)
    have g0 := g (if x > m then x else m) List.mem_cons_self
    rcases List.mem_cons.mp h with e | h
    · subst e
      refine Int.le_trans ?_ g0
      split <;> omega
    · rcases List.mem_cons.mp h with e | h
      · subst e
        refine Int.le_trans ?_ g0
        split <;> omega
      · exact g y (List.mem_cons_of_mem _ h)
theorem minI_mem : ∀ (ns : List Int) (m : Int), minI m ns ∈ m :: ns
  | [], m => by simp [minI]
  | x :: r, m => by
    unfold minI
    have h := minI_mem r (if x < m then x else m)
    rcases List.mem_cons.mp h with e | e
    · rw [e]; split <;> simp
    · exact List.mem_cons_of_mem _ (List.mem_cons_of_mem _ e)
theorem minI_le : ∀ (ns : List Int) (m : Int), ∀ y ∈ m :: ns, minI m ns ≤ y
  | [], m, y, h => by simp at h; subst h; exact Int.le_refl _
  | x :: r, m, y, h => by
    unfold minI
    have g := minI_le r (if x < m then x else m)
    have g0 := g (if x < m then x else m) List.mem_cons_self
    rcases List.mem_cons.mp h with e | h
    · subst e
      refine Int.le_trans g0 ?_
      split <;> omega
    · rcases List.mem_cons.mp h with e | h
      · subst e
        refine Int.le_trans g0 ?_
        split <;> omega
      · exact g y (List.mem_cons_of_mem _ h)
theorem RepL.one {C : Ctx} {H : Hp} {M : Sto} {Z : Addr → Prop} {v : PV} {xs : List V} (l : RepL C H M Z [v] xs) : ∃ x, xs = [x] ∧ Rep C H M Z v x := by
  cases l with | cons a b => cases b; exact ⟨_, rfl, a⟩
theorem RepL.two {C : Ctx} {H : Hp} {M : Sto} {Z : Addr → Prop} {v w : PV} {xs : List V} (l : RepL C H M Z [v, w] xs) : ∃ x y, xs = [x, y] ∧ Rep C H M Z v x ∧ Rep C H M Z w y := by
  cases l with | cons a b => cases b with | cons c d => cases d; exact ⟨_, _, rfl, a, c⟩
abbrev blOf : Bl → Value
  | .len => .builtin "len"
  | .abs => .builtin "abs"
  | .max => .builtin "max"
  | .min => .builtin "min"
  | .sum => .builtin "sum"
  | .all => .builtin "all"
  | .any => .builtin "any"
  | .int => .type "int"
  | .str => .type "str"
  | .repr => .builtin "repr"
  | .tuple => .type "tuple"
  | .list => .type "list"
  | .listM => .type "list"
  | .sorted => .builtin "sorted"
  | .sortedM => .builtin "sorted"
/-- a built-in of one argument -/
theorem one_ok {f : Value} {g : PV → Sto → Q1 → Prop} (h : ∀ (pins : List (Addr × Obj)) (s : Shared) (σ : L2.St) (H : Hp) (v : PV) (x : V) (us : List Value) (M : Sto) (Z : Addr → Prop) (Q' : Q1) (Q : VK), L2.Inv X pins σ H s → Vals [x] us → SR (ctx X ga) H M Z → Rep (ctx X ga) H M Z v x →
    g v M Q' → Clo (ctx X ga) H M Z Q' Q → wpAny (model X.prog X.w) X.A (call f us) (EP X pins σ Q) X.xe s) : CallR X f (rc (ctx X ga) (one1 g)) := by
  intro pins s σ H xs us Q I rx hq
  obtain ⟨vs, M, Z, Q', r, l, q, c⟩ := hq
  match vs, l, q with
  | [v], l, q =>
    obtain ⟨x, rfl, rv⟩ := l.one
    exact h pins s σ H v x us M Z Q' Q I rx r rv q c
  | [], _, q => exact False.elim q
  | _ :: _ :: _, _, q => exact False.elim q
theorem call_repr_any {P : Program} {w : World} {A : Around} {E : Value → Shared → Prop} {s : Shared} {u : Value} {d : PyData} {as : List Addr} {Q : Value → Shared → Prop} (r : Reads s.heap u d as) (hs : d.showable = true) (hnd : sysModules ∉ as) (hg : A.guards = some []) (hu : A.units + (d.depth + 1) < cLine) (hsz : d.shown.length ≤ sizeLine)
    (hQ : ∀ h' t tk, (∀ b o, s.heap.get? b = some o → h'.get? b = some o) → Q (.str d.shown t) { s with heap := h', toks := tk }) : wpAny (model P w) A (call (.builtin "repr") [u]) Q E s := by
  have key : (∃ a, u = .ref a) → wpAny (model P w) A (call (.builtin "repr") [u]) Q E s := by
    rintro ⟨a, rfl⟩
    exact repr_of_reads' r hs (fun _ => hnd) hg hu (fun _ _ e => e) hQ hsz
  cases r with
  | list _ _ _ _ => exact key ⟨_, rfl⟩
  | tuple _ _ _ _ => exact key ⟨_, rfl⟩
  | dict _ _ _ _ _ => exact key ⟨_, rfl⟩
  | none => exact PySem.P.repr_of_none (hQ s.heap _ _ fun _ _ e => e)
  | bool b => exact PySem.P.repr_of_bool (hQ s.heap _ _ fun _ _ e => e)
  | int i t => exact PySem.P.repr_of_int (of_decide_eq_true hs) (hQ s.heap _ _ fun _ _ e => e)
  | str x t => exact PySem.P.repr_of_str (hQ s.heap _ _ fun _ _ e => e) hsz
theorem blt_ok (hsy : ∃ o, X.K.lookup sysModules = some o ∧ o.cls = .type "dict") (hc : X.calm = true) (hu : X.A.units + 65 < cLine) (hgd : X.A.guards = some []) (b : Bl) : CallR X (blOf b) (rc (ctx X ga) (bltS b)) := by
  cases b with
  | len =>
    refine one_ok fun pins s σ H v x us M Z Q' Q I rx r rv f c => ?_
    have seq : (∃ xs, so M v = some xs ∧ Q' (.int xs.length) M) → wpAny (model X.prog X.w) X.A (call (blOf .len) us) (EP X pins σ Q) X.xe s := by
      rintro ⟨ys, e, q⟩
      obtain ⟨p, ws, rfl, hs, l2⟩ := rv.so_inv r e
      refine call_len pins s σ H _ us Q I rx ⟨.ref p, ws.length, rfl, ?_, ?_⟩
      · rcases hs with hs | hs
        · exact .inl ⟨ws, hs, rfl⟩
        · exact .inr ⟨ws, hs, rfl⟩
      · rw [← l2.length]; exact c.same r (.int _) q
    cases v with
    | str z =>
      obtain rfl := rv.str_inv
      exact call_len pins s σ H _ us Q I rx ⟨.str z, z.length, rfl, ⟨f.1, rfl⟩, c.same r (.int _) f.2⟩
    | _ => exact seq f
  | abs =>
    refine one_ok fun pins s σ H v x us M Z Q' Q I rx r rv f c => ?_
    cases v with
    | int i =>
      obtain rfl := rv.int_inv
      exact call_abs pins s σ H _ us Q I rx ⟨i, rfl, c.same r (.int _) f⟩
    | _ => exact False.elim f
  | max =>
    intro pins s σ H xs us Q I rx h
    obtain ⟨vs, M, Z, Q', r, l, f, c⟩ := h
    match vs, l, f with
    | [v, w], l, f =>
      obtain ⟨x, y, rfl, rv, rw⟩ := l.two
      obtain ⟨i, j, rfl, rfl, f⟩ := f
      obtain rfl := rv.int_inv
      obtain rfl := rw.int_inv
      exact call_max2 hc pins s σ H _ us Q I rx ⟨i, j, rfl, c.same r (.int _) f⟩
    | [v], l, f =>
      obtain ⟨x, rfl, rv⟩ := l.one
      obtain ⟨ys, n, ns, e1, e2, q⟩ := f
      obtain ⟨p, ws, rfl, hs, l2⟩ := rv.lo_inv r e1
      have g := ints_of l2 e2
      subst g
      refine cr_max hc pins s σ H _ us Q I rx ⟨p, n :: ns, rfl, hs.sq, by simp, fun m h1 h2 => ?_⟩
      have e : m = maxI n ns := Int.le_antisymm (maxI_ge ns n m h1) (h2 _ (maxI_mem ns n))
      subst e
      exact c.same r (.int _) q
    | [], _, f => exact False.elim f
    | _ :: _ :: _ :: _, _, f => exact False.elim f
  | min =>
    intro pins s σ H xs us Q I rx h
    obtain ⟨vs, M, Z, Q', r, l, f, c⟩ := h
    match vs, l, f with
    | [v, w], l, f =>
      obtain ⟨x, y, rfl, rv, rw⟩ := l.two
      obtain ⟨i, j, rfl, rfl, f⟩ := f
      obtain rfl := rv.int_inv
      obtain rfl := rw.int_inv
      exact call_min2 hc pins s σ H _ us Q I rx ⟨i, j, rfl, c.same r (.int _) f⟩
    | [v], l, f =>
      obtain ⟨x, rfl, rv⟩ := l.one
      obtain ⟨ys, n, ns, e1, e2, q⟩ := f
      obtain ⟨p, ws, rfl, hs, l2⟩ := rv.lo_inv r e1
      have g := ints_of l2 e2
      subst g
      refine cr_min hc pins s σ H _ us Q I rx ⟨p, n :: ns, rfl, hs.sq, by simp, fun m h1 h2 => ?_⟩
      have e : m = minI n ns := Int.le_antisymm (h2 _ (minI_mem ns n)) (minI_le ns n m h1)
      subst e
      exact c.same r (.int _) q
    | [], _, f => exact False.elim f
    | _ :: _ :: _ :: _, _, f => exact False.elim f
  | sum =>
    refine one_ok fun pins s σ H v x us M Z Q' Q I rx r rv f c => ?_
    obtain ⟨ys, ns, e1, e2, q⟩ := f
    obtain ⟨p, ws, rfl, hs, l2⟩ := rv.so_inv r e1
    have g := ints_of l2 e2
    subst g
    rcases hs with hs | hs
    · exact cr_sum hc pins s σ H _ us Q I rx ⟨p, ns, rfl, hs, c.same r (.int _) q⟩
    · obtain ⟨its, rv', hl, _⟩ := I.tuple hs
      rw [Vals.ref1 rx]
      obtain ⟨xs, e⟩ := rv'.ints.allInts.items
      have hn : numsOf (intItems xs).toList = ns := by rw [← e]; exact rv'.ints.numsOf
      rw [nums_intItems] at hn
      rw [e] at hl
      refine PySem.W.ktm_sumG (I.ok.hd hc) hl fun h' tk t' hk => ?_
      rw [preSum_eq, List.take_of_length_le (by simp), hn]
      exact ⟨.int _, H, I.kept hk, ⟨_, rfl⟩, c.same r (.int _) q⟩
  | all =>
    refine one_ok fun pins s σ H v x us M Z Q' Q I rx r rv f c => ?_
    obtain ⟨ys, ns, e1, e2, q⟩ := f
    obtain ⟨p, ws, rfl, hs, l2⟩ := rv.lo_inv r e1
    have g := bools_of l2 e2
    subst g
    exact cr_all hc pins s σ H _ us Q I rx ⟨p, ns, rfl, hs.sq, c.same r (.bl _) q⟩
  | any =>
    refine one_ok fun pins s σ H v x us M Z Q' Q I rx r rv f c => ?_
    obtain ⟨ys, ns, e1, e2, q⟩ := f
    obtain ⟨p, ws, rfl, hs, l2⟩ := rv.lo_inv r e1
    have g := bools_of l2 e2
    subst g
    exact cr_any hc pins s σ H _ us Q I rx ⟨p, ns, rfl, hs.sq, c.same r (.bl _) q⟩
  | int =>
    refine one_ok fun pins s σ H v x us M Z Q' Q I rx r rv f c => ?_
    cases v with
    | int i =>
      obtain rfl := rv.int_inv
      exact call_int1 pins s σ H _ us Q I rx (.inl ⟨i, rfl, c.same r (.int _) f⟩)
    | bl i =>
      obtain rfl := rv.bl_inv
      exact call_int1 pins s σ H _ us Q I rx (.inr ⟨i, rfl, c.same r (.int _) f⟩)
    | _ => exact False.elim f
  | str =>
    refine one_ok fun pins s σ H v x us M Z Q' Q I rx r rv f c => ?_
    cases v with
    | int i =>
      obtain rfl := rv.int_inv
      exact call_str_int pins s σ H _ us Q I rx ⟨i, rfl, f.1, c.same r (.str _) f.2⟩
    | bl b =>
      obtain rfl := rv.bl_inv
      obtain ⟨u, rfl, r1⟩ := vals1 rx
      cases r1
      exact PySem.P.str_of_bool ⟨.str _, H, I.tok _, ⟨_, rfl⟩, c.same r (.str _) f⟩
    | _ => exact False.elim f
  | repr =>
    refine one_ok fun pins s σ H v x us M Z Q' Q I rx r rv f c => ?_
    obtain ⟨⟨p1, p2, p3, p4⟩, q⟩ := f
    obtain ⟨u, rfl, ru⟩ := rx.one
    obtain ⟨as, rd, ns⟩ := rv.rdsN I r ru p1
    have hn : sysModules ∉ as := by
      obtain ⟨o, g1, g2⟩ := hsy
      exact ns ⟨o, I.kIn _ _ g1, g2⟩
    refine call_repr_any rd p3 hn hgd (by rw [PV.dat_dep]; omega) p4 fun h' t tk hk => ?_
    exact ⟨.str _, H, I.kept hk, ⟨t, rfl⟩, c.same r (.str _) q⟩
  | tuple =>
    refine one_ok fun pins s σ H v x us M Z Q' Q I rx r rv f c => ?_
    obtain ⟨ys, e1, q⟩ := f
    obtain ⟨p, ws, rfl, hs, l2⟩ := rv.so_inv r e1
    refine call_tuple_of pins s σ H _ us Q I rx ⟨p, ws, rfl, ?_⟩
    rcases hs with hs | hs
    · exact .inl ⟨hs, fun p2 hp => c.newT r l2 q hp⟩
    · exact .inr ⟨hs, c.same r (.tup hs l2) q⟩
  | list =>
    refine one_ok fun pins s σ H v x us M Z Q' Q I rx r rv f c => ?_
    obtain ⟨ys, e1, q⟩ := f
    obtain ⟨p, ws, rfl, hs, l2⟩ := rv.so_inv r e1
    exact call_list_of pins s σ H _ us Q I rx ⟨p, ws, rfl, hs, fun p2 hp => c.newL (mt := false) r l2 q hp⟩
  | listM =>
    refine one_ok fun pins s σ H v x us M Z Q' Q I rx r rv f c => ?_
    obtain ⟨ys, e1, q⟩ := f
    obtain ⟨p, ws, rfl, hs, l2⟩ := rv.so_inv r e1
    exact call_list_of pins s σ H _ us Q I rx ⟨p, ws, rfl, hs, fun p2 hp => c.newL (mt := true) r l2 q hp⟩
  | sorted => intro pins s σ H xs us Q I rx ⟨_, _, _, _, _, _, f, _⟩; exact False.elim f
  | sortedM => intro pins s σ H xs us Q I rx ⟨_, _, _, _, _, _, f, _⟩; exact False.elim f

/-! ### methods of lists, stores -/
theorem mt_extendL : MtM X "list.extend" (fun x vs H Q => ∃ l b xs zs, x = .ref l ∧ vs = [.ref b] ∧ H l = some (.lst xs) ∧ LQ X.K H b zs ∧ xs.length + zs.length ≤ sizeLine ∧ Q .non (upd H l (.lst (xs ++ zs)))) := by
  intro pins s σ H x vs v us Q I rx rv h
  obtain ⟨l, b, xs, zs, rfl, rfl, h1, h2, hz, q⟩ := h
  cases rx
  obtain ⟨u, rfl, ru⟩ := rv.one
  cases ru
  obtain ⟨_, its, n, r, hl, e⟩ := I.lstM h1
  obtain ⟨its2, n2, r2, e2, _⟩ := h2.isL I
  have hl2 := r2.length
  have sz : its.toArray.size + its2.toArray.size ≤ sizeLine := by simp only [List.size_toArray]; omega
  have c1 : ¬ (!its.toArray.isEmpty && Builtin.List.listTooLong (its.toArray.size + its2.toArray.size)) = true := by
    rw [notLongL sz]; simp
  have inner := AutoSeq1.list_extend_list_list_0 l its.toArray n b its2.toArray n2 c1 (by rw [List.size_toArray]; omega) (by omega)
  refine call_meets F.slot_list_extend ⟨_, e, rfl⟩ F.entry_list_extend
    (F.args_list_extend_2 _ _) inner ⟨e, e2, ?_⟩
  refine ⟨.non, _, I.lset (its' := its ++ its2) h1 e (by simp) (r.append r2) ?_, rfl, q⟩
  simp only [List.length_append]; omega
abbrev mtOf : Mt → String
  | .append => "list.append"
  | .extend => "list.extend"
  | .insert => "list.insert"
  | .index => "list.index"
  | .count => "list.count"
  | .pop => "list.pop"
theorem dats_get : ∀ {ys : List PV} {j : Nat} {z : PyData}, (PV.dats ys)[j]? = some z → ∃ y, ys[j]? = some y ∧ z = y.dat
  | [], j, z, h => by unfold PV.dats at h; simp at h
  | y :: r, 0, z, h => by unfold PV.dats at h; exact ⟨y, rfl, by simpa using h.symm⟩
  | y :: r, j + 1, z, h => by
    unfold PV.dats at h
    obtain ⟨u, h1, h2⟩ := dats_get (ys := r) (j := j) (by simpa using h)
    exact ⟨u, by simpa using h1, h2⟩
theorem dats_at : ∀ {ys : List PV} {j : Nat} {y : PV}, ys[j]? = some y → (PV.dats ys)[j]? = some y.dat
  | [], j, y, h => by simp at h
  | y :: r, 0, z, h => by unfold PV.dats; have : y = z := by simpa using h
                          subst this; rfl
  | y :: r, j + 1, z, h => by
    unfold PV.dats
    have := dats_at (ys := r) (j := j) (y := z) (by simpa using h)
    simpa using this
theorem pls_get : ∀ {ys : List PV} {j : Nat} {y : PV}, PV.pls ys = true → ys[j]? = some y → y.pl = true
  | [], j, y, _, h => by simp at h
  | y :: r, 0, z, p, h => by
    unfold PV.pls at p
    have : y = z := by simpa using h
    subst this; exact (Bool.and_eq_true_iff.mp p).1
  | y :: r, j + 1, z, p, h => by
    unfold PV.pls at p
    exact pls_get (ys := r) (j := j) (Bool.and_eq_true_iff.mp p).2 (by simpa using h)
theorem count_dat {x : PV} (hx : x.pl = true) : ∀ {ys : List PV}, PV.pls ys = true → ((PV.dats ys).countP fun z => PyData.eqv z x.dat) = ys.countP fun z => PV.eqb z x
  | [], _ => rfl
  | y :: ys, h => by
    unfold PV.pls at h
    obtain ⟨h1, h2⟩ := Bool.and_eq_true_iff.mp h
    unfold PV.dats
    rw [List.countP_cons, List.countP_cons, PV.dat_eqv y x h1 hx, count_dat hx h2]
/-- l.index(x), l.count(x): the first place of an equal one, how many -/
theorem mt_idx (hu : X.A.units + 65 < cLine) : MtR X "list.index" (fun x xs H Q => ∃ (a : Addr) (y : V) (d : PyData) (ds : List PyData) (j : Nat) (z : PyData), x = V.ref a ∧ xs = [y] ∧ Dp X.K H (V.ref a) (.list ds) ∧ Dp X.K H y d ∧
    PyData.canLayAll0 ds = true ∧ d.canLay0 = true ∧ (d.depth ≤ 64 ∨ PyData.depthAll ds ≤ 64) ∧ ds[j]? = some z ∧ PyData.eqv z d = true ∧ (∀ (m : Nat) (z' : PyData), m < j → ds[m]? = some z' → PyData.eqv z' d = false) ∧ Q (.int (j : Nat)) H) := by
  intro pins s σ H x xs v us Q I rx rxs h
  obtain ⟨a, y, d, ds, j, z, rfl, rfl, hl, hy, hxs, hd, pd, hz, hzj, hno, q⟩ := h
  cases rx
  cases rxs with
  | cons ry rt =>
    rename_i uy ut
    cases rt
    obtain ⟨bs, r1⟩ := Dp.reads I d y uy hy ry
    have hroom : X.A.units + 1 + min (PyData.depthAll ds) d.depth < cLine := by
      have h1 : min (PyData.depthAll ds) d.depth ≤ d.depth := Nat.min_le_right _ _
      have h2 : min (PyData.depthAll ds) d.depth ≤ PyData.depthAll ds := Nat.min_le_left _ _
      omega
    cases hl with
    | lst hs ha =>
      obtain ⟨its, rv, ⟨⟨cls, dd, data, sls⟩, n, ho, hc, hdn, hdt⟩, hlen⟩ := I.list hs
      simp only at hc hdt
      subst hc hdt
      obtain ⟨as, h4⟩ := Dp.readsAll I ds _ its ha rv
      have hn : its.length = ds.length := SeqAt.ReadsAll.length ds its as h4
      have hmap : its.map (SeqAt.readOf s.heap) = ds := SeqAt.readsAll_map ds its as hxs h4
      have hvl := rv.length
      have hsl := sizeLine_eq
      obtain ⟨hjd, _⟩ := List.getElem?_eq_some_iff.mp hz
      have hjl : j < its.length := by omega
      have hj : j < its.toArray.size := by simpa using hjl
      have at_ : ∀ (m : Nat) (hm : m < its.toArray.size) (z' : PyData), ds[m]? = some z' → SeqAt.readOf s.heap its.toArray[m] = z' := by
        intro m hm z' hz'
        have hml : m < its.length := by simpa using hm
        rw [← hmap, List.getElem?_map, List.getElem?_eq_getElem hml] at hz'
        have e1 : SeqAt.readOf s.heap its[m] = z' := Option.some.inj (show some (SeqAt.readOf s.heap its[m]) = some z' from hz')
        simpa using e1
      refine call_meets PySem.F.slot_list_index ⟨_, ho, rfl⟩ PySem.F.entry_list_index (PySem.F.args_list_index_2 _ _)
        (SeqAt.list_indexAt a its.toArray n dd sls uy (fun u => PyData.eqv (SeqAt.readOf s.heap u) d) j hj (by omega) ?_ ?_) ⟨ho, SeqAt.items_eqAt (vs := its.toArray) (show ReadsAll s.heap its.toArray.toList ds as from h4) r1 hxs hd hroom, ?_⟩
      · show PyData.eqv (SeqAt.readOf s.heap its.toArray[j]) d = true
        rw [at_ j hj z hz]
        exact hzj
      · intro m hm hmj
        have hmd : m < ds.length := by omega
        have hz' : ds[m]? = some ds[m] := List.getElem?_eq_getElem hmd
        show PyData.eqv (SeqAt.readOf s.heap its.toArray[m]) d = false
        rw [at_ m hm _ hz']
        exact hno m _ hmj hz'
      · exact ⟨.int (j : Nat), H, I.tok _, ⟨_, rfl⟩, q⟩
theorem mt_cnt (hu : X.A.units + 65 < cLine) : MtR X "list.count" (fun x xs H Q => ∃ (a : Addr) (y : V) (d : PyData) (ds : List PyData), x = V.ref a ∧ xs = [y] ∧ Dp X.K H (V.ref a) (.list ds) ∧ Dp X.K H y d ∧
    PyData.canLayAll0 ds = true ∧ d.canLay0 = true ∧ (d.depth ≤ 64 ∨ PyData.depthAll ds ≤ 64) ∧ Q (.int ((ds.countP fun y => PyData.eqv y d : Nat) : Int)) H) := by
  intro pins s σ H x xs v us Q I rx rxs h
  obtain ⟨a, y, d, ds, rfl, rfl, hl, hy, hxs, hd, pd, q⟩ := h
  cases rx
  cases rxs with
  | cons ry rt =>
    rename_i uy ut
    cases rt
    obtain ⟨bs, r1⟩ := Dp.reads I d y uy hy ry
    have hroom : X.A.units + 1 + min (PyData.depthAll ds) d.depth < cLine := by
      have h1 : min (PyData.depthAll ds) d.depth ≤ d.depth := Nat.min_le_right _ _
      have h2 : min (PyData.depthAll ds) d.depth ≤ PyData.depthAll ds := Nat.min_le_left _ _
      omega
    cases hl with
    | lst hs ha =>
      obtain ⟨its, rv, ⟨⟨cls, dd, data, sls⟩, n, ho, hc, hdn, hdt⟩, hlen⟩ := I.list hs
      simp only at hc hdt
      subst hc hdt
      obtain ⟨as, h4⟩ := Dp.readsAll I ds _ its ha rv
      have hmap : its.map (SeqAt.readOf s.heap) = ds := SeqAt.readsAll_map ds its as hxs h4
      refine call_meets PySem.F.slot_list_count ⟨_, ho, rfl⟩ PySem.F.entry_list_count (PySem.F.args_list_count_2 _ _) (SeqAt.list_countAt a its.toArray n dd sls uy _) ⟨ho, SeqAt.items_eqAt (vs := its.toArray) (show ReadsAll s.heap its.toArray.toList ds as from h4) r1 hxs hd hroom, ?_⟩
      rw [← hmap, List.countP_map] at q
      exact ⟨.int _, H, I.tok _, ⟨_, rfl⟩, q⟩
theorem mth_ok (hu : X.A.units + 65 < cLine) (m : Mt) : MtR X (mtOf m) (rm (ctx X ga) (mthS m)) := by
  intro pins s σ H x xs v us Q I rx rxs h
  obtain ⟨a, vs, M, Z, Q', r, ra, l, f, c⟩ := h
  cases m with
  | append =>
    match vs, l, f with
    | [y], l, f =>
      obtain ⟨p, ys, rfl, m, hz, q⟩ := f
      obtain ⟨rfl, _⟩ := ra.ref_inv
      obtain ⟨z, rfl, rz⟩ := l.one
      obtain ⟨o, hh, ws, rfl, l2⟩ := r.sto p _ m
      exact mt_append pins s σ H _ _ v us Q I rx rxs ⟨p, ws, z, rfl, rfl, hh, by rw [← l2.length]; exact hz, c.wrL r m (l2.append (.cons rz .nil)) .non q⟩
    | [], _, f => exact False.elim f
    | _ :: _ :: _, _, f => exact False.elim f
  | extend =>
    match vs, l, f with
    | [y], l, f =>
      obtain ⟨p, ys, zs, rfl, m, e, hz, q⟩ := f
      obtain ⟨rfl, _⟩ := ra.ref_inv
      obtain ⟨z, rfl, rz⟩ := l.one
      obtain ⟨o, hh, ws, rfl, l2⟩ := r.sto p _ m
      obtain ⟨b, us2, rfl, hb, l3⟩ := rz.lo_inv r e
      exact mt_extendL pins s σ H _ _ v us Q I rx rxs ⟨p, b, ws, us2, rfl, rfl, hh, hb, by rw [← l2.length, ← l3.length]; exact hz, c.wrL r m (l2.append l3) .non q⟩
    | [], _, f => exact False.elim f
    | _ :: _ :: _, _, f => exact False.elim f
  | index =>
    match vs, l, f with
    | [y], l, f =>
      obtain ⟨ys, j, e, p1, p2, pd, hj, q⟩ := f
      obtain ⟨z, rfl, rz⟩ := l.one
      obtain ⟨p, ws, rfl, hq, l2⟩ := ra.lo_inv r e
      obtain ⟨hlt, hj1, hj2⟩ := List.findIdx?_eq_some_iff_getElem.mp hj
      refine mt_idx hu pins s σ H _ _ v us Q I rx rxs ⟨p, z, y.dat, PV.dats ys, j, (ys[j]).dat, rfl, rfl, Dp.lst hq.sq (l2.dp p2), rz.dp p1, PV.dats_lay _ p2, PV.dat_lay _ p1, by rw [PV.dats_dep, PV.dat_dep]; exact pd, dats_at (List.getElem?_eq_getElem hlt), ?_, fun m z' hm hz => ?_, c.same r (.int _) q⟩
      · rw [PV.dat_eqv _ _ (pls_get p2 (List.getElem?_eq_getElem hlt)) p1]; exact hj1
      · obtain ⟨u, h1, rfl⟩ := dats_get hz
        rw [PV.dat_eqv _ _ (pls_get p2 h1) p1]
        have hm2 : m < ys.length := by omega
        rw [List.getElem?_eq_getElem hm2] at h1
        cases h1
        simpa using hj2 m hm
    | [], _, f => exact False.elim f
    | _ :: _ :: _, _, f => exact False.elim f
  | count =>
    match vs, l, f with
    | [y], l, f =>
      obtain ⟨ys, e, p1, p2, pd, q⟩ := f
      obtain ⟨z, rfl, rz⟩ := l.one
      obtain ⟨p, ws, rfl, hq, l2⟩ := ra.lo_inv r e
      refine mt_cnt hu pins s σ H _ _ v us Q I rx rxs ⟨p, z, y.dat, PV.dats ys, rfl, rfl, Dp.lst hq.sq (l2.dp p2), rz.dp p1, PV.dats_lay _ p2, PV.dat_lay _ p1, by rw [PV.dats_dep, PV.dat_dep]; exact pd, ?_⟩
      rw [count_dat p1 p2]
      exact c.same r (.int _) q
    | [], _, f => exact False.elim f
    | _ :: _ :: _, _, f => exact False.elim f
  | insert =>
    match vs, l, f with
    | [i, y], l, f =>
      obtain ⟨p, ys, k, rfl, rfl, m, hz, k0, k1, q⟩ := f
      obtain ⟨rfl, _⟩ := ra.ref_inv
      obtain ⟨z1, z2, rfl, rz1, rz2⟩ := l.two
      obtain rfl := rz1.int_inv
      obtain ⟨o, hh, ws, rfl, l2⟩ := r.sto p _ m
      exact L2.mt_insert pins s σ H _ _ v us Q I rx rxs ⟨p, ws, k, z2, rfl, rfl, hh, by rw [← l2.length]; exact hz, k0, k1, c.wrL r m (((l2.take k.toNat).append (.cons rz2 .nil)).append (l2.drop k.toNat)) .non q⟩
    | [], _, f => exact False.elim f
    | [_], _, f => exact False.elim f
    | _ :: _ :: _ :: _, _, f => exact False.elim f
  | pop =>
    match vs, l, f with
    | [i], l, f =>
      obtain ⟨p, ys, k, w, rfl, rfl, m, hz, hk, q⟩ := f
      obtain ⟨rfl, _⟩ := ra.ref_inv
      obtain ⟨z1, rfl, rz1⟩ := l.one
      obtain rfl := rz1.int_inv
      obtain ⟨o, hh, ws, rfl, l2⟩ := r.sto p _ m
      obtain ⟨u, hu1, ru⟩ := l2.get hk
      have kl := (List.getElem?_eq_some_iff.mp hu1).1
      have el := l2.length
      have hsl := sizeLine_eq
      have hx : seqIndex? (k : Int) ws.length = some k := by unfold seqIndex?; simp; omega
      exact L2.mt_popAt pins s σ H _ _ v us Q I rx rxs ⟨p, ws, k, k, u, rfl, rfl, hh, by omega, by omega, hx, hu1, c.wrL r m (l2.eraseIdx k) ru q⟩
    | [], _, f => exact False.elim f
    | _ :: _ :: _, _, f => exact False.elim f
/-- o[i] = v -/
def rset (C : Ctx) : V → V → V → Hp → (Hp → Prop) → Prop := fun x y z H Q =>
  ∃ a b v M Z Q', SR C H M Z ∧ Rep C H M Z a x ∧ Rep C H M Z b y ∧ Rep C H M Z v z ∧ setS a b v M Q' ∧ ∀ H' M' Z', Ext H M Z H' M' Z' → SR C H' M' Z' → Q' M' → Q H'
theorem set_ok : PSet X (rset (ctx X ga)) := by
  intro pins s σ H o i z ov iv u Q I ro ri rz h
  obtain ⟨a, b, v, M, Z, Q', r, ra, rb, rv, f, c⟩ := h
  cases a with
  | ref p =>
    cases b with
    | int k =>
      obtain ⟨xs, j, m, e, q⟩ := f
      obtain ⟨rfl, _⟩ := ra.ref_inv
      obtain rfl := rb.int_inv
      obtain ⟨o, hh, ws, rfl, l2⟩ := r.sto p _ m
      refine set_list pins s σ H _ _ z ov iv u Q I ro ri rz ⟨p, ws, k, j, rfl, rfl, hh, by rw [← l2.length]; exact e, ?_⟩
      exact c _ _ _ (Ext.wr m) (r.wr (so' := .lst (xs.set j v)) m ⟨_, rfl, l2.set rv j⟩) q
    | _ => exact f.elim
  | _ => cases b <;> exact f.elim
end
end SG
namespace SG
open PySem PySem.Spec PyProof.Rows L2

/-! ### readings of the small language -/
structure EnvR (C : Ctx) (H : Hp) (M : Sto) (Z : Addr → Prop) (ρ : Rho) (σ : L2.St) : Prop where
  len : ρ.length = σ.length
  get : ∀ (i : Nat) (v : PV), ρ[i]? = some (some v) → ∃ x, σ[i]? = some (some x) ∧ Rep C H M Z v x
theorem EnvR.mono {C : Ctx} {H H1 : Hp} {M M1 : Sto} {Z Z1 : Addr → Prop} {ρ : Rho} {σ : L2.St} (e : EnvR C H M Z ρ σ) (r : SR C H M Z) (x : Ext H M Z H1 M1 Z1) : EnvR C H1 M1 Z1 ρ σ :=
  ⟨e.len, fun i v h => let ⟨u, h1, h2⟩ := e.get i v h; ⟨u, h1, h2.mono r x⟩⟩
theorem EnvR.set {C : Ctx} {H : Hp} {M : Sto} {Z : Addr → Prop} {ρ : Rho} {σ : L2.St} (e : EnvR C H M Z ρ σ) {v : PV} {u : V} (r : Rep C H M Z v u) (i : Nat) : EnvR C H M Z (ρ.set i (some v)) (σ.set i (some u)) := by
  refine ⟨by simp [e.len], fun j w h => ?_⟩
  by_cases q : j = i
  · subst q
    by_cases hj : j < ρ.length
    · rw [List.getElem?_set_self hj] at h
      cases h
      exact ⟨u, List.getElem?_set_self (by rw [← e.len]; exact hj), r⟩
    · rw [List.getElem?_eq_none (by simpa using hj)] at h; cases h
  · rw [List.getElem?_set_ne (Ne.symm q)] at h ⊢
    exact e.get j w h
def rd (C : Ctx) (F : FS) (e : E) : TE := fun σ H Q => ∃ ρ M Z Q', SR C H M Z ∧ EnvR C H M Z ρ σ ∧ wpE F e ρ M Q' ∧ Clo C H M Z Q' Q
def CloL (C : Ctx) (H : Hp) (M : Sto) (Z : Addr → Prop) (Q' : List PV → Sto → Prop) (Q : List V → Hp → Prop) : Prop :=
  ∀ vs xs H' M' Z', Ext H M Z H' M' Z' → SR C H' M' Z' → RepL C H' M' Z' vs xs → Q' vs M' → Q xs H'
def rdL (C : Ctx) (F : FS) (es : List E) : TA := fun σ H Q => ∃ ρ M Z Q', SR C H M Z ∧ EnvR C H M Z ρ σ ∧ wpL F es ρ M Q' ∧ CloL C H M Z Q' Q
def CloB {α : Type} (C : Ctx) (H : Hp) (M : Sto) (Z : Addr → Prop) (Q' : α → Sto → Prop) (Q : α → Hp → Prop) : Prop :=
  ∀ k H' M' Z', Ext H M Z H' M' Z' → SR C H' M' Z' → Q' k M' → Q k H'
def rdO (C : Ctx) (F : FS) (e : Option E) : TO := fun σ H Q => ∃ ρ M Z Q', SR C H M Z ∧ EnvR C H M Z ρ σ ∧ wpO F e ρ M Q' ∧ CloB C H M Z Q' Q
/-- an expression as a test -/
def rdT (C : Ctx) (F : FS) (e : E) : TT := fun σ H Q => ∃ ρ M Z Q', SR C H M Z ∧ EnvR C H M Z ρ σ ∧ wpE F e ρ M (fun v M' => ∃ k, truS M' v = some k ∧ Q' k M') ∧ CloB C H M Z Q' Q

theorem PE.imp {X : Cx} {e : Expr} {t t' : TE} (h : PE X e t) (i : ∀ σ H Q, t' σ H Q → t σ H Q) : PE X e t' := ⟨fun pins s σ H Q I q => h.run pins s σ H Q I (i σ H Q q)⟩
theorem PT.imp {X : Cx} {e : Expr} {t t' : TT} (h : PT X e t) (i : ∀ σ H Q, t' σ H Q → t σ H Q) : PT X e t' := ⟨fun pins s σ H Q I q => h.run pins s σ H Q I (i σ H Q q)⟩
theorem PW.imp {X : Cx} {e : Expr} {t t' : TT} (h : PW X e t) (i : ∀ σ H Q, t' σ H Q → t σ H Q) : PW X e t' := ⟨fun wh pins s σ H Q I q => h.run wh pins s σ H Q I (i σ H Q q)⟩
theorem PA.imp {X : Cx} {e : List Expr} {t t' : TA} (h : PA X e t) (i : ∀ σ H Q, t' σ H Q → t σ H Q) : PA X e t' := ⟨fun p pins s σ H Q I q => h.run p pins s σ H Q I (i σ H Q q)⟩
theorem PO.imp {X : Cx} {e : Option Expr} {t t' : TO} (h : PO X e t) (i : ∀ σ H Q, t' σ H Q → t σ H Q) : PO X e t' := ⟨fun pins s σ H Q I q => h.run pins s σ H Q I (i σ H Q q)⟩

section
variable {X : Cx} {ga : Str → Option Addr} {F : FS}

/-! ### rules -/
theorem ps_var {i : Nat} {x : Str} {pos : Pos} (hN : X.N[i]? = some x) (hv : Vis X.env.scope x) (hd : (x == ("__debug__" : Str)) = false) (hcd : (x == ("__classdict__" : Str)) = false) : PE X (.Name x pos) (rd (ctx X ga) F (.var i)) :=
  PE.imp (pe_var hN hv hd hcd) fun σ H Q ⟨ρ, M, Z, Q', r, e, ⟨v, h, q⟩, c⟩ => by
    obtain ⟨u, h1, h2⟩ := e.get i v h
    exact ⟨u, h1, c.same r h2 q⟩
/-- a value that is the same everywhere -/
theorem ps_cst {e : Expr} {v : PV} {x : V} (h : PE X e (tC x)) (rv : ∀ H M Z, Rep (ctx X ga) H M Z v x) : PE X e (rd (ctx X ga) F (.cst v)) :=
  PE.imp h fun σ H Q ⟨ρ, M, Z, Q', r, e, q, c⟩ => c.same r (rv H M Z) q
theorem rd_two {a b : E} {f : PV → PV → Sto → Q1 → Prop} {σ : L2.St} {H : Hp} {Q : VK} {ρ : Rho} {M : Sto} {Z : Addr → Prop} {Q' : Q1} (r : SR (ctx X ga) H M Z) (e : EnvR (ctx X ga) H M Z ρ σ)
    (h : wpE F a ρ M fun x M1 => wpE F b ρ M1 fun y M2 => f x y M2 Q') (c : Clo (ctx X ga) H M Z Q' Q) : tOp (r2 (ctx X ga) f) (rd (ctx X ga) F a) (rd (ctx X ga) F b) σ H Q := by
  refine ⟨ρ, M, Z, _, r, e, h, fun v x H1 M1 Z1 x1 r1 rv h1 => ?_⟩
  refine ⟨ρ, M1, Z1, _, r1, e.mono r x1, h1, fun w y H2 M2 Z2 x2 r2 rw h2 => ?_⟩
  exact ⟨v, w, M2, Z2, Q', r2, rv.mono r1 x2, rw, h2, fun z u H3 M3 Z3 x3 r3 rz h3 => c z u H3 M3 Z3 ((x1.trans x2).trans x3) r3 rz h3⟩
theorem ps_bin {op : Op} {a b : Expr} {ea eb : E} {pos : Pos} (ha : PE X a (rd (ctx X ga) F ea)) (hb : PE X b (rd (ctx X ga) F eb)) : PE X (.BinOp a (opOf op) b pos) (rd (ctx X ga) F (.bin op ea eb)) :=
  PE.imp (pe_op (bin_ok op) ha hb) fun σ H Q ⟨ρ, M, Z, Q', r, e, h, c⟩ => rd_two r e h c
theorem ps_neg {a : Expr} {ea : E} {pos : Pos} (ha : PE X a (rd (ctx X ga) F ea)) : PE X (.UnaryOp .USub a pos) (rd (ctx X ga) F (.neg ea)) :=
  PE.imp (pe_un un_neg ha) fun σ H Q ⟨ρ, M, Z, Q', r, e, h, c⟩ => ⟨ρ, M, Z, _, r, e, h, fun v x H1 M1 Z1 x1 r1 rv ⟨i, h1, q⟩ => by
    subst h1
    obtain rfl := rv.int_inv
    exact ⟨i, rfl, c _ _ _ _ _ x1 r1 (.int _) q⟩⟩
theorem ps_cmp {op : Cp} {a b : Expr} {ea eb : E} {pos : Pos} (hu : X.A.units + 65 < cLine) (ha : PE X a (rd (ctx X ga) F ea)) (hb : PE X b (rd (ctx X ga) F eb)) (hm : behindInMarks (cpOf op) b = false) : PE X (.Compare a [cpOf op] [b] pos) (rd (ctx X ga) F (.cmp op ea eb)) :=
  PE.imp (pe_cmpR (cmp_ok hu op) ha hb hm) fun σ H Q ⟨ρ, M, Z, Q', r, e, h, c⟩ => rd_two r e h c
/-- any expression, as a test, by its value -/
theorem pt_tru {a : Expr} {ea : E} (ha : PE X a (rd (ctx X ga) F ea)) (he : ∀ whole, isTrue a X.env whole = (do let v ← whole; standAt a.pos; holding [v] (truthy v))) : PT X a (rdT (ctx X ga) F ea) :=
  PT.imp (pt_truth ha he) fun σ H Q ⟨ρ, M, Z, Q', r, e, h, c⟩ => ⟨ρ, M, Z, _, r, e, h, fun v x H1 M1 Z1 x1 r1 rv ⟨k, h1, q⟩ => ⟨k, tru_inv r1 rv h1, c k H1 M1 Z1 x1 r1 q⟩⟩
/-- a comparison's value is a truth -/
theorem cmpS_bl {op : Cp} {x y : PV} {M : Sto} {Q : Q1} (h : cmpS op x y M Q) : cmpS op x y M fun v M' => (∃ k, v = .bl k) ∧ Q v M' := by
  have ord : ∀ op, ordS op x y M Q → ordS op x y M fun v M' => (∃ k, v = .bl k) ∧ Q v M' := fun op h => by
    unfold ordS at h ⊢
    split at h
    · exact ⟨⟨_, rfl⟩, h⟩
    · obtain ⟨e, ns, ms, h1, h2, q⟩ := h
      exact ⟨e, ns, ms, h1, h2, ⟨_, rfl⟩, q⟩
    · exact h
  have isx : ∀ neg, isS neg x y M Q → isS neg x y M fun v M' => (∃ k, v = .bl k) ∧ Q v M' := fun neg h => by
    unfold isS at h ⊢
    split at h
    · exact ⟨⟨_, rfl⟩, h⟩
    · exact ⟨⟨_, rfl⟩, h⟩
    · exact h
  have inx : ∀ neg, inS neg x y M Q → inS neg x y M fun v M' => (∃ k, v = .bl k) ∧ Q v M' := fun neg h => by
    obtain ⟨ys, h1, h2, q⟩ := h
    exact ⟨ys, h1, h2, ⟨_, rfl⟩, q⟩
  cases op with
  | eq => exact ⟨h.1, ⟨_, rfl⟩, h.2⟩
  | ne => exact ⟨h.1, ⟨_, rfl⟩, h.2⟩
  | lt => exact ord .lt h
  | le => exact ord .le h
  | gt => exact ord .gt h
  | ge => exact ord .ge h
  | is => exact isx false h
  | isnot => exact isx true h
  | isin => exact inx false h
  | notin => exact inx true h
theorem pt_cmp' {op : Cp} {a b : Expr} {ea eb : E} {pos : Pos} (hu : X.A.units + 65 < cLine) (ha : PE X a (rd (ctx X ga) F ea)) (hb : PE X b (rd (ctx X ga) F eb)) (hm : behindInMarks (cpOf op) b = false) : PT X (.Compare a [cpOf op] [b] pos) (rdT (ctx X ga) F (.cmp op ea eb)) :=
  PT.imp (pt_cmpR (cmp_ok hu op) ha hb hm) fun σ H Q ⟨ρ, M, Z, Q', r, e, h, c⟩ => by
    refine ⟨ρ, M, Z, _, r, e, h, fun v x H1 M1 Z1 x1 r1 rv h1 => ?_⟩
    refine ⟨ρ, M1, Z1, _, r1, e.mono r x1, h1, fun w y H2 M2 Z2 x2 r2 rw h2 => ?_⟩
    refine ⟨v, w, M2, Z2, _, r2, rv.mono r1 x2, rw, cmpS_bl h2, fun z u H3 M3 Z3 x3 r3 rz ⟨⟨k, hk⟩, k2, h3, q⟩ => ?_⟩
    subst hk
    obtain rfl := rz.bl_inv
    have e2 : k = k2 := Option.some.inj h3
    subst e2
    exact ⟨k, rfl, c k H3 M3 Z3 ((x1.trans x2).trans x3) r3 q⟩
theorem rd_chain {op op' : Cp} {a b d : E} {σ : L2.St} {H : Hp} {Q : VK} {ρ : Rho} {M : Sto} {Z : Addr → Prop} {Q' : Q1} (r : SR (ctx X ga) H M Z) (e : EnvR (ctx X ga) H M Z ρ σ)
    (h : wpE F (.chain op op' a b d) ρ M Q') (c : Clo (ctx X ga) H M Z Q' Q) : tChain (r2 (ctx X ga) (cmpS op)) (r2 (ctx X ga) (cmpS op')) (rd (ctx X ga) F a) (rd (ctx X ga) F b) (rd (ctx X ga) F d) σ H Q := by
  refine ⟨ρ, M, Z, _, r, e, h, fun v x H1 M1 Z1 x1 r1 rv h1 => ?_⟩
  refine ⟨ρ, M1, Z1, _, r1, e.mono r x1, h1, fun w y H2 M2 Z2 x2 r2 rw h2 => ?_⟩
  refine ⟨v, w, M2, Z2, _, r2, rv.mono r1 x2, rw, h2, fun z u H3 M3 Z3 x3 r3 rz ⟨k, h3, q⟩ => ?_⟩
  subst h3
  obtain rfl := rz.bl_inv
  refine ⟨k, rfl, ?_⟩
  cases k with
  | false =>
    rw [if_neg Bool.false_ne_true] at q ⊢
    exact c _ _ _ _ _ ((x1.trans x2).trans x3) r3 (.bl _) q
  | true =>
    rw [if_pos rfl] at q ⊢
    refine ⟨ρ, M3, Z3, _, r3, e.mono r ((x1.trans x2).trans x3), q, fun z2 u2 H4 M4 Z4 x4 r4 rz4 h4 => ?_⟩
    exact ⟨w, z2, M4, Z4, Q', r4, rw.mono r2 (x3.trans x4), rz4, h4, fun z5 u5 H5 M5 Z5 x5 r5 rz5 h5 => c _ _ _ _ _ ((((x1.trans x2).trans x3).trans x4).trans x5) r5 rz5 h5⟩
theorem ps_chain {op op' : Cp} {a b d : Expr} {ea eb ed : E} {pos : Pos} (hu : X.A.units + 65 < cLine) (ha : PE X a (rd (ctx X ga) F ea)) (hb : PE X b (rd (ctx X ga) F eb)) (hd : PE X d (rd (ctx X ga) F ed)) (hm : lastMarks [cpOf op, cpOf op'] [b, d] = false) :
    PE X (.Compare a [cpOf op, cpOf op'] [b, d] pos) (rd (ctx X ga) F (.chain op op' ea eb ed)) :=
  PE.imp (pe_chain (cmp_ok hu op) (cmp_ok hu op') ha hb hd hm) fun σ H Q ⟨ρ, M, Z, Q', r, e, h, c⟩ => rd_chain r e h c
theorem rd_mono (F : FS) {op : Cp} {x y : PV} {M : Sto} {Q Q2 : Q1} (h : cmpS op x y M Q) (i : ∀ k M', Q (.bl k) M' → Q2 (.bl k) M') : cmpS op x y M Q2 := by
  have ord : ∀ op, ordS op x y M Q → ordS op x y M Q2 := fun op h => by
    unfold ordS at h ⊢
    split at h
    · exact i _ _ h
    · obtain ⟨e, ns, ms, h1, h2, q⟩ := h
      exact ⟨e, ns, ms, h1, h2, i _ _ q⟩
    · exact h
  have isx : ∀ neg, isS neg x y M Q → isS neg x y M Q2 := fun neg h => by
    unfold isS at h ⊢
    split at h
    · exact i _ _ h
    · exact i _ _ h
    · exact h
  have inx : ∀ neg, inS neg x y M Q → inS neg x y M Q2 := fun neg h => by
    obtain ⟨ys, h1, h2, q⟩ := h
    exact ⟨ys, h1, h2, i _ _ q⟩
  cases op with
  | eq => exact ⟨h.1, i _ _ h.2⟩
  | ne => exact ⟨h.1, i _ _ h.2⟩
  | lt => exact ord .lt h
  | le => exact ord .le h
  | gt => exact ord .gt h
  | ge => exact ord .ge h
  | is => exact isx false h
  | isnot => exact isx true h
  | isin => exact inx false h
  | notin => exact inx true h
theorem pt_chain' {op op' : Cp} {a b d : Expr} {ea eb ed : E} {pos : Pos} (hu : X.A.units + 65 < cLine) (ha : PE X a (rd (ctx X ga) F ea)) (hb : PE X b (rd (ctx X ga) F eb)) (hd : PE X d (rd (ctx X ga) F ed)) (hm : lastMarks [cpOf op, cpOf op'] [b, d] = false) :
    PT X (.Compare a [cpOf op, cpOf op'] [b, d] pos) (rdT (ctx X ga) F (.chain op op' ea eb ed)) :=
  PT.imp (pt_chain (cmp_ok hu op) (cmp_ok hu op') ha hb hd hm) fun σ H Q ⟨ρ, M, Z, Q', r, e, h, c⟩ => by
    refine ⟨ρ, M, Z, _, r, e, h, fun v x H1 M1 Z1 x1 r1 rv h1 => ?_⟩
    refine ⟨ρ, M1, Z1, _, r1, e.mono r x1, h1, fun w y H2 M2 Z2 x2 r2 rw h2 => ?_⟩
    refine ⟨v, w, M2, Z2, _, r2, rv.mono r1 x2, rw, h2, fun z u H3 M3 Z3 x3 r3 rz ⟨k, h3, q⟩ => ?_⟩
    subst h3
    obtain rfl := rz.bl_inv
    refine ⟨k, rfl, ?_⟩
    cases k with
    | false =>
      rw [if_neg Bool.false_ne_true] at q ⊢
      obtain ⟨k2, e2, q⟩ := q
      cases e2
      exact ⟨false, rfl, c _ _ _ _ ((x1.trans x2).trans x3) r3 q⟩
    | true =>
      rw [if_pos rfl] at q ⊢
      refine ⟨ρ, M3, Z3, _, r3, e.mono r ((x1.trans x2).trans x3), q, fun z2 u2 H4 M4 Z4 x4 r4 rz4 h4 => ?_⟩
      refine ⟨w, z2, M4, Z4, _, r4, rw.mono r2 (x3.trans x4), rz4, cmpS_bl h4, fun z5 u5 H5 M5 Z5 x5 r5 rz5 ⟨⟨k5, hk⟩, k6, h5, q5⟩ => ?_⟩
      subst hk
      obtain rfl := rz5.bl_inv
      have e2 : k5 = k6 := Option.some.inj h5
      subst e2
      exact ⟨k5, rfl, c k5 _ _ _ ((((x1.trans x2).trans x3).trans x4).trans x5) r5 q5⟩

/-! ### and, or, not, if -/
theorem ps_and {a b : Expr} {rest : List Expr} {ea eb : E} {pos : Pos} (ha : PE X a (rd (ctx X ga) F ea)) (hb : PE X (.BoolOp .And (b :: rest) pos) (rd (ctx X ga) F eb)) : PE X (.BoolOp .And (a :: b :: rest) pos) (rd (ctx X ga) F (.and ea eb)) :=
  PE.imp (pe_andT ha hb) fun σ H Q ⟨ρ, M, Z, Q', r, e, h, c⟩ => by
    refine ⟨ρ, M, Z, _, r, e, h, fun v x H1 M1 Z1 x1 r1 rv ⟨k, h1, q⟩ => ⟨k, tru_inv r1 rv h1, ?_⟩⟩
    cases k with
    | true =>
      rw [if_pos rfl] at q ⊢
      exact ⟨ρ, M1, Z1, Q', r1, e.mono r x1, q, fun w y H2 M2 Z2 x2 r2 rw h2 => c _ _ _ _ _ (x1.trans x2) r2 rw h2⟩
    | false =>
      rw [if_neg Bool.false_ne_true] at q ⊢
      exact c _ _ _ _ _ x1 r1 rv q
theorem ps_or {a b : Expr} {rest : List Expr} {ea eb : E} {pos : Pos} (ha : PE X a (rd (ctx X ga) F ea)) (hb : PE X (.BoolOp .Or (b :: rest) pos) (rd (ctx X ga) F eb)) : PE X (.BoolOp .Or (a :: b :: rest) pos) (rd (ctx X ga) F (.or ea eb)) :=
  PE.imp (pe_orT ha hb) fun σ H Q ⟨ρ, M, Z, Q', r, e, h, c⟩ => by
    refine ⟨ρ, M, Z, _, r, e, h, fun v x H1 M1 Z1 x1 r1 rv ⟨k, h1, q⟩ => ⟨k, tru_inv r1 rv h1, ?_⟩⟩
    cases k with
    | true =>
      rw [if_pos rfl] at q ⊢
      exact c _ _ _ _ _ x1 r1 rv q
    | false =>
      rw [if_neg Bool.false_ne_true] at q ⊢
      exact ⟨ρ, M1, Z1, Q', r1, e.mono r x1, q, fun w y H2 M2 Z2 x2 r2 rw h2 => c _ _ _ _ _ (x1.trans x2) r2 rw h2⟩
theorem pt_and' {a b : Expr} {rest : List Expr} {ea eb : E} {pos : Pos} (ha : PT X a (rdT (ctx X ga) F ea)) (hb : PW X (.BoolOp .And (b :: rest) pos) (rdT (ctx X ga) F eb)) : PW X (.BoolOp .And (a :: b :: rest) pos) (rdT (ctx X ga) F (.and ea eb)) :=
  PW.imp (pw_and ha hb) fun σ H Q ⟨ρ, M, Z, Q', r, e, h, c⟩ => by
    refine ⟨ρ, M, Z, fun k M1 => if k = true then wpE F eb ρ M1 (fun v M' => ∃ k, truS M' v = some k ∧ Q' k M') else Q' false M1, r, e, ?_, fun k H1 M1 Z1 x1 r1 q => ?_⟩
    · have h : wpE F ea ρ M fun x M1 => ∃ k, truS M1 x = some k ∧ if k = true then wpE F eb ρ M1 (fun v M' => ∃ k, truS M' v = some k ∧ Q' k M') else ∃ k, truS M1 x = some k ∧ Q' k M1 := h
      have e2 : (fun (x : PV) (M1 : Sto) => ∃ k, truS M1 x = some k ∧ if k = true then wpE F eb ρ M1 (fun v M' => ∃ k, truS M' v = some k ∧ Q' k M') else ∃ k, truS M1 x = some k ∧ Q' k M1) =
          fun v M' => ∃ k, truS M' v = some k ∧ if k = true then wpE F eb ρ M' (fun v M' => ∃ k, truS M' v = some k ∧ Q' k M') else Q' false M' := by
        funext x M1
        apply propext
        constructor
        · rintro ⟨k, h1, h2⟩
          refine ⟨k, h1, ?_⟩
          cases k with
          | true => exact h2
          | false =>
            rw [if_neg Bool.false_ne_true] at h2 ⊢
            obtain ⟨k2, h3, h4⟩ := h2
            rw [h1] at h3; cases h3
            exact h4
        · rintro ⟨k, h1, h2⟩
          refine ⟨k, h1, ?_⟩
          cases k with
          | true => exact h2
          | false =>
            rw [if_neg Bool.false_ne_true] at h2 ⊢
            exact ⟨false, h1, h2⟩
      rw [e2] at h
      exact h
    · cases k with
      | true =>
        rw [if_pos rfl] at q ⊢
        exact ⟨ρ, M1, Z1, Q', r1, e.mono r x1, q, fun k H2 M2 Z2 x2 r2 h2 => c k _ _ _ (x1.trans x2) r2 h2⟩
      | false =>
        rw [if_neg Bool.false_ne_true] at q ⊢
        exact c _ _ _ _ x1 r1 q
theorem pt_or' {a b : Expr} {rest : List Expr} {ea eb : E} {pos : Pos} (ha : PT X a (rdT (ctx X ga) F ea)) (hb : PW X (.BoolOp .Or (b :: rest) pos) (rdT (ctx X ga) F eb)) : PW X (.BoolOp .Or (a :: b :: rest) pos) (rdT (ctx X ga) F (.or ea eb)) :=
  PW.imp (pw_or ha hb) fun σ H Q ⟨ρ, M, Z, Q', r, e, h, c⟩ => by
    refine ⟨ρ, M, Z, fun k M1 => if k = true then Q' true M1 else wpE F eb ρ M1 (fun v M' => ∃ k, truS M' v = some k ∧ Q' k M'), r, e, ?_, fun k H1 M1 Z1 x1 r1 q => ?_⟩
    · have h : wpE F ea ρ M fun x M1 => ∃ k, truS M1 x = some k ∧ if k = true then ∃ k, truS M1 x = some k ∧ Q' k M1 else wpE F eb ρ M1 (fun v M' => ∃ k, truS M' v = some k ∧ Q' k M') := h
      have e2 : (fun (x : PV) (M1 : Sto) => ∃ k, truS M1 x = some k ∧ if k = true then ∃ k, truS M1 x = some k ∧ Q' k M1 else wpE F eb ρ M1 (fun v M' => ∃ k, truS M' v = some k ∧ Q' k M')) =
          fun v M' => ∃ k, truS M' v = some k ∧ if k = true then Q' true M' else wpE F eb ρ M' (fun v M' => ∃ k, truS M' v = some k ∧ Q' k M') := by
        funext x M1
        apply propext
        constructor
        · rintro ⟨k, h1, h2⟩
          refine ⟨k, h1, ?_⟩
          cases k with
          | false => exact h2
          | true =>
            rw [if_pos rfl] at h2 ⊢
            obtain ⟨k2, h3, h4⟩ := h2
            rw [h1] at h3; cases h3
            exact h4
        · rintro ⟨k, h1, h2⟩
          refine ⟨k, h1, ?_⟩
          cases k with
          | false => exact h2
          | true =>
            rw [if_pos rfl] at h2 ⊢
            exact ⟨true, h1, h2⟩
      rw [e2] at h
      exact h
    · cases k with
      | false =>
        rw [if_neg Bool.false_ne_true] at q ⊢
        exact ⟨ρ, M1, Z1, Q', r1, e.mono r x1, q, fun k H2 M2 Z2 x2 r2 h2 => c k _ _ _ (x1.trans x2) r2 h2⟩
      | true =>
        rw [if_pos rfl] at q ⊢
        exact c _ _ _ _ x1 r1 q
theorem ps_not {a : Expr} {ea : E} {pos : Pos} (ha : PE X a (rd (ctx X ga) F ea)) : PE X (.UnaryOp .Not a pos) (rd (ctx X ga) F (.not ea)) :=
  PE.imp (pe_notT ha) fun σ H Q ⟨ρ, M, Z, Q', r, e, h, c⟩ => ⟨ρ, M, Z, _, r, e, h, fun v x H1 M1 Z1 x1 r1 rv ⟨k, h1, q⟩ => ⟨k, tru_inv r1 rv h1, c _ _ _ _ _ x1 r1 (.bl _) q⟩⟩
theorem pt_not' {a : Expr} {ea : E} {pos : Pos} (ha : PT X a (rdT (ctx X ga) F ea)) : PT X (.UnaryOp .Not a pos) (rdT (ctx X ga) F (.not ea)) :=
  PT.imp (pt_not ha) fun σ H Q ⟨ρ, M, Z, Q', r, e, h, c⟩ => by
    refine ⟨ρ, M, Z, fun k M1 => Q' (!k) M1, r, e, ?_, fun k H1 M1 Z1 x1 r1 q => c _ _ _ _ x1 r1 q⟩
    have h : wpE F ea ρ M fun x M1 => ∃ k, truS M1 x = some k ∧ ∃ k2, truS M1 (.bl (!k)) = some k2 ∧ Q' k2 M1 := h
    have e2 : (fun (x : PV) (M1 : Sto) => ∃ k, truS M1 x = some k ∧ ∃ k2, truS M1 (.bl (!k)) = some k2 ∧ Q' k2 M1) = fun v M' => ∃ k, truS M' v = some k ∧ Q' (!k) M' := by
      funext x M1
      apply propext
      constructor
      · rintro ⟨k, h1, k2, h2, h3⟩
        cases h2
        exact ⟨k, h1, h3⟩
      · rintro ⟨k, h1, h2⟩
        exact ⟨k, h1, _, rfl, h2⟩
    rw [e2] at h
    exact h
theorem ps_ite {t a b : Expr} {et ea eb : E} {pos : Pos} (ht : PT X t (rdT (ctx X ga) F et)) (ha : PE X a (rd (ctx X ga) F ea)) (hb : PE X b (rd (ctx X ga) F eb)) : PE X (.IfExp t a b pos) (rd (ctx X ga) F (.ite et ea eb)) :=
  PE.imp (pe_ifExp ht ha hb) fun σ H Q ⟨ρ, M, Z, Q', r, e, h, c⟩ => by
    refine ⟨ρ, M, Z, _, r, e, h, fun k H1 M1 Z1 x1 r1 q => ?_⟩
    cases k with
    | true =>
      rw [if_pos rfl] at q ⊢
      exact ⟨ρ, M1, Z1, Q', r1, e.mono r x1, q, fun w y H2 M2 Z2 x2 r2 rw h2 => c _ _ _ _ _ (x1.trans x2) r2 rw h2⟩
    | false =>
      rw [if_neg Bool.false_ne_true] at q ⊢
      exact ⟨ρ, M1, Z1, Q', r1, e.mono r x1, q, fun w y H2 M2 Z2 x2 r2 rw h2 => c _ _ _ _ _ (x1.trans x2) r2 rw h2⟩
theorem pt_ite' {t a b : Expr} {et ea eb : E} {pos : Pos} (ht : PT X t (rdT (ctx X ga) F et)) (ha : PT X a (rdT (ctx X ga) F ea)) (hb : PT X b (rdT (ctx X ga) F eb)) : PT X (.IfExp t a b pos) (rdT (ctx X ga) F (.ite et ea eb)) := by
  refine ⟨fun pins s σ H Q I hq => ?_⟩
  obtain ⟨ρ, M, Z, Q', r, e, h, c⟩ := hq
  rw [arm_isTrue_IfExp]
  refine wpAny_bind (thn (ht.run pins s σ H (fun k H1 => if k = true then rdT (ctx X ga) F ea σ H1 Q else rdT (ctx X ga) F eb σ H1 Q) I ?_) fun k s1 ⟨H1, I1, q1⟩ => ?_)
  · refine ⟨ρ, M, Z, _, r, e, h, fun k H1 M1 Z1 x1 r1 q => ?_⟩
    cases k with
    | true =>
      rw [if_pos rfl] at q ⊢
      exact ⟨ρ, M1, Z1, Q', r1, e.mono r x1, q, fun k H2 M2 Z2 x2 r2 h2 => c k _ _ _ (x1.trans x2) r2 h2⟩
    | false =>
      rw [if_neg Bool.false_ne_true] at q ⊢
      exact ⟨ρ, M1, Z1, Q', r1, e.mono r x1, q, fun k H2 M2 Z2 x2 r2 h2 => c k _ _ _ (x1.trans x2) r2 h2⟩
  · cases k with
    | true => exact ha.run pins s1 σ H1 Q I1 q1
    | false => exact hb.run pins s1 σ H1 Q I1 q1

/-! ### argument lists, displays, subscripts -/
theorem ps_nil : PA X [] (rdL (ctx X ga) F []) := PA.imp pa_nil fun σ H Q ⟨ρ, M, Z, Q', r, e, h, c⟩ => c [] [] H M Z Ext.refl r .nil h
theorem ps_cons {a : Expr} {es : List Expr} {ea : E} {ees : List E} (ha : PE X a (rd (ctx X ga) F ea)) (hr : PA X es (rdL (ctx X ga) F ees)) (hs : starEach (a :: es) X.env = (false, eval a X.env) :: starEach es X.env) : PA X (a :: es) (rdL (ctx X ga) F (ea :: ees)) :=
  PA.imp (pa_cons ha hr hs) fun σ H Q ⟨ρ, M, Z, Q', r, e, h, c⟩ => by
    refine ⟨ρ, M, Z, _, r, e, h, fun v x H1 M1 Z1 x1 r1 rv h1 => ?_⟩
    exact ⟨ρ, M1, Z1, _, r1, e.mono r x1, h1, fun vs xs H2 M2 Z2 x2 r2 rvs h2 => c _ _ _ _ _ (x1.trans x2) r2 (.cons (rv.mono r1 x2) rvs) h2⟩
theorem ps_tup {es : List Expr} {ees : List E} {k : Nat} {pos : Pos} (h : PA X es (rdL (ctx X ga) F ees)) (hz : ees.length ≤ 1000) (hl : ∀ (ρ : Rho) (M : Sto) (Q : List PV → Sto → Prop), wpL F ees ρ M Q → wpL F ees ρ M fun vs M' => vs.length = ees.length ∧ Q vs M') : PE X (.Tuple es k pos) (rd (ctx X ga) F (.tup ees)) :=
  PE.imp (pe_tup h) fun σ H Q ⟨ρ, M, Z, Q', r, e, h, c⟩ => by
    refine ⟨ρ, M, Z, _, r, e, hl ρ M _ h, fun vs xs H1 M1 Z1 x1 r1 rvs ⟨hn, h1⟩ => ⟨?_, fun p hp => ?_⟩⟩
    · rw [← rvs.length, hn]; exact Nat.le_trans hz (by decide)
    · have c1 : Clo (ctx X ga) H1 M1 Z1 Q' Q := fun v x H2 M2 Z2 x2 r2 rv h2 => c _ _ _ _ _ (x1.trans x2) r2 rv h2
      exact c1.newT r1 rvs h1 hp
theorem ps_lst {es : List Expr} {ees : List E} {mt : Bool} {pos : Pos} (h : PA X es (rdL (ctx X ga) F ees)) (hz : ees.length ≤ 1000) (hl : ∀ (ρ : Rho) (M : Sto) (Q : List PV → Sto → Prop), wpL F ees ρ M Q → wpL F ees ρ M fun vs M' => vs.length = ees.length ∧ Q vs M') : PE X (.List es pos) (rd (ctx X ga) F (.lst mt ees)) :=
  PE.imp (pe_lst h) fun σ H Q ⟨ρ, M, Z, Q', r, e, h, c⟩ => by
    refine ⟨ρ, M, Z, _, r, e, hl ρ M _ h, fun vs xs H1 M1 Z1 x1 r1 rvs ⟨hn, h1⟩ => ⟨?_, fun p hp => ?_⟩⟩
    · rw [← rvs.length, hn]; exact Nat.le_trans hz (by decide)
    · have c1 : Clo (ctx X ga) H1 M1 Z1 Q' Q := fun v x H2 M2 Z2 x2 r2 rv h2 => c _ _ _ _ _ (x1.trans x2) r2 rv h2
      exact c1.newL r1 rvs h1 hp
theorem ps_ix {a b : Expr} {ea eb : E} {pos : Pos} (ha : PE X a (rd (ctx X ga) F ea)) (hb : PE X b (rd (ctx X ga) F eb)) (hs : PlainIx b) : PE X (.Subscript a b pos) (rd (ctx X ga) F (.ix ea eb)) :=
  PE.imp (pe_ix ix_ok ha hb hs) fun σ H Q ⟨ρ, M, Z, Q', r, e, h, c⟩ => rd_two r e h c
theorem ps_ono : PO X none (rdO (ctx X ga) F none) := PO.imp po_none fun σ H Q ⟨ρ, M, Z, Q', r, e, h, c⟩ => c none H M Z Ext.refl r h
theorem ps_oso {a : Expr} {ea : E} (ha : PE X a (rd (ctx X ga) F ea)) : PO X (some a) (rdO (ctx X ga) F (some ea)) :=
  PO.imp (po_some ha) fun σ H Q ⟨ρ, M, Z, Q', r, e, h, c⟩ => ⟨ρ, M, Z, _, r, e, h, fun v x H1 M1 Z1 x1 r1 rv ⟨i, h1, q⟩ => by
    subst h1
    obtain rfl := rv.int_inv
    exact ⟨i, rfl, c _ _ _ _ x1 r1 q⟩⟩
theorem ps_sl {a : Expr} {lo hi : Option Expr} {ea : E} {el eh : Option E} {p2 pos : Pos} (ha : PE X a (rd (ctx X ga) F ea)) (hl : PO X lo (rdO (ctx X ga) F el)) (hh : PO X hi (rdO (ctx X ga) F eh)) : PE X (.Subscript a (.Slice lo hi none p2) pos) (rd (ctx X ga) F (.sl ea el eh)) :=
  PE.imp (pe_slice sl_ok ha hl hh) fun σ H Q ⟨ρ, M, Z, Q', r, e, h, c⟩ => by
    refine ⟨ρ, M, Z, _, r, e, h, fun v x H1 M1 Z1 x1 r1 rv h1 => ?_⟩
    refine ⟨ρ, M1, Z1, _, r1, e.mono r x1, h1, fun i H2 M2 Z2 x2 r2 h2 => ?_⟩
    refine ⟨ρ, M2, Z2, _, r2, e.mono r (x1.trans x2), h2, fun j H3 M3 Z3 x3 r3 h3 => ?_⟩
    exact ⟨v, M3, Z3, Q', r3, rv.mono r1 (x2.trans x3), h3, fun z u H4 M4 Z4 x4 r4 rz h4 => c _ _ _ _ _ (((x1.trans x2).trans x3).trans x4) r4 rz h4⟩
/-! ### calls -/
theorem rd_call {es : List E} {g : List PV → Sto → Q1 → Prop} {σ : L2.St} {H : Hp} {Q : VK} {ρ : Rho} {M : Sto} {Z : Addr → Prop} {Q' : Q1} (r : SR (ctx X ga) H M Z) (e : EnvR (ctx X ga) H M Z ρ σ)
    (h : wpL F es ρ M fun vs M1 => g vs M1 Q') (c : Clo (ctx X ga) H M Z Q' Q) : tCB (rc (ctx X ga) g) (rdL (ctx X ga) F es) σ H Q :=
  ⟨ρ, M, Z, _, r, e, h, fun vs xs H1 M1 Z1 x1 r1 rvs h1 => ⟨vs, M1, Z1, Q', r1, rvs, h1, fun z u H2 M2 Z2 x2 r2 rz h2 => c _ _ _ _ _ (x1.trans x2) r2 rz h2⟩⟩
/-- f(e, ..), f a def of the text that stands in a global name -/
theorem pe_glob_call {r : List V → Hp → VK → Prop} {f : Addr} {x : Str} {p pos : Pos} {e : Expr} {es : List Expr} {t : TA} (hc : CallR X (.ref f) r) (hg : Gl X x) (hm : X.mg x = some (.ref f)) (hk : PySem.W.keepIn X.K (.ref f) = true) (ha : PA X (e :: es) t)
    (hdb : (x == ("__debug__" : Str)) = false) (he : starEach (e :: es) X.env = (false, eval e X.env) :: starEach es X.env) (hpl : (backTo pos (starEach es X.env)).any (·.1) = false) : PE X (.Call (.Name x p) (e :: es) [] pos) (tCB r t) := by
  refine ⟨fun pins s σ H Q I h => ?_⟩
  refine wpAny_Call_Name_kw (ld_glob I hg hm ?_ hdb)
  refine PySem.W.callWith_K (h₀ := X.base) I.ok.mod.kin hk (thn (ha.run pos pins s σ H _ I h) fun us s1 ⟨vs, H1, I1, rv, q⟩ => ⟨I1.kIn, ?_⟩) he hpl
  exact hc pins s1 σ H1 vs us Q I1 rv q
theorem ps_call {f : Str} {a : Addr} {p pos : Pos} {e : Expr} {es : List Expr} {ees : List E} (hc : CallR X (.ref a) (rc (ctx X ga) (F f))) (hg : Gl X f) (hm : X.mg f = some (.ref a)) (hk : PySem.W.keepIn X.K (.ref a) = true) (ha : PA X (e :: es) (rdL (ctx X ga) F ees))
    (hdb : (f == ("__debug__" : Str)) = false) (he : starEach (e :: es) X.env = (false, eval e X.env) :: starEach es X.env) (hpl : (backTo pos (starEach es X.env)).any (·.1) = false) : PE X (.Call (.Name f p) (e :: es) [] pos) (rd (ctx X ga) F (.call f ees)) :=
  PE.imp (pe_glob_call hc hg hm hk ha hdb he hpl) fun σ H Q ⟨ρ, M, Z, Q', r, e, h, c⟩ => rd_call r e h c
/-- f(e, ..), f a def that stands in a local name -/
theorem pe_loc_call {r : Addr → List V → Hp → VK → Prop} {x : Str} {i : Nat} {p pos : Pos} {e : Expr} {es : List Expr} {t : TA} (hN : X.N[i]? = some x) (hv : Vis X.env.scope x) (ha : PA X (e :: es) t)
    (hdb : (x == ("__debug__" : Str)) = false) (hcd : (x == ("__classdict__" : Str)) = false) (he : starEach (e :: es) X.env = (false, eval e X.env) :: starEach es X.env) (hpl : (backTo pos (starEach es X.env)).any (·.1) = false) :
    PE X (.Call (.Name x p) (e :: es) [] pos) (fun σ H Q => ∃ f, σ[i]? = some (some (.ref f)) ∧ PySem.W.keepIn X.K (.ref f) = true ∧ CallR X (.ref f) (r f) ∧ t σ H fun vs H1 => r f vs H1 Q) := by
  refine ⟨fun pins s σ H Q I ⟨f, hs, hk, hc, h⟩ => ?_⟩
  refine wpAny_Call_Name_kw (thn ((pe_var (pos := p) hN hv hdb hcd).run pins s σ H (fun v H1 => v = .ref f ∧ H1 = H) I ⟨.ref f, hs, rfl, rfl⟩) fun u s0 ⟨v, H0, I0, r0, e1, e2⟩ => ?_)
  subst e1 e2
  cases r0
  refine PySem.W.callWith_K (h₀ := X.base) I0.ok.mod.kin hk (thn (ha.run pos pins s0 σ H0 _ I0 h) fun us s1 ⟨vs, H1, I1, rv, q⟩ => ⟨I1.kIn, ?_⟩) he hpl
  exact hc pins s1 σ H1 vs us Q I1 rv q
abbrev blNm : Bl → Str
  | .len => "len"
  | .abs => "abs"
  | .max => "max"
  | .min => "min"
  | .sum => "sum"
  | .all => "all"
  | .any => "any"
  | .int => "int"
  | .str => "str"
  | .repr => "repr"
  | .tuple => "tuple"
  | .list => "list"
  | .listM => "list"
  | .sorted => "sorted"
  | .sortedM => "sorted"
theorem boot_bl (b : Bl) : bootBuiltins (blNm b) = some (blOf b) := by cases b <;> decide +kernel
theorem pe_blt {b : Bl} {r : List V → Hp → VK → Prop} {p pos : Pos} {e : Expr} {es : List Expr} {t : TA} (hc : CallR X (blOf b) r) (hg : Gl X (blNm b)) (hm : X.mg (blNm b) = none) (ha : PA X (e :: es) t)
    (he : starEach (e :: es) X.env = (false, eval e X.env) :: starEach es X.env) (hpl : (backTo pos (starEach es X.env)).any (·.1) = false) : PE X (.Call (.Name (blNm b) p) (e :: es) [] pos) (tCB r t) := by
  have hv := boot_bl b
  cases b with
  | int => exact pe_callTy hc hg hm hv ha (by decide) (by decide) he hpl
  | str => exact pe_callTy hc hg hm hv ha (by decide) (by decide) he hpl
  | tuple => exact pe_callTy hc hg hm hv ha (by decide) (by decide) he hpl
  | list => exact pe_callTy hc hg hm hv ha (by decide) (by decide) he hpl
  | listM => exact pe_callTy hc hg hm hv ha (by decide) (by decide) he hpl
  | _ => exact pe_callB hc hg hm hv ha (by decide) (by decide) he hpl
theorem ps_blt {b : Bl} {p pos : Pos} {e : Expr} {es : List Expr} {ees : List E} (hsy : ∃ o, X.K.lookup sysModules = some o ∧ o.cls = .type "dict") (hc : X.calm = true) (hu : X.A.units + 65 < cLine) (hgd : X.A.guards = some []) (hg : Gl X (blNm b)) (hm : X.mg (blNm b) = none) (ha : PA X (e :: es) (rdL (ctx X ga) F ees))
    (he : starEach (e :: es) X.env = (false, eval e X.env) :: starEach es X.env) (hpl : (backTo pos (starEach es X.env)).any (·.1) = false) : PE X (.Call (.Name (blNm b) p) (e :: es) [] pos) (rd (ctx X ga) F (.blt b ees)) :=
  PE.imp (pe_blt (blt_ok hsy hc hu hgd b) hg hm ha he hpl) fun σ H Q ⟨ρ, M, Z, Q', r, e, h, c⟩ => rd_call r e h c
/-- isinstance(x, T) -/
theorem boot_ty (t : Ty) : bootBuiltins (Str.ofString (tyOf t)) = some (.type (tyOf t)) := by cases t <;> decide +kernel
theorem ps_isi {t : Ty} {p p2 pos : Pos} {e : Expr} {ee : E} (hg : Gl X "isinstance") (hm : X.mg "isinstance" = none) (hg2 : Gl X (Str.ofString (tyOf t))) (hm2 : X.mg (Str.ofString (tyOf t)) = none) (ha : PE X e (rd (ctx X ga) F ee))
    (he : starEach (e :: [.Name (Str.ofString (tyOf t)) p2]) X.env = (false, eval e X.env) :: starEach [.Name (Str.ofString (tyOf t)) p2] X.env) : PE X (.Call (.Name "isinstance" p) [e, .Name (Str.ofString (tyOf t)) p2] [] pos) (rd (ctx X ga) F (.isi ee t)) := by
  have ht : PE X (.Name (Str.ofString (tyOf t)) p2) (tC (.ty (tyOf t))) := by
    have hv := boot_ty t
    cases t <;> exact pe_bltn hg2 hm2 hv rfl (by decide) (by decide)
  refine PE.imp (pe_callB call_isi hg hm boot_isinstance (pa_cons ha (pa_cons ht pa_nil rfl) he) (by decide) (by decide) he rfl) fun σ H Q ⟨ρ, M, Z, Q', r, e, h, c⟩ => ?_
  refine ⟨ρ, M, Z, _, r, e, h, fun v x H1 M1 Z1 x1 r1 rv ⟨k, h1, q⟩ => ?_⟩
  obtain ⟨h2, h3⟩ := isi_inv r1 rv h1
  exact ⟨x, .ty (tyOf t), .type (tyx v), .type (tyOf t), k, rfl, .ty _, h2, kit_ty h3, c _ _ _ _ _ x1 r1 (.bl _) q⟩
/-- methods of lists -/
abbrev mtNm : Mt → Str
  | .append => "append"
  | .extend => "extend"
  | .insert => "insert"
  | .index => "index"
  | .count => "count"
  | .pop => "pop"
theorem slot_mt (m : Mt) : Slot "list" (mtNm m) (mtOf m) := by
  cases m with
  | append => exact PySem.F.slot_list_append
  | extend => exact PySem.F.slot_list_extend
  | insert => exact PySem.F.slot_list_insert
  | index => exact PySem.F.slot_list_index
  | count => exact PySem.F.slot_list_count
  | pop => exact PySem.F.slot_list_pop
theorem type_mt (m : Mt) : typeOf (.builtin (mtOf m)) = pure (.type "method_descriptor") := by
  cases m with
  | append => exact PySem.F.type_list_append
  | extend => exact PySem.F.type_list_extend
  | insert => exact PySem.F.type_list_insert
  | index => exact PySem.F.type_list_index
  | count => exact PySem.F.type_list_count
  | pop => exact PySem.F.type_list_pop
theorem ps_mth (hu : X.A.units + 65 < cLine) {m : Mt} {o e : Expr} {es : List Expr} {apos cpos : Pos} {eo : E} {ees : List E} (slot : Slot "list" (mtNm m) (mtOf m)) (hty : typeOf (.builtin (mtOf m)) = pure (.type "method_descriptor")) (ho : PE X o (rd (ctx X ga) F eo)) (ha : PA X (e :: es) (rdL (ctx X ga) F ees))
    (hbase : attributeBase o (mtNm m) X.env (eval o X.env) = eval o X.env)
    (hfew : ((backTo cpos (starEach (e :: es) X.env)).all (fun x => !x.1) && (backToKw cpos (keywordEach [] X.env)).all (fun x => x.1.isSome)
      && decide ((e :: es).length + ([] : List Keyword).length + (if ([] : List Keyword).isEmpty then 0 else 1) < 30)) = true)
    (hline : (apos.endLine == cpos.line) = true) (hs : starEach (e :: es) X.env = (false, eval e X.env) :: starEach es X.env) (hpl : (backTo cpos (starEach es X.env)).any (·.1) = false) :
    PE X (.Call (.Attribute o (mtNm m) apos) (e :: es) [] cpos) (rd (ctx X ga) F (.mth m eo ees)) :=
  PE.imp (pe_bm PySem.F.plainAttrs_list slot hty (mth_ok hu m) ho ha hbase hfew hline hs hpl) fun σ H Q ⟨ρ, M, Z, Q', r, e, h, c⟩ => by
    refine ⟨ρ, M, Z, _, r, e, h, fun v x H1 M1 Z1 x1 r1 rv ⟨⟨ys, hy⟩, h1⟩ => ?_⟩
    obtain ⟨p, ws, rfl, hq, _⟩ := rv.lo_inv r1 hy
    refine ⟨.inl ⟨rfl, ws, hq.sq⟩, ρ, M1, Z1, _, r1, e.mono r x1, h1, fun vs xs H2 M2 Z2 x2 r2 rvs h2 => ?_⟩
    exact ⟨v, vs, M2, Z2, Q', r2, rv.mono r1 x2, rvs, h2, fun z u H3 M3 Z3 x3 r3 rz h3 => c _ _ _ _ _ ((x1.trans x2).trans x3) r3 rz h3⟩

/-! ### what is walked -/
/-- the iterator J yields the items, as long as keep holds -/
def ItOk (C : Ctx) (J : L2.It) (items : List PV) (keep : Sto → Prop) (H1 : Hp) (M1 : Sto) (Z1 : Addr → Prop) : Prop :=
  ∀ i H M Z, Ext H1 M1 Z1 H M Z → SR C H M Z → keep M →
    (∀ v, items[i]? = some v → J.go i H ∧ ∀ x H', J.yld i H x H' → Ext H M Z H' M Z ∧ SR C H' M Z ∧ Rep C H' M Z v x) ∧ (items.length = i → J.stop i H)
def rdI (C : Ctx) (F : FS) (it : It) : TI := fun σ H R => ∃ ρ M Z Q', SR C H M Z ∧ EnvR C H M Z ρ σ ∧ wpI F it ρ M Q' ∧
  ∀ J H1 M1 Z1 items keep, Ext H M Z H1 M1 Z1 → SR C H1 M1 Z1 → ItOk C J items keep H1 M1 Z1 → keep M1 → Q' items keep M1 → R J H1
theorem PI.imp {tg iter : Expr} {t t' : TI} (h : PI X tg iter t) (i : ∀ σ H R, t' σ H R → t σ H R) : PI X tg iter t' := ⟨fun pins s σ H Q I q => h.run pins s σ H Q I (i σ H Q q)⟩
theorem itok_tup {C : Ctx} {a : Addr} {xs : List PV} {vs : List V} {keep : Sto → Prop} {H1 : Hp} {M1 : Sto} {Z1 : Addr → Prop} (r1 : SR C H1 M1 Z1) (h : SqT C.K H1 a vs) (l : RepL C H1 M1 Z1 xs vs) (inj : ∀ H us, SqT C.K H a vs → SqT C.K H a us → us.length = vs.length → True) :
    ItOk C (Itt C.K a) xs keep H1 M1 Z1 := by
  intro i H M Z x r _
  have h' := sqT_mono r1 x h
  have l' := RepL.mono r1 x l
  refine ⟨fun v hv => ?_, fun hi => ⟨vs, h', by rw [← l.length]; exact Nat.le_of_eq hi⟩⟩
  obtain ⟨u, hu, ru⟩ := l'.get hv
  refine ⟨⟨vs, u, h', hu⟩, fun y H' ⟨e1, e2⟩ => ?_⟩
  subst e1
  have e3 := e2 vs h'
  rw [hu] at e3
  cases e3
  exact ⟨Ext.refl, r, ru⟩
theorem LQ.mono {C : Ctx} {H H1 : Hp} {M M1 : Sto} {Z Z1 : Addr → Prop} {a : Addr} {vs : List V} {xs : List PV} (r : SR C H M Z) (x : Ext H M Z H1 M1 Z1) (h : Rep C H M Z (.lst xs) (.ref a)) (q : LQ C.K H a vs) (n : ∀ ws, LQ C.K H a ws → ws = vs) : LQ C.K H1 a vs := by
  cases h with
  | lz z h l => rw [← n _ (.inl h)]; exact .inl (x.unm _ _ h (r.frz _ z).1).1
  | lr h l =>
    rw [← n _ (.inr h)]
    rcases h with ⟨o, h⟩ | h
    · exact .inr (.inl ⟨o, (x.unm _ _ h (r.nofrz h)).1⟩)
    · exact .inr (.inr h)
/-- a told list keeps its items -/
theorem lst_keeps {C : Ctx} {H : Hp} {M : Sto} {Z : Addr → Prop} {x : V} {xs : List PV} (r : SR C H M Z) (h : Rep C H M Z (.lst xs) x) : ∃ a vs, x = .ref a ∧ RepL C H M Z xs vs ∧ ∀ H1 M1 Z1, Ext H M Z H1 M1 Z1 → LQ C.K H1 a vs := by
  cases h with
  | lz z h l => exact ⟨_, _, rfl, l, fun H1 M1 Z1 x => .inl (x.unm _ _ h (r.frz _ z).1).1⟩
  | lr h l =>
    refine ⟨_, _, rfl, l, fun H1 M1 Z1 x => ?_⟩
    rcases h with ⟨o, h⟩ | h
    · exact .inr (.inl ⟨o, (x.unm _ _ h (r.nofrz h)).1⟩)
    · exact .inr (.inr h)
theorem itok_lst {C : Ctx} {a : Addr} {xs : List PV} {vs : List V} {H1 : Hp} {M1 : Sto} {Z1 : Addr → Prop} (r1 : SR C H1 M1 Z1) (l : RepL C H1 M1 Z1 xs vs) (k : ∀ H M Z, Ext H1 M1 Z1 H M Z → LQ C.K H a vs) {keep : Sto → Prop} : ItOk C (Itl C.K a) xs keep H1 M1 Z1 := by
  intro i H M Z x r _
  have h' := (k H M Z x).sq
  have l' := RepL.mono r1 x l
  refine ⟨fun v hv => ?_, fun hi => ⟨vs, h', by rw [← l.length]; exact Nat.le_of_eq hi⟩⟩
  obtain ⟨u, hu, ru⟩ := l'.get hv
  refine ⟨⟨vs, u, h', hu⟩, fun y H' ⟨e1, e2⟩ => ?_⟩
  subst e1
  have e3 := e2 vs h'
  rw [hu] at e3
  cases e3
  exact ⟨Ext.refl, r, ru⟩
theorem itok_ref {C : Ctx} {a : Addr} {xs : List PV} {H1 : Hp} {M1 : Sto} {Z1 : Addr → Prop} : ItOk C (Itl C.K a) xs (fun M' => M' a = some (.lst xs)) H1 M1 Z1 := by
  intro i H M Z x r hk
  obtain ⟨o, hh, vs, rfl, l⟩ := r.sto a _ hk
  have h' : SqL C.K H a vs := .inl (.inl hh)
  refine ⟨fun v hv => ?_, fun hi => ⟨vs, h', by rw [← l.length]; exact Nat.le_of_eq hi⟩⟩
  obtain ⟨u, hu, ru⟩ := l.get hv
  refine ⟨⟨vs, u, h', hu⟩, fun y H' ⟨e1, e2⟩ => ?_⟩
  subst e1
  have e3 := e2 vs h'
  rw [hu] at e3
  cases e3
  exact ⟨Ext.refl, r, ru⟩
/-- a list or a tuple as it comes -/
theorem pi_any {tg l : Expr} {tl : TE} (hl : PE X l tl) : PI X tg l (fun σ H R => tl σ H fun x H1 => ∃ a, x = .ref a ∧ (((∃ xs, SqL X.K H1 a xs) ∧ R (Itl X.K a) H1) ∨ ((∃ xs, SqT X.K H1 a xs) ∧ R (Itt X.K a) H1))) := by
  refine ⟨fun pins s σ H R I h => ?_⟩
  refine thn (hl.run pins s σ H _ I h) fun v s1 ⟨x, H1, I1, r1, q1⟩ => ?_
  obtain ⟨a, rfl, q1⟩ := q1
  cases r1
  have fp : ∀ b ∈ [s1.heap.objs.size], FpOk X pins H1 b := fun b hb => by
    have e : b = s1.heap.objs.size := by simpa using hb
    subst e
    exact I1.fpOk (Nat.le_refl _) (I1.hok.fresh (Nat.le_refl _))
  rcases q1 with ⟨⟨xs, hq⟩, q⟩ | ⟨⟨xs, hq⟩, q⟩
  · obtain ⟨its, _, p, _⟩ := I1.list hq
    refine wpAny_pyIter_list p.isList ⟨s1.heap.objs.size, [s1.heap.objs.size], _, _, H1, rfl, ?_, turn_list a _, ?_, fp, q⟩
    · exact I1.kept (t' := s1.toks) fun b o e => Heap.get?_push_of_some _ e
    · exact ⟨_, Heap.get?_push_size _ rfl, rfl, rfl⟩
  · obtain ⟨its, _, p, _⟩ := I1.tuple hq
    refine wpAny_pyIter_tuple (show s1.heap.IsTuple a its.toArray from p) ⟨s1.heap.objs.size, [s1.heap.objs.size], _, _, H1, rfl, ?_, turn_tuple a _, ?_, fp, q⟩
    · exact I1.kept (t' := s1.toks) fun b o e => Heap.get?_push_of_some _ e
    · exact ⟨_, Heap.get?_push_size _ rfl, rfl, rfl⟩
theorem pi_val {tg l : Expr} {el : E} (hl : PE X l (rd (ctx X ga) F el)) : PI X tg l (rdI (ctx X ga) F (.val el)) :=
  PI.imp (pi_any hl) fun σ H R ⟨ρ, M, Z, Q', r, e, h, c⟩ => by
    refine ⟨ρ, M, Z, _, r, e, h, fun v x H1 M1 Z1 x1 r1 rv h1 => ?_⟩
    cases v with
    | tup xs =>
      obtain ⟨a, vs, rfl, hq, l⟩ := rv.tup_inv
      exact ⟨a, rfl, .inr ⟨⟨vs, hq⟩, c _ _ _ _ _ _ x1 r1 (itok_tup r1 hq l fun _ _ _ _ _ => trivial) trivial h1⟩⟩
    | lst xs =>
      obtain ⟨a, vs, rfl, l, k⟩ := lst_keeps r1 rv
      exact ⟨a, rfl, .inl ⟨⟨vs, (k _ _ _ Ext.refl).sq⟩, c _ _ _ _ _ _ x1 r1 (itok_lst r1 l k) trivial h1⟩⟩
    | ref a =>
      obtain ⟨xs, m, q⟩ := h1
      obtain ⟨rfl, _⟩ := rv.ref_inv
      obtain ⟨o, hh, vs, rfl, l⟩ := r1.sto a _ m
      exact ⟨a, rfl, .inl ⟨⟨vs, .inl (.inl hh)⟩, c _ _ _ _ _ _ x1 r1 itok_ref m q⟩⟩
    | _ => exact h1.elim
theorem rng_get {lo hi : Int} {i : Nat} {v : PV} (h : (rngL lo hi)[i]? = some v) : i < (hi - lo).toNat ∧ v = .int (lo + (i : Nat)) := by
  unfold rngL at h
  rw [List.getElem?_map] at h
  by_cases q : i < (hi - lo).toNat
  · rw [List.getElem?_range q] at h
    cases h
    exact ⟨q, rfl⟩
  · rw [List.getElem?_eq_none (by simpa using q)] at h
    cases h
theorem itok_rng {C : Ctx} {lo hi : Int} {keep : Sto → Prop} {H1 : Hp} {M1 : Sto} {Z1 : Addr → Prop} : ItOk C (Itr lo (hi - lo).toNat) (rngL lo hi) keep H1 M1 Z1 := by
  intro i H M Z x r hk
  refine ⟨fun v hv => ?_, fun hi => by unfold rngL at hi; rw [List.length_map, List.length_range] at hi; exact Nat.le_of_eq hi⟩
  obtain ⟨h1, h2⟩ := rng_get hv
  refine ⟨h1, fun y H' ⟨e1, e2⟩ => ?_⟩
  subst e1 e2 h2
  exact ⟨Ext.refl, r, .int _⟩
theorem pi_rng {tg a : Expr} {ea : E} {p pos : Pos} (hg : Gl X "range") (hm : X.mg "range" = none) (ha : PE X a (rd (ctx X ga) F ea)) (hs : starEach [a] X.env = [(false, eval a X.env)]) : PI X tg (.Call (.Name "range" p) [a] [] pos) (rdI (ctx X ga) F (.rng ea)) :=
  PI.imp (pi_range1 hg hm (pa_cons ha pa_nil hs) hs) fun σ H R ⟨ρ, M, Z, Q', r, e, h, c⟩ => by
    refine ⟨ρ, M, Z, _, r, e, h, fun v x H1 M1 Z1 x1 r1 rv ⟨j, h1, h2, h3, q⟩ => ?_⟩
    subst h1
    obtain rfl := rv.int_inv
    refine ⟨j, rfl, h2, h3, ?_⟩
    have e3 : Itr 0 j.toNat = Itr 0 (j - 0).toNat := by rw [Int.sub_zero]
    rw [e3]
    exact c _ _ _ _ _ _ x1 r1 itok_rng trivial q
theorem pi_rng2 {tg a b : Expr} {ea eb : E} {p pos : Pos} (hg : Gl X "range") (hm : X.mg "range" = none) (ha : PE X a (rd (ctx X ga) F ea)) (hb : PE X b (rd (ctx X ga) F eb)) (hs : starEach [a, b] X.env = [(false, eval a X.env), (false, eval b X.env)]) (hs2 : starEach [b] X.env = [(false, eval b X.env)]) :
    PI X tg (.Call (.Name "range" p) [a, b] [] pos) (rdI (ctx X ga) F (.rng2 ea eb)) :=
  PI.imp (pi_range2 hg hm (pa_cons ha (pa_cons hb pa_nil hs2) (by rw [hs, hs2])) hs hs2) fun σ H R ⟨ρ, M, Z, Q', r, e, h, c⟩ => by
    refine ⟨ρ, M, Z, _, r, e, h, fun v x H1 M1 Z1 x1 r1 rv h1 => ?_⟩
    refine ⟨ρ, M1, Z1, _, r1, e.mono r x1, h1, fun w y H2 M2 Z2 x2 r2 rw ⟨i, j, e1, e2, h2, h3, h4, h5, q⟩ => ?_⟩
    subst e1 e2
    obtain rfl := rv.int_inv
    obtain rfl := rw.int_inv
    exact ⟨i, j, rfl, ⟨h2, h3, h4, h5⟩, c _ _ _ _ _ _ (x1.trans x2) r2 itok_rng trivial q⟩
end
end SG
/-! tuples backwards; lists unpacked; zip of lists and tuples -/
namespace SG
open PySem PySem.Spec PyProof.Rows L2
section
variable {P : Program} {w : World} {A : Around} {E : Value → Shared → Prop} {s : Shared}
theorem range_pick {α : Type} (l : List α) : ∀ n, (List.range n).filterMap (fun k => l[k]?) = l.take n
  | 0 => by simp
  | n + 1 => by
    rw [List.range_succ, List.filterMap_append, range_pick l n, List.take_succ]
    cases h : l[n]? <;> simp [h]
theorem rev_pick (xs : Array Value) : ((List.range xs.size).filterMap fun (k : Nat) => xs[(((xs.size : Int) - 1) + (k : Int) * -1).toNat]?) = xs.toList.reverse := by
  have e : ((List.range xs.size).filterMap fun (k : Nat) => xs[(((xs.size : Int) - 1) + (k : Int) * -1).toNat]?) = (List.range xs.size).filterMap fun k => xs.toList.reverse[k]? := by
    have cg : ∀ {l : List Nat} {f g : Nat → Option Value}, (∀ x ∈ l, f x = g x) → l.filterMap f = l.filterMap g := by
      intro l f g
      induction l with
      | nil => intro _; rfl
      | cons x r ih =>
        intro h
        rw [List.filterMap_cons, List.filterMap_cons, h x List.mem_cons_self, ih fun y hy => h y (List.mem_cons_of_mem _ hy)]
    refine cg fun k hk => ?_
    have hk : k < xs.size := List.mem_range.mp hk
    have e1 : (((xs.size : Int) - 1) + (k : Int) * -1).toNat = xs.size - 1 - k := by omega
    rw [e1, List.getElem?_reverse (by simpa using hk)]
    simp
  rw [e, range_pick, List.take_of_length_le (by simp)]
theorem sliceApplied_rev {sl : Addr} {vl vu vs : Value} {n : Nat} {Q : Int × Int × Nat → Shared → Prop} (hs : s.heap.IsSliceOf sl vl vu vs) (pl : IsPart vl none) (pu : IsPart vu none) (ps : IsPart vs (some (-1)))
    (h : Q ((n : Int) - 1, -1, n) s) : wpAny (model P w) A (Builtin.Slice.sliceApplied (.ref sl) (pure (n : Int))) Q E s := by
  obtain ⟨os, hos, hcs, hds⟩ := id hs
  unfold Builtin.Slice.sliceApplied Builtin.Slice.sliceFields
  refine wpAny_bind (wpAny_bind (wpAny_field hos hds (x := vl) rfl (wpAny_bind (wpAny_field hos hds (x := vu) rfl (wpAny_bind (wpAny_field hos hds (x := vs) rfl (wpAny_pure ?_)))))))
  refine wpAny_bind (HT.slicePart_ ps ?_)
  show wpAny _ _ (if ((-1 : Int) == 0) = true then _ else _) _ _ s
  rw [if_neg (by decide)]
  refine wpAny_bind (HT.slicePart_ pl (wpAny_bind (HT.slicePart_ pu (wpAny_bind (wpAny_pure ?_)))))
  have e1 : Builtin.Slice.sliceAdjust none none (-1) (n : Int) = ((n : Int) - 1, -1) := rfl
  have e2 : Builtin.Slice.slicePlaces ((n : Int) - 1) (-1) (-1) = n := by
    unfold Builtin.Slice.slicePlaces
    rw [if_neg (by decide)]
    split
    · have : -(-1 : Int) = 1 := by decide
      rw [this, Int.ediv_one]
      omega
    · omega
  show wpAny _ _ (match Builtin.Slice.sliceAdjust none none (-1) (n : Int) with | (lo, hi) => pure (lo, (-1 : Int), Builtin.Slice.slicePlaces lo hi (-1))) _ _ s
  rw [e1]
  show wpAny _ _ (pure ((n : Int) - 1, (-1 : Int), Builtin.Slice.slicePlaces ((n : Int) - 1) (-1) (-1))) _ _ s
  rw [e2]
  exact wpAny_pure h
theorem getItem_tuple_rev {t sl : Addr} {items : Array Value} {vl vu vs : Value} {Q : Value → Shared → Prop} (ht : IsTup s.heap t items) (hs : s.heap.IsSliceOf sl vl vu vs) (pl : IsPart vl none) (pu : IsPart vu none) (ps : IsPart vs (some (-1)))
    (h : Q (.ref s.heap.objs.size) { s with heap := s.heap.push { cls := .type "tuple", data := .seq items.toList.reverse.toArray } }) (hsz : items.size ≤ sizeLine) : wpAny (model P w) A (getItem (.ref t) (.ref sl)) Q E s := by
  have htake : sizeOk (.seq items.toList.reverse.toArray) := by
    show items.toList.reverse.toArray.size ≤ sizeLine
    simpa using hsz
  obtain ⟨os, hos, hcs, hds⟩ := id hs
  have hTs : s.TypeIs (.ref sl) "slice" := ⟨os, hos, hcs⟩
  unfold getItem
  try with_reducible refine wpAny_holding ?_
  first | refine wpAny_bind (wpAny_pure ?_) | skip
  refine wpAny_bind (wpAny_sequenceKey ht.typeIs (by decide) ?_)
  refine wpAny_bind (wpAny_callSpecial?_slot (name := Str.ofString "__getitem__") ht.typeIs PyProof.Rows.slot_tuple_getitem (wpAny_call_entry PyProof.Rows.slot_tuple_getitem ht.typeIs entry_tuple_getitem ?_ (args_tuple_getitem _ _)))
  show wpAny _ _ (Builtin.Tuple.tupleItemsOf (.ref t) >>= _) _ _ s
  refine wpAny_bind (tupleItemsOf_ ht ?_)
  refine wpAny_bind (wpAny_typeOf hTs ?_)
  rw [if_pos (by decide)]
  refine wpAny_bind (sliceApplied_rev hs pl pu ps ?_)
  have hno : ¬ ((((items.size : Int) - 1) == 0 && (-1 : Int) == 1 && items.size == items.size) = true) := by
    intro q
    rw [Bool.and_eq_true, Bool.and_eq_true] at q
    exact absurd (eq_of_beq q.1.2) (by decide)
  show wpAny _ _ (if (((items.size : Int) - 1) == 0 && (-1 : Int) == 1 && items.size == items.size) = true then _ else _) _ _ s
  rw [if_neg hno, rev_pick]
  first
    | exact wpAny_bind (m := Builtin.Tuple.tupleExact _) (wpAny_newObj_type (wpAny_pure ⟨_, rfl, wpAny_pure h⟩) htake)
    | exact wpAny_bind (m := Builtin.Tuple.tupleExact _) (wpAny_newObj_type (wpAny_bind (wpAny_pure (wpAny_pure ⟨_, rfl, wpAny_pure h⟩))) htake)
    | exact wpAny_bind (wpAny_bind (m := Builtin.Tuple.tupleExact _) (wpAny_newObj_type (wpAny_pure (wpAny_pure ⟨_, rfl, wpAny_pure h⟩)) htake))
    | exact wpAny_bind (wpAny_bind (m := Builtin.Tuple.tupleExact _) (wpAny_newObj_type (wpAny_pure ⟨_, rfl, wpAny_pure h⟩) htake))
end
section
variable {X : Cx} {ga : Str → Option Addr} {F : FS}
/-- x[::-1], x a list or a tuple -/
def tRevA (K : PySem.W.Frag) (te : TE) : TE := fun σ H Q => te σ H fun x H1 => ∃ a xs, x = .ref a ∧ ((SqL K H1 a xs ∧ ∀ p, H1 p = none → Q (.ref p) (upd H1 p (.lst xs.reverse))) ∨ (SqT K H1 a xs ∧ ∀ p, H1 p = none → Q (.ref p) (upd H1 p (.tup xs.reverse))))
theorem pe_revA {e : Expr} {te : TE} {k : Nat} {p1 p2 p3 pos : Pos} (he : PE X e te) : PE X (.Subscript e (.Slice none none (some (.UnaryOp .USub (.Constant (.int 1) k p1) p2)) p3) pos) (tRevA X.K te) := by
  refine ⟨fun pins s σ H Q I h => ?_⟩
  refine Subscript_ (thn (he.run pins s σ H _ I h) fun v s1 ⟨x, H1, I1, r1, q1⟩ => ?_)
  obtain ⟨a, xs, rfl, q⟩ := q1
  cases r1
  have step : PO X (some (.UnaryOp .USub (.Constant (.int 1) k p1) p2)) (tPart (tUn (rU fun i => .int (-i)) (tC (.int 1)))) := po_some (pe_un un_neg pe_int)
  refine wpAny_Slice (thn (po_none.run pins s1 σ H1 (fun o G => o = none ∧ G = H1) I1 ⟨rfl, rfl⟩) fun vl s2 ⟨l, H2, I2, pl, el, e2⟩ => ?_)
  subst el
  subst e2
  refine thn (po_none.run pins s2 σ H2 (fun o G => o = none ∧ G = H2) I2 ⟨rfl, rfl⟩) fun vu s3 ⟨u, H3, I3, pu, eu, e3⟩ => ?_
  subst eu
  subst e3
  refine thn (step.run pins s3 σ H3 (fun o G => o = some (-1) ∧ G = H3) I3 ⟨1, rfl, -1, rfl, rfl, rfl⟩) fun vs s4 ⟨o, H4, I4, ps, eo, e4⟩ => ?_
  subst eo
  subst e4
  have I5 : L2.Inv X pins σ H4 { s4 with heap := s4.heap.push { cls := .type "slice", data := .fields #[vl, vu, vs] } } := I4.kept (t' := s4.toks) fun b ob z => Heap.get?_push_of_some _ z
  show wpAny (model X.prog X.w) X.A (subscriptTail e (.Slice none none (some (.UnaryOp .USub (.Constant (.int 1) k p1) p2)) p3) (.ref a) (.ref s4.heap.objs.size)) (EP X pins σ Q) X.xe { s4 with heap := s4.heap.push { cls := .type "slice", data := .fields #[vl, vu, vs] } }
  rcases q with ⟨hx, q⟩ | ⟨hx, q⟩
  · obtain ⟨its, r, ht, hz⟩ := I5.list hx
    have hlen := r.length
    refine tail_any (ops := [.ref a, .ref s4.heap.objs.size]) ht.isList.typeIs (PySem.slot_list_getitem.lookup) ?_ (by with_unfolding_all rfl)
    refine wpAny_getItem_list_slice ht.isList (Heap.IsSliceOf.new _ vl vu vs) pl pu ps (by decide) ?_ (by rw [List.size_toArray]; omega)
    rw [PySem.W.krv_pick]
    refine ⟨.ref _, _, I5.laid (t' := s4.toks) (o := .lst xs.reverse) (fun b ob z => Heap.get?_push_of_some _ z) (Nat.le_refl _) ?_, rfl, q _ (I5.hok.fresh (Nat.le_refl _))⟩
    exact ⟨by rw [List.length_reverse]; exact hz, _, 0, r.reverse, Heap.get?_push_size _ rfl⟩
  · obtain ⟨its, r, ht, hz⟩ := I5.tuple hx
    have hlen := r.length
    refine tail_any (ops := [.ref a, .ref s4.heap.objs.size]) ht.typeIs (PyProof.Rows.slot_tuple_getitem.lookup) ?_ (by with_unfolding_all rfl)
    refine getItem_tuple_rev ht (Heap.IsSliceOf.new _ vl vu vs) pl pu ps ?_ (by rw [List.size_toArray]; omega)
    refine ⟨.ref _, _, I5.laid (t' := s4.toks) (o := .tup xs.reverse) (fun b ob z => Heap.get?_push_of_some _ z) (Nat.le_refl _) ?_, rfl, q _ (I5.hok.fresh (Nat.le_refl _))⟩
    exact ⟨by rw [List.length_reverse]; exact hz, its.reverse, r.reverse, ⟨_, Heap.get?_push_size _ rfl, rfl, 0, by simp⟩⟩
end
end SG
namespace SG
open PySem PySem.Spec PyProof.Rows L2
section
variable {P : Program} {w : World} {A : Around} {E : Value → Shared → Prop} {s : Shared}
theorem draw_list {it l : Addr} {items : Array Value} (hne : l ≠ it) : ∀ (n i : Nat) (u : Shared) (Q : List Value → Shared → Prop), u.heap.IsListIter it l i → u.heap.IsList l items → i + n ≤ items.size →
    (∀ h', h'.IsListIter it l (i + n) → Heap.SameBut it u.heap h' → Q ((items.toList.drop i).take n) { u with heap := h' }) → wpAny (model P w) A (draw (.ref it) n) Q E u
  | 0, i, u, Q, hit, _, _, hQ => by
    show wpAny _ _ (pure []) Q E u
    exact wpAny_pure (by simpa using hQ u.heap hit (Heap.SameBut.refl ..))
  | n + 1, i, u, Q, hit, hl, hle, hQ => by
    have hlt : i < items.size := by omega
    show wpAny _ _ (pyNext (.ref it) >>= _) Q E u
    refine wpAny_bind (wpAny_pyNext_list_item hit hl (x := items[i]) (by simp [hlt]) fun h1 hit1 hs1 => ?_)
    refine wpAny_bind (wpAny_holding (draw_list hne n (i + 1) _ _ hit1 (hl.extBut hs1.extBut hne) (by omega) fun h2 hit2 hs2 => wpAny_pure ?_))
    have cut : items.toList.drop i = items[i] :: items.toList.drop (i + 1) := by simp [List.drop_eq_getElem_cons, hlt]
    have q := hQ h2 (by rw [show i + (n + 1) = i + 1 + n by omega]; exact hit2) (hs1.trans hs2)
    rw [cut, List.take_succ_cons] at q
    exact q
theorem unpackItems_list {l : Addr} {items : Array Value} {Q : List Value → Shared → Prop} (hh : A.handled = none) (hl : s.heap.IsList l items)
    (hQ : ∀ h', Heap.ExtBut s.heap.objs.size s.heap h' → Q items.toList { s with heap := h' }) : wpAny (model P w) A (unpackItems (.ref l) items.size none) Q E s := by
  have hne : l ≠ s.heap.objs.size := by
    obtain ⟨o, ho, _⟩ := hl
    exact Nat.ne_of_lt (Heap.lt_size ho)
  unfold unpackItems
  refine wpAny_bind ?_
  · unfold notIterableAtAll
    refine wpAny_bind (wpAny_specialOf hl.typeIs PySem.slot_list_iter.lookup ?_)
    refine wpAny_pure ?_
    simp only [Bool.false_eq_true, if_false]
    refine wpAny_bind (wpAny_holding (wpAny_pyIter_list hl ?_))
    refine wpAny_bind (wpAny_holding (draw_list hne items.size 0 _ _ ⟨_, Heap.get?_push_size _ rfl, rfl, rfl⟩ (hl.push _) (by omega) fun h1 hit1 hs1 => ?_))
    have all : List.take items.size (List.drop 0 items.toList) = items.toList := by
      rw [List.drop_zero]
      exact List.take_of_length_le (by simp)
    rw [all]
    rw [if_neg (by simp)]
    have hl1 : h1.IsList l items := (hl.push _).extBut hs1.extBut hne
    refine wpAny_bind (wpAny_holding (wpAny_pyNext_list_end hh hit1 hl1 (by simp) fun h2 he2 => ?_))
    simp only [Option.isSome_none, Bool.false_eq_true, if_false]
    refine wpAny_pure (hQ h2 fun b o hb e => he2 b o hb (hs1.extBut b o hb (Heap.get?_push_of_some _ e)))
theorem assign_Tuple_list {env : Env} {elts : List Expr} {k} {pos : Pos} {l : Addr} {items : Array Value} {Q : Unit → Shared → Prop} (hh : A.handled = none) (hl : s.heap.IsList l items)
    (hn : (assignEach elts env).length = items.size) (hst : (assignEach elts env).findIdx? (·.1) = none)
    (h : ∀ h', Heap.ExtBut s.heap.objs.size s.heap h' → wpAny (model P w) A (assignInOrder ((assignEach elts env).map (·.2)) items.toList) Q E { s with heap := h' }) :
    wpAny (model P w) A (assign (.Tuple elts k pos) env (.ref l)) Q E s := by
  rw [assign_Tuple]
  refine wpAny_bind (wpAny_standAt ?_)
  unfold unpack
  rw [hn, hst]
  exact wpAny_bind (wpAny_holding (unpackItems_list hh hl h))
end
section
variable {X : Cx}
def gSq (K : PySem.W.Frag) (n : Nat) (t : TGs) : TG := fun v σ H Q => ∃ a xs, v = .ref a ∧ (SqT K H a xs ∨ SqL K H a xs) ∧ xs.length = n ∧ t xs σ H Q
theorem pg_seq {es : List Expr} {k : Nat} {pos : Pos} {t : TGs} {n : Nat} (hc : X.calm = true) (h : PGs X es t) (hn : (assignEach es X.env).length = n) (hst : (assignEach es X.env).findIdx? (·.1) = none) : PG X (.Tuple es k pos) (gSq X.K n t) := by
  refine ⟨fun pins s σ H v u Q I r hw => ?_⟩
  obtain ⟨a, xs, rfl, hq | hq, hl, hw⟩ := hw
  · exact (pg_tup hc h hn hst).run pins s σ H _ u Q I r ⟨a, xs, rfl, hq, hl, hw⟩
  · cases r
    obtain ⟨its, rv, pl, hz⟩ := I.list hq
    refine assign_Tuple_list (I.ok.hd hc) pl.isList (by simp [hn, ← hl, rv.length]) hst fun h' hx => ?_
    have I1 : L2.Inv X pins σ H { s with heap := h' } := I.kept (t' := s.toks) fun b o e => hx b o (Nat.ne_of_lt (Heap.lt_size e)) e
    exact h.run pins _ σ H xs _ Q I1 (by simpa using rv) hw
end
/-! ### zip of lists and tuples -/
def SqB (b : Bool) (K : PySem.W.Frag) (H : Hp) (a : Addr) (xs : List V) : Prop := match b with
  | true => SqT K H a xs
  | false => SqL K H a xs
def ItB (b : Bool) (h : Heap) (it a : Addr) (i : Nat) : Prop := match b with
  | true => h.IsTupleIter it a i
  | false => h.IsListIter it a i
def AtB (b : Bool) (h : Heap) (a : Addr) (items : Array Value) : Prop := match b with
  | true => h.IsTuple a items
  | false => h.IsList a items
def itO (b : Bool) (a : Addr) : Obj := match b with
  | true => { cls := .type "tuple_iterator", data := .fields #[.ref a, .int 0 0] }
  | false => { cls := .type "list_iterator", data := .fields #[.ref a, .int 0 0] }
theorem drawsB {P : Program} {w : World} {A : Around} (b : Bool) (hh : A.handled = none) (it a : Addr) (hne : a ≠ it) (items : Array Value) : Draws P w A it [it, a] items.size (fun i v => items[i]? = some v) (fun i h => ItB b h it a i ∧ AtB b h a items) := by
  cases b with
  | true => exact Draws.tuple hh it a hne items
  | false => exact Draws.list hh it a hne items
theorem beginsB (b : Bool) (a : Addr) (items : Array Value) : Begins (.ref a) (itO b a) fun h => AtB b h a items := by
  cases b with
  | true => exact begins_tuple a items
  | false => exact begins_list a items
theorem ItB.at {b : Bool} {h h' : Heap} {it a : Addr} {i : Nat} (x : ItB b h it a i) (k : ∀ o, h.get? it = some o → h'.get? it = some o) : ItB b h' it a i := by
  cases b with
  | true => exact Heap.IsTupleIter.at x k
  | false => exact Heap.IsListIter.at x k
theorem ItB.obj {b : Bool} {h : Heap} {it a : Addr} {i : Nat} (x : ItB b h it a i) : ∃ o, h.get? it = some o ∧ ∀ v, o.data ≠ .cell v := by
  cases b with
  | true =>
    obtain ⟨o, e, _, d⟩ := x
    exact ⟨o, e, fun v t => by rw [d] at t; cases t⟩
  | false =>
    obtain ⟨o, e, _, d⟩ := x
    exact ⟨o, e, fun v t => by rw [d] at t; cases t⟩
theorem itB_new {b : Bool} {h : Heap} {it a : Addr} (e : h.get? it = some (itO b a)) : ItB b h it a 0 := by
  cases b with
  | true => exact ⟨_, e, rfl, rfl⟩
  | false => exact ⟨_, e, rfl, rfl⟩
theorem invB {X : Cx} {pins : List (Addr × Obj)} {σ : L2.St} {H : Hp} {s : Shared} {b : Bool} {a : Addr} {xs : List V} (I : L2.Inv X pins σ H s) (h : SqB b X.K H a xs) : ∃ its : List Value, Vals xs its ∧ AtB b s.heap a its.toArray ∧ a < s.heap.objs.size := by
  cases b with
  | true =>
    obtain ⟨its, r, p, _⟩ := I.tuple h
    obtain ⟨o, ho, _⟩ := id p
    exact ⟨its, r, p, Heap.lt_size ho⟩
  | false =>
    obtain ⟨its, r, p, _⟩ := I.list h
    exact ⟨its, r, p.isList, p.lt⟩
theorem injB {X : Cx} {pins : List (Addr × Obj)} {σ : L2.St} {H : Hp} {s : Shared} {b : Bool} {a : Addr} {xs ys : List V} (I : L2.Inv X pins σ H s) (h : SqB b X.K H a xs) (h' : SqB b X.K H a ys) : xs = ys := by
  cases b with
  | true => exact I.tuple_inj h h'
  | false => exact I.list_inj h h'
end SG
/-! zip of three tuples, enumerate of a tuple -/
namespace SG
open PySem PySem.Spec PyProof.Rows L2
/-- the tuples at a, b, c, the items in new tuples -/
def ItzQ (b1 b2 b3 : Bool) (K : PySem.W.Frag) (a b c : Addr) : L2.It :=
  ⟨fun i H => ∃ (xs ys zs : List V) (x y z : V), SqB b1 K H a xs ∧ SqB b2 K H b ys ∧ SqB b3 K H c zs ∧ xs[i]? = some x ∧ ys[i]? = some y ∧ zs[i]? = some z,
    fun i H v H' => ∃ T x y z, v = .ref T ∧ H T = none ∧ H' = upd H T (.tup [x, y, z]) ∧ (∀ xs, SqB b1 K H a xs → xs[i]? = some x) ∧ (∀ ys, SqB b2 K H b ys → ys[i]? = some y) ∧ ∀ zs, SqB b3 K H c zs → zs[i]? = some z,
    fun i H => ∃ xs ys zs : List V, SqB b1 K H a xs ∧ SqB b2 K H b ys ∧ SqB b3 K H c zs ∧ i ≤ xs.length ∧ i ≤ ys.length ∧ i ≤ zs.length ∧ (i = xs.length ∨ i = ys.length ∨ i = zs.length)⟩
theorem turn_zipQ {b1 b2 b3 : Bool} {P : Program} {w : World} {K : PySem.W.Frag} {elts : List Expr} {kk : Nat} {tpos : Pos} {a b c N : Addr} (ha : a < N) (hb : b < N) (hc0 : c < N) :
    Turn P w K (.Tuple elts kk tpos) (ItzQ b1 b2 b3 K a b c) [N + 5, N + 3, N + 4, N, N + 1, N + 2] (N + 5) (fun i h => IsZip h (N + 5) (N + 3) (N + 4) .none ∧ IsTupOf3 h (N + 3) (.ref N) (.ref (N + 1)) (.ref (N + 2)) ∧ (∃ x y z, IsTupOf3 h (N + 4) x y z) ∧ ItB b1 h N a i ∧ ItB b2 h (N + 1) b i ∧ ItB b3 h (N + 2) c i) where
  mem := by simp
  obj := fun i h st q hq => by
    obtain ⟨hz, hTI, ⟨x, y, z, hTO⟩, h1, h2, h3⟩ := st
    have hq' : q = N + 5 ∨ q = N + 3 ∨ q = N + 4 ∨ q = N ∨ q = N + 1 ∨ q = N + 2 := by simpa using hq
    rcases hq' with r | r | r | r | r | r
    · rw [r]; exact ⟨_, hz, fun v t => nomatch t⟩
    · rw [r]; exact ⟨_, hTI, fun v t => nomatch t⟩
    · rw [r]; exact ⟨_, hTO, fun v t => nomatch t⟩
    · rw [r]; exact h1.obj
    · rw [r]; exact h2.obj
    · rw [r]; exact h3.obj
  keep := fun i h h' st k => by
    obtain ⟨hz, hTI, ⟨x, y, z, hTO⟩, h1, h2, h3⟩ := st
    exact ⟨k _ (by simp) _ hz, k _ (by simp) _ hTI, ⟨x, y, z, k _ (by simp) _ hTO⟩, h1.at fun o q => k _ (by simp) o q, h2.at fun o q => k _ (by simp) o q, h3.at fun o q => k _ (by simp) o q⟩
  item := by
    intro X hP hw hK hc i pins s σ H E I hf st hg
    subst hP hw hK
    obtain ⟨hz, hTI, ⟨x0, y0, z0, hTO⟩, h1, h2, h3⟩ := st
    obtain ⟨xs, ys, zs, x, y, z, qx, qy, qz, gx, gy, gz⟩ := hg
    obtain ⟨i1, v1, p1, _⟩ := invB I qx
    obtain ⟨i2, v2, p2, _⟩ := invB I qy
    obtain ⟨i3, v3, p3, _⟩ := invB I qz
    obtain ⟨u1, hu1, r1⟩ := v1.get gx
    obtain ⟨u2, hu2, r2⟩ := v2.get gy
    obtain ⟨u3, hu3, r3⟩ := v3.get gz
    have lt1 : i < i1.toArray.size := by simpa using (List.getElem?_eq_some_iff.mp hu1).1
    have lt2 : i < i2.toArray.size := by simpa using (List.getElem?_eq_some_iff.mp hu2).1
    have lt3 : i < i3.toArray.size := by simpa using (List.getElem?_eq_some_iff.mp hu3).1
    have hh : X.A.in1.handled = none := I.ok.hd hc
    have hzl : N + 5 < s.heap.objs.size := Heap.lt_size hz
    refine wpAny_pyNext_zipD3_item (zip_sep3 (N := N) (fp1 := [a]) (fp2 := [b]) (fp3 := [c]) (by simpa using ha) (by simpa using hb) (by simpa using hc0)) (drawsB b1 hh N a (Nat.ne_of_lt ha) i1.toArray) (drawsB b2 hh (N + 1) b (Nat.ne_of_lt (Nat.lt_succ_of_lt hb)) i2.toArray) (drawsB b3 hh (N + 2) c (Nat.ne_of_lt (Nat.lt_succ_of_lt (Nat.lt_succ_of_lt hc0))) i3.toArray) hz hTI hTO ⟨h1, p1⟩ ⟨h2, p2⟩ ⟨h3, p3⟩ lt1 lt2 lt3 fun w1 w2 w3 h' tk g1 g2 g3 z' TO' s1 s2 s3 hT hsz hk => ?_
    have e1 : w1 = u1 := by
      have g1' : i1[i]? = some w1 := by simpa using g1
      rw [hu1] at g1'; exact (Option.some.inj g1').symm
    have e2 : w2 = u2 := by
      have g1' : i2[i]? = some w2 := by simpa using g2
      rw [hu2] at g1'; exact (Option.some.inj g1').symm
    have e3 : w3 = u3 := by
      have g1' : i3[i]? = some w3 := by simpa using g3
      rw [hu3] at g1'; exact (Option.some.inj g1').symm
    subst e1
    subst e2
    subst e3
    refine ⟨_, rfl, wpAny_letOwnedTupleGo_zip (s := { s with heap := h', toks := tk }) z' fun h'' z'' sb => ?_⟩
    have hT2 : h''.get? s.heap.objs.size = some { cls := .type "tuple", data := .seq #[w1, w2, w3] } := (sb.2 _ (Nat.ne_of_gt hzl)).trans hT
    have new : ObjOk X.prog X.w (upd H s.heap.objs.size (.tup [x, y, z])) h'' s.heap.objs.size (.tup [x, y, z]) :=
      ⟨by show 3 ≤ sizeLine; decide, [w1, w2, w3], .cons r1 (.cons r2 (.cons r3 .nil)), ⟨_, hT2, rfl, _, rfl⟩⟩
    have I1 : L2.Inv X pins σ (upd H s.heap.objs.size (.tup [x, y, z])) { s with heap := h'', toks := tk } :=
      I.turnedNew (t' := tk) (ch := [N + 5, N + 3, N + 4, N, N + 1, N + 2]) (fun q o hb q' => (sb.2 q (fun t => hb (by simp [t]))).trans (hk q o (fun t => hb (by simp [t])) (fun t => hb (by simp [t])) (fun t => hb (by simp [t])) (fun t => hb (by simp [t])) (fun t => hb (by simp [t])) q')) hf (Nat.le_refl _) new
    refine ⟨.ref s.heap.objs.size, _, I1, rfl, ⟨_, x, y, z, rfl, I.hok.fresh (Nat.le_refl _), rfl, fun l hl => by rw [injB I hl qx]; exact gx, fun l hl => by rw [injB I hl qy]; exact gy, fun l hl => by rw [injB I hl qz]; exact gz⟩, ⟨z'', ?_, ⟨w1, w2, w3, ?_⟩, ?_, ?_, ?_⟩, fun q hq => ?_⟩
    · exact (sb.2 _ (by simp)).trans (hk _ _ (by simp) (by simp) (by simp) (by simp) (by simp) hTI)
    · exact (sb.2 _ (by simp)).trans TO'
    · exact s1.1.at fun o q => (sb.2 _ (by simp)).trans q
    · exact s2.1.at fun o q => (sb.2 _ (by simp)).trans q
    · exact s3.1.at fun o q => (sb.2 _ (by simp)).trans q
    · have hlt : q < s.heap.objs.size := by
        have hq' : q = N + 5 ∨ q = N + 3 ∨ q = N + 4 ∨ q = N ∨ q = N + 1 ∨ q = N + 2 := by simpa using hq
        rcases hq' with r | r | r | r | r | r
        · rw [r]; exact hzl
        · rw [r]; exact Heap.lt_size hTI
        · rw [r]; exact Heap.lt_size hTO
        · rw [r]; obtain ⟨_, e1, _⟩ := h1.obj; exact Heap.lt_size e1
        · rw [r]; obtain ⟨_, e1, _⟩ := h2.obj; exact Heap.lt_size e1
        · rw [r]; obtain ⟨_, e1, _⟩ := h3.obj; exact Heap.lt_size e1
      rw [upd_ne (Nat.ne_of_lt hlt)]
      exact (hf q hq).1
  done := by
    intro X hP hw hK hc i pins s σ H E I hf st hg
    subst hP hw hK
    obtain ⟨hz, hTI, ⟨x0, y0, z0, hTO⟩, h1, h2, h3⟩ := st
    obtain ⟨xs, ys, zs, qx, qy, qz, l1, l2, l3, hend⟩ := hg
    obtain ⟨i1, v1, p1, _⟩ := invB I qx
    obtain ⟨i2, v2, p2, _⟩ := invB I qy
    obtain ⟨i3, v3, p3, _⟩ := invB I qz
    have m1 := v1.length
    have m2 := v2.length
    have m3 := v3.length
    have hh : X.A.in1.handled = none := I.ok.hd hc
    refine wpAny_pyNext_zipD3_end (zip_sep3 (N := N) (fp1 := [a]) (fp2 := [b]) (fp3 := [c]) (by simpa using ha) (by simpa using hb) (by simpa using hc0)) (drawsB b1 hh N a (Nat.ne_of_lt ha) i1.toArray) (drawsB b2 hh (N + 1) b (Nat.ne_of_lt (Nat.lt_succ_of_lt hb)) i2.toArray) (drawsB b3 hh (N + 2) c (Nat.ne_of_lt (Nat.lt_succ_of_lt (Nat.lt_succ_of_lt hc0))) i3.toArray) hz hTI hTO ⟨h1, p1⟩ ⟨h2, p2⟩ ⟨h3, p3⟩ (by simp; omega) (by simp; omega) (by simp; omega) (by simp; omega) fun h' tk hk => ?_
    exact ⟨rfl, I.turnedL (t' := tk) (ch := [N + 5, N + 3, N + 4, N, N + 1, N + 2]) (fun q o hb q' => hk q o (fun t => hb (by simp [t])) (fun t => hb (by simp [t])) (fun t => hb (by simp [t])) (fun t => hb (by simp [t])) (fun t => hb (by simp [t])) q') hf⟩
  self := fun A i s Q E st h => wpAny_pyIter_zip st.1 h
def iZipQ (K : PySem.W.Frag) (ta : TA) : TI := fun σ H R => ta σ H fun vs H1 => ∃ b1 b2 b3 a b c xs ys zs, vs = [.ref a, .ref b, .ref c] ∧ SqB b1 K H1 a xs ∧ SqB b2 K H1 b ys ∧ SqB b3 K H1 c zs ∧ R (ItzQ b1 b2 b3 K a b c) H1
theorem pi_zipQ {X : Cx} {e e2 e3 : Expr} {ta : TA} {p pos tpos : Pos} {elts : List Expr} {kk : Nat} (hg : Gl X "zip") (hm : X.mg "zip" = none) (ha : PA X [e, e2, e3] ta)
    (hs : starEach [e, e2, e3] X.env = (false, eval e X.env) :: starEach [e2, e3] X.env) (hpl : (backTo pos (starEach [e2, e3] X.env)).any (·.1) = false) :
    PI X (.Tuple elts kk tpos) (.Call (.Name "zip" p) [e, e2, e3] [] pos) (iZipQ X.K ta) := by
  refine ⟨fun pins s σ H R I h => ?_⟩
  refine Call_ (ld_blt I hg hm PyProof.Rows.boot_zip (PyProof.Rows.callWith_type1 (thn (ha.run pos pins s σ H _ I h) fun us s1 ⟨vs, H1, I1, r1, q1⟩ => ?_) hs hpl))
  obtain ⟨b1, b2, b3, a, b, c, xs, ys, zs, rfl, qx, qy, qz, q⟩ := q1
  cases r1 with
  | cons r rr =>
    cases rr with
    | cons r' rr =>
      cases rr with
      | cons r'' rr =>
        cases rr
        cases r
        cases r'
        cases r''
        obtain ⟨i1, v1, p1, l1⟩ := invB I1 qx
        obtain ⟨i2, v2, p2, l2⟩ := invB I1 qy
        obtain ⟨i3, v3, p3, l3⟩ := invB I1 qz
        refine zip_begins3 (beginsB b1 a i1.toArray) (beginsB b2 b i2.toArray) (beginsB b3 c i3.toArray) p1 p2 p3 fun h' hz hTI hTO g1 g2 g3 hsz hk => wpAny_pyIter_zip hz ?_
        have I2 : L2.Inv X pins σ H1 { s1 with heap := h' } := I1.kept (t' := s1.toks) hk
        refine ⟨s1.heap.objs.size + 5, [s1.heap.objs.size + 5, s1.heap.objs.size + 3, s1.heap.objs.size + 4, s1.heap.objs.size, s1.heap.objs.size + 1, s1.heap.objs.size + 2], _, _, H1, rfl, I2, turn_zipQ l1 l2 l3, ⟨hz, hTI, ⟨_, _, _, hTO⟩, itB_new g1, itB_new g2, itB_new g3⟩, fun d hd => ?_, q⟩
        have hle : s1.heap.objs.size ≤ d := by
          have hd' : d = s1.heap.objs.size + 5 ∨ d = s1.heap.objs.size + 3 ∨ d = s1.heap.objs.size + 4 ∨ d = s1.heap.objs.size ∨ d = s1.heap.objs.size + 1 ∨ d = s1.heap.objs.size + 2 := by simpa using hd
          rcases hd' with z | z | z | z | z | z <;> rw [z] <;> first | exact Nat.le_refl _ | exact Nat.le_add_right _ _
        exact I1.fpOk hle (I1.hok.fresh hle)
/-! ### two -/
def ItzP (b1 b2 : Bool) (K : PySem.W.Frag) (a b : Addr) : L2.It :=
  ⟨fun i H => ∃ (xs ys : List V) (x y : V), SqB b1 K H a xs ∧ SqB b2 K H b ys ∧ xs[i]? = some x ∧ ys[i]? = some y,
    fun i H v H' => ∃ T x y, v = .ref T ∧ H T = none ∧ H' = upd H T (.tup [x, y]) ∧ (∀ xs, SqB b1 K H a xs → xs[i]? = some x) ∧ ∀ ys, SqB b2 K H b ys → ys[i]? = some y,
    fun i H => ∃ xs ys : List V, SqB b1 K H a xs ∧ SqB b2 K H b ys ∧ i ≤ xs.length ∧ i ≤ ys.length ∧ (i = xs.length ∨ i = ys.length)⟩
theorem turn_zipP {b1 b2 : Bool} {P : Program} {w : World} {K : PySem.W.Frag} {elts : List Expr} {kk : Nat} {tpos : Pos} {a b N : Addr} (ha : a < N) (hb : b < N) :
    Turn P w K (.Tuple elts kk tpos) (ItzP b1 b2 K a b) [N + 4, N + 2, N + 3, N, N + 1] (N + 4) (fun i h => IsZip h (N + 4) (N + 2) (N + 3) .none ∧ IsTupOf2 h (N + 2) (.ref N) (.ref (N + 1)) ∧ (∃ x y, IsTupOf2 h (N + 3) x y) ∧ ItB b1 h N a i ∧ ItB b2 h (N + 1) b i) where
  mem := by simp
  obj := fun i h st q hq => by
    obtain ⟨hz, hTI, ⟨x, y, hTO⟩, h1, h2⟩ := st
    have hq' : q = N + 4 ∨ q = N + 2 ∨ q = N + 3 ∨ q = N ∨ q = N + 1 := by simpa using hq
    rcases hq' with r | r | r | r | r
    · rw [r]; exact ⟨_, hz, fun v t => nomatch t⟩
    · rw [r]; exact ⟨_, hTI, fun v t => nomatch t⟩
    · rw [r]; exact ⟨_, hTO, fun v t => nomatch t⟩
    · rw [r]; exact h1.obj
    · rw [r]; exact h2.obj
  keep := fun i h h' st k => by
    obtain ⟨hz, hTI, ⟨x, y, hTO⟩, h1, h2⟩ := st
    exact ⟨k _ (by simp) _ hz, k _ (by simp) _ hTI, ⟨x, y, k _ (by simp) _ hTO⟩, h1.at fun o q => k _ (by simp) o q, h2.at fun o q => k _ (by simp) o q⟩
  item := by
    intro X hP hw hK hc i pins s σ H E I hf st hg
    subst hP hw hK
    obtain ⟨hz, hTI, ⟨x0, y0, hTO⟩, h1, h2⟩ := st
    obtain ⟨xs, ys, x, y, qx, qy, gx, gy⟩ := hg
    obtain ⟨i1, v1, p1, _⟩ := invB I qx
    obtain ⟨i2, v2, p2, _⟩ := invB I qy
    obtain ⟨u1, hu1, r1⟩ := v1.get gx
    obtain ⟨u2, hu2, r2⟩ := v2.get gy
    have lt1 : i < i1.toArray.size := by simpa using (List.getElem?_eq_some_iff.mp hu1).1
    have lt2 : i < i2.toArray.size := by simpa using (List.getElem?_eq_some_iff.mp hu2).1
    have hh : X.A.in1.handled = none := I.ok.hd hc
    have hzl : N + 4 < s.heap.objs.size := Heap.lt_size hz
    refine wpAny_pyNext_zipD2_item (zip_sep2 (N := N) (fp1 := [a]) (fp2 := [b]) (by simpa using ha) (by simpa using hb)) (drawsB b1 hh N a (Nat.ne_of_lt ha) i1.toArray) (drawsB b2 hh (N + 1) b (Nat.ne_of_lt (Nat.lt_succ_of_lt hb)) i2.toArray) hz hTI hTO ⟨h1, p1⟩ ⟨h2, p2⟩ lt1 lt2 fun w1 w2 h' tk g1 g2 z' TO' s1 s2 hT hsz hk => ?_
    have e1 : w1 = u1 := by
      have g1' : i1[i]? = some w1 := by simpa using g1
      rw [hu1] at g1'; exact (Option.some.inj g1').symm
    have e2 : w2 = u2 := by
      have g1' : i2[i]? = some w2 := by simpa using g2
      rw [hu2] at g1'; exact (Option.some.inj g1').symm
    subst e1
    subst e2
    refine ⟨_, rfl, wpAny_letOwnedTupleGo_zip (s := { s with heap := h', toks := tk }) z' fun h'' z'' sb => ?_⟩
    have hT2 : h''.get? s.heap.objs.size = some { cls := .type "tuple", data := .seq #[w1, w2] } := (sb.2 _ (Nat.ne_of_gt hzl)).trans hT
    have new : ObjOk X.prog X.w (upd H s.heap.objs.size (.tup [x, y])) h'' s.heap.objs.size (.tup [x, y]) :=
      ⟨show 2 ≤ sizeLine by decide, [w1, w2], .cons r1 (.cons r2 .nil), ⟨_, hT2, rfl, _, rfl⟩⟩
    have I1 : L2.Inv X pins σ (upd H s.heap.objs.size (.tup [x, y])) { s with heap := h'', toks := tk } :=
      I.turnedNew (t' := tk) (ch := [N + 4, N + 2, N + 3, N, N + 1]) (fun q o hb q' => (sb.2 q (fun t => hb (by simp [t]))).trans (hk q o (fun t => hb (by simp [t])) (fun t => hb (by simp [t])) (fun t => hb (by simp [t])) (fun t => hb (by simp [t])) q')) hf (Nat.le_refl _) new
    refine ⟨.ref s.heap.objs.size, _, I1, rfl, ⟨_, x, y, rfl, I.hok.fresh (Nat.le_refl _), rfl, fun l hl => by rw [injB I hl qx]; exact gx, fun l hl => by rw [injB I hl qy]; exact gy⟩, ⟨z'', ?_, ⟨w1, w2, ?_⟩, ?_, ?_⟩, fun q hq => ?_⟩
    · exact (sb.2 _ (by simp)).trans (hk _ _ (by simp) (by simp) (by simp) (by simp) hTI)
    · exact (sb.2 _ (by simp)).trans TO'
    · exact s1.1.at fun o q => (sb.2 _ (by simp)).trans q
    · exact s2.1.at fun o q => (sb.2 _ (by simp)).trans q
    · have hlt : q < s.heap.objs.size := by
        have hq' : q = N + 4 ∨ q = N + 2 ∨ q = N + 3 ∨ q = N ∨ q = N + 1 := by simpa using hq
        rcases hq' with r | r | r | r | r
        · rw [r]; exact hzl
        · rw [r]; exact Heap.lt_size hTI
        · rw [r]; exact Heap.lt_size hTO
        · rw [r]; obtain ⟨_, e1, _⟩ := h1.obj; exact Heap.lt_size e1
        · rw [r]; obtain ⟨_, e1, _⟩ := h2.obj; exact Heap.lt_size e1
      rw [upd_ne (Nat.ne_of_lt hlt)]
      exact (hf q hq).1
  done := by
    intro X hP hw hK hc i pins s σ H E I hf st hg
    subst hP hw hK
    obtain ⟨hz, hTI, ⟨x0, y0, hTO⟩, h1, h2⟩ := st
    obtain ⟨xs, ys, qx, qy, l1, l2, hend⟩ := hg
    obtain ⟨i1, v1, p1, _⟩ := invB I qx
    obtain ⟨i2, v2, p2, _⟩ := invB I qy
    have m1 := v1.length
    have m2 := v2.length
    have hh : X.A.in1.handled = none := I.ok.hd hc
    refine wpAny_pyNext_zipD2_end (zip_sep2 (N := N) (fp1 := [a]) (fp2 := [b]) (by simpa using ha) (by simpa using hb)) (drawsB b1 hh N a (Nat.ne_of_lt ha) i1.toArray) (drawsB b2 hh (N + 1) b (Nat.ne_of_lt (Nat.lt_succ_of_lt hb)) i2.toArray) hz hTI hTO ⟨h1, p1⟩ ⟨h2, p2⟩ (by simp; omega) (by simp; omega) (by simp; omega) fun h' tk hk => ?_
    exact ⟨rfl, I.turnedL (t' := tk) (ch := [N + 4, N + 2, N + 3, N, N + 1]) (fun q o hb q' => hk q o (fun t => hb (by simp [t])) (fun t => hb (by simp [t])) (fun t => hb (by simp [t])) (fun t => hb (by simp [t])) q') hf⟩
  self := fun A i s Q E st h => wpAny_pyIter_zip st.1 h
def iZipP (K : PySem.W.Frag) (ta : TA) : TI := fun σ H R => ta σ H fun vs H1 => ∃ b1 b2 a b xs ys, vs = [.ref a, .ref b] ∧ SqB b1 K H1 a xs ∧ SqB b2 K H1 b ys ∧ R (ItzP b1 b2 K a b) H1
theorem pi_zipP {X : Cx} {e e2 : Expr} {ta : TA} {p pos tpos : Pos} {elts : List Expr} {kk : Nat} (hg : Gl X "zip") (hm : X.mg "zip" = none) (ha : PA X [e, e2] ta)
    (hs : starEach [e, e2] X.env = (false, eval e X.env) :: starEach [e2] X.env) (hpl : (backTo pos (starEach [e2] X.env)).any (·.1) = false) :
    PI X (.Tuple elts kk tpos) (.Call (.Name "zip" p) [e, e2] [] pos) (iZipP X.K ta) := by
  refine ⟨fun pins s σ H R I h => ?_⟩
  refine Call_ (ld_blt I hg hm PyProof.Rows.boot_zip (PyProof.Rows.callWith_type1 (thn (ha.run pos pins s σ H _ I h) fun us s1 ⟨vs, H1, I1, r1, q1⟩ => ?_) hs hpl))
  obtain ⟨b1, b2, a, b, xs, ys, rfl, qx, qy, q⟩ := q1
  cases r1 with
  | cons r rr =>
    cases rr with
    | cons r' rr =>
      cases rr
      cases r
      cases r'
      obtain ⟨i1, v1, p1, l1⟩ := invB I1 qx
      obtain ⟨i2, v2, p2, l2⟩ := invB I1 qy
      refine zip_begins2 (beginsB b1 a i1.toArray) (beginsB b2 b i2.toArray) p1 p2 fun h' hz hTI hTO g1 g2 hsz hk => wpAny_pyIter_zip hz ?_
      have I2 : L2.Inv X pins σ H1 { s1 with heap := h' } := I1.kept (t' := s1.toks) hk
      refine ⟨s1.heap.objs.size + 4, [s1.heap.objs.size + 4, s1.heap.objs.size + 2, s1.heap.objs.size + 3, s1.heap.objs.size, s1.heap.objs.size + 1], _, _, H1, rfl, I2, turn_zipP l1 l2, ⟨hz, hTI, ⟨_, _, hTO⟩, itB_new g1, itB_new g2⟩, fun d hd => ?_, q⟩
      have hle : s1.heap.objs.size ≤ d := by
        have hd' : d = s1.heap.objs.size + 4 ∨ d = s1.heap.objs.size + 2 ∨ d = s1.heap.objs.size + 3 ∨ d = s1.heap.objs.size ∨ d = s1.heap.objs.size + 1 := by simpa using hd
        rcases hd' with z | z | z | z | z <;> rw [z] <;> first | exact Nat.le_refl _ | exact Nat.le_add_right _ _
      exact I1.fpOk hle (I1.hok.fresh hle)
/-! ### enumerate of a tuple -/
def IteT (K : PySem.W.Frag) (a : Addr) : L2.It :=
  ⟨fun i H => ∃ (xs : List V) (x : V), SqT K H a xs ∧ xs[i]? = some x, fun i H v H' => ∃ T x, v = .ref T ∧ H T = none ∧ H' = upd H T (.tup [.int (i : Nat), x]) ∧ ∀ xs, SqT K H a xs → xs[i]? = some x, fun i H => ∃ xs : List V, SqT K H a xs ∧ i = xs.length⟩
theorem turn_enumT {P : Program} {w : World} {K : PySem.W.Frag} {elts : List Expr} {kk : Nat} {tpos : Pos} {a N : Addr} (ha : a < N) :
    Turn P w K (.Tuple elts kk tpos) (IteT K a) [N + 1, N] (N + 1) (fun i h => (∃ old, IsEnum h (N + 1) N ((i : Nat) : Int) old) ∧ h.IsTupleIter N a i) where
  mem := by simp
  obj := fun i h st b hb => by
    obtain ⟨⟨old, he⟩, ⟨o, ho, hc, hd⟩⟩ := st
    have e' : b = N + 1 ∨ b = N := by simpa using hb
    rcases e' with z | z
    · rw [z]; exact ⟨_, he, fun v q => nomatch q⟩
    · rw [z]; exact ⟨o, ho, fun v q => by rw [hd] at q; cases q⟩
  keep := fun i h h' st k => let ⟨⟨old, he⟩, hi⟩ := st; ⟨⟨old, k _ (by simp) _ he⟩, hi.at fun o q => k _ (by simp) o q⟩
  item := by
    intro X hP hw hK hc i pins s σ H E I hf st hg
    subst hP hw hK
    obtain ⟨⟨old, he⟩, hit⟩ := st
    obtain ⟨xs, x, qx, gx⟩ := hg
    obtain ⟨i1, v1, p1, _⟩ := I.tuple qx
    obtain ⟨u, hu, ru⟩ := v1.get gx
    have lt1 : i < i1.toArray.size := by simpa using (List.getElem?_eq_some_iff.mp hu).1
    have hh : X.A.in1.handled = none := I.ok.hd hc
    have hel : N + 1 < s.heap.objs.size := Heap.lt_size he
    refine wpAny_pyNext_enum_itemC (Draws.tuple hh N a (Nat.ne_of_lt ha) i1.toArray) he ⟨hit, p1⟩ lt1 (Nat.succ_ne_self _) (by
      simp only [List.mem_cons, List.not_mem_nil, or_false, not_or]
      exact ⟨Nat.succ_ne_self _, Nat.ne_of_gt (Nat.lt_succ_of_lt ha)⟩) fun w1 h' tk g1 ho s1 hT hsz hk => ?_
    have e1 : w1 = u := by
      have g1' : i1[i]? = some w1 := by simpa using g1
      rw [hu] at g1'; exact (Option.some.inj g1').symm
    subst e1
    refine ⟨_, rfl, wpAny_letOwnedTupleGo_enum (s := { s with heap := h', toks := tk + 1 }) ho fun h'' he' sb => ?_⟩
    have hT2 : h''.get? s.heap.objs.size = some { cls := .type "tuple", data := .seq #[.int i tk, w1] } := (sb.2 _ (Nat.ne_of_gt hel)).trans hT
    have new : ObjOk X.prog X.w (upd H s.heap.objs.size (.tup [.int (i : Nat), x])) h'' s.heap.objs.size (.tup [.int (i : Nat), x]) :=
      ⟨by show 2 ≤ sizeLine; decide, [.int i tk, w1], .cons ⟨_, rfl⟩ (.cons ru .nil), ⟨_, hT2, rfl, _, rfl⟩⟩
    have I1 : L2.Inv X pins σ (upd H s.heap.objs.size (.tup [.int (i : Nat), x])) { s with heap := h'', toks := tk + 1 } :=
      I.turnedNew (ch := [N + 1, N]) (fun b ob hb q => (sb.2 b (fun z => hb (by simp [z]))).trans (hk b ob (fun z => hb (by simp [z])) (fun z => hb (by simp [z])) q)) hf (Nat.le_refl _) new
    refine ⟨.ref s.heap.objs.size, _, I1, rfl, ⟨_, x, rfl, I.hok.fresh (Nat.le_refl _), rfl, fun l hl => by rw [I.tuple_inj hl qx]; exact gx⟩, ⟨⟨w1, ?_⟩, s1.1.at fun o q => (sb.2 _ (Nat.ne_of_lt (Nat.lt_succ_self _))).trans q⟩, fun b hb => ?_⟩
    · have e1 : ((i + 1 : Nat) : Int) = (i : Int) + 1 := by omega
      rw [e1]; exact he'
    · have hb' : b < s.heap.objs.size := by
        have e' : b = N + 1 ∨ b = N := by simpa using hb
        rcases e' with z | z
        · rw [z]; exact hel
        · rw [z]; exact Nat.lt_of_succ_lt hel
      rw [upd_ne (Nat.ne_of_lt hb')]
      exact (hf b hb).1
  done := by
    intro X hP hw hK hc i pins s σ H E I hf st hg
    subst hP hw hK
    obtain ⟨⟨old, he⟩, hit⟩ := st
    obtain ⟨xs, qx, hx⟩ := hg
    obtain ⟨i1, v1, p1, _⟩ := I.tuple qx
    have hl := v1.length
    obtain ⟨f0, f1, f2, f3, f4, f5⟩ := hf N (by simp)
    have hh : X.A.in1.handled = none := I.ok.hd hc
    have en : i = i1.toArray.size := by simp; omega
    refine wpAny_pyNext_enum_endD (Draws.tuple hh N a (Nat.ne_of_lt ha) i1.toArray) he ⟨by rw [← en]; exact hit, p1⟩ fun h' eb => ⟨rfl, I.turned (t' := s.toks) (fun b o hb q => eb b o hb q) f0 f1 f3 f4 f5⟩
  self := fun A i s Q E st h => let ⟨⟨_, he⟩, _⟩ := st; wpAny_pyIter_enum he h
theorem meets_enum1 {v : Value} {o : Obj} {H : Heap → Prop} (B : Begins v o H) :
    Meets (Builtin.«enumerate.__new__» ⟨[.type "enumerate", v], []⟩) (fun _ R s => H s.heap ∧
      R (.ok (.ret (.ref (s.heap.push o).objs.size))) { s with heap := (s.heap.push o).push { cls := .type "enumerate", data := .fields #[.none, .bool false, .ref s.heap.objs.size, rawInt 0, .none, .none] } }) :=
  .of_wp fun prog w A R s h => by
    obtain ⟨hp, g, d, tk, os⟩ := s
    obtain ⟨h1, h⟩ := h
    have subE := sub_enumerate
    have q1 : ∀ {A' : Around} {E : Value → Shared → Prop} {Q : Value → Shared → Prop}, Q (.ref hp.objs.size) ⟨hp.push o, g, d, tk, os⟩ → wpAny (model prog w) A' (pyIter v) Q E ⟨hp, g, d, tk, os⟩ :=
      fun q => B.iter prog w _ _ ⟨hp, g, d, tk, os⟩ _ h1 q
    wp_walk using q1
    refine wpAny_stack_any fun st => wpAny_pure ?_
    split
    · rename_i c _ _ _ _ _
      cases (c == Value.type "enumerate")
      · wp_walk using q1
        exact ⟨_, rfl, h⟩
      · wp_walk using q1
        exact ⟨_, rfl, h⟩
    · wp_walk using q1
      exact ⟨_, rfl, h⟩
theorem call_enumT {P : Program} {w : World} {A : Around} {E : Value → Shared → Prop} {s : Shared} {v : Value} {o : Obj} {H : Heap → Prop} {Q : Value → Shared → Prop} (B : Begins v o H) (h1 : H s.heap)
    (h : ∀ h', IsEnum h' (s.heap.objs.size + 1) s.heap.objs.size 0 .none → h'.get? s.heap.objs.size = some o → (∀ b o, s.heap.get? b = some o → h'.get? b = some o) → Q (.ref (s.heap.objs.size + 1)) { s with heap := h' }) :
    wpAny (model P w) A (call (.type "enumerate") [v]) Q E s := by
  refine callType_new F.called_enumerate (by decide) (F.typeCall_enumerate_1 _) (F.newCall_enumerate_1 _) (fun obj => F.args_object_init_2 obj _) F.entry_enumerate_new (meets_enum1 B) ⟨h1, ?_⟩
  have hz : (s.heap.push o).objs.size = s.heap.objs.size + 1 := Heap.size_push ..
  show _ ∧ _
  rw [hz]
  have he : IsEnum ((s.heap.push o).push { cls := .type "enumerate", data := .fields #[.none, .bool false, .ref s.heap.objs.size, rawInt 0, .none, .none] }) (s.heap.objs.size + 1) s.heap.objs.size 0 .none := by
    have q := Heap.get?_push_size (s.heap.push o) (o := { cls := .type "enumerate", data := .fields #[.none, .bool false, .ref s.heap.objs.size, rawInt 0, .none, .none] }) rfl
    rw [hz] at q
    exact q
  exact ⟨⟨_, he, rfl⟩, h _ he (Heap.get?_push_of_some _ (Heap.get?_push_size _ B.free)) fun b o x => Heap.get?_push_of_some _ (Heap.get?_push_of_some _ x)⟩
/-- enumerate of a list or of a tuple -/
def iEnumA (K : PySem.W.Frag) (ta : TA) : TI := fun σ H R => ta σ H fun vs H1 => ∃ a xs, vs = [.ref a] ∧ ((SqL K H1 a xs ∧ R (Ite K a) H1) ∨ (SqT K H1 a xs ∧ R (IteT K a) H1))
theorem pi_enumA {X : Cx} {e : Expr} {ta : TA} {p pos tpos : Pos} {elts : List Expr} {kk : Nat} (hg : Gl X "enumerate") (hm : X.mg "enumerate" = none) (ha : PA X [e] ta) (hs : starEach [e] X.env = [(false, eval e X.env)]) :
    PI X (.Tuple elts kk tpos) (.Call (.Name "enumerate" p) [e] [] pos) (iEnumA X.K ta) := by
  refine ⟨fun pins s σ H R I h => ?_⟩
  refine Call_ (ld_blt I hg hm boot_enumerate (PyProof.Rows.callWith_type1 (thn (ha.run pos pins s σ H _ I h) fun us s1 ⟨vs, H1, I1, r1, q1⟩ => ?_) hs rfl))
  obtain ⟨a, xs, rfl, q1⟩ := q1
  cases r1 with
  | cons r rr =>
    cases rr
    cases r
    have two : ∀ b, b ∈ [s1.heap.objs.size + 1, s1.heap.objs.size] → FpOk X pins H1 b := fun b hb => by
      have e' : b = s1.heap.objs.size + 1 ∨ b = s1.heap.objs.size := by simpa using hb
      have hle : s1.heap.objs.size ≤ b := by rcases e' with z | z <;> rw [z] <;> first | exact Nat.le_refl _ | exact Nat.le_add_right _ _
      exact I1.fpOk hle (I1.hok.fresh hle)
    rcases q1 with ⟨hq, q⟩ | ⟨hq, q⟩
    · obtain ⟨its, rv, pl, hz⟩ := I1.list hq
      refine call_enumerate_list pl.isList fun h' he hit hsz hk => wpAny_pyIter_enum he ?_
      exact ⟨s1.heap.objs.size + 1, [s1.heap.objs.size + 1, s1.heap.objs.size], _, _, H1, rfl, I1.kept (t' := s1.toks) hk, turn_enum a (s1.heap.objs.size + 1) s1.heap.objs.size, ⟨⟨.none, he⟩, hit, Nat.succ_ne_self _⟩, two, q⟩
    · obtain ⟨its, rv, pt, hz⟩ := I1.tuple hq
      have l1 : a < s1.heap.objs.size := let ⟨_, e, _⟩ := pt; Heap.lt_size e
      refine call_enumT (begins_tuple a its.toArray) pt fun h' he hit hk => wpAny_pyIter_enum he ?_
      exact ⟨s1.heap.objs.size + 1, [s1.heap.objs.size + 1, s1.heap.objs.size], _, _, H1, rfl, I1.kept (t' := s1.toks) hk, turn_enumT l1, ⟨⟨.none, he⟩, ⟨_, hit, rfl, rfl⟩⟩, two, q⟩
end SG
namespace SG
open PySem PySem.Spec PyProof.Rows L2
/-! what is wanted may be weakened -/
def Mono1 {α : Type} (f : (α → Sto → Prop) → Prop) : Prop := ∀ Q Q', (∀ v M, Q v M → Q' v M) → f Q → f Q'
def FMono (F : FS) : Prop := ∀ f vs M, Mono1 (F f vs M)
section
variable {Q Q' : Q1} (i : ∀ v M, Q v M → Q' v M)
include i
theorem newL_mono {mt : Bool} {xs : List PV} {M : Sto} (h : newL mt xs M Q) : newL mt xs M Q' := by
  cases mt with
  | true => exact fun p hp => i _ _ (h p hp)
  | false => exact i _ _ h
theorem addS_mono {mt : Bool} {x y : PV} {M : Sto} (h : addS mt x y M Q) : addS mt x y M Q' := by
  unfold addS at h ⊢
  split at h
  · exact i _ _ h
  · exact ⟨h.1, i _ _ h.2⟩
  · exact ⟨h.1, i _ _ h.2⟩
  · obtain ⟨xs, ys, h1, h2, h3, h4⟩ := h
    exact ⟨xs, ys, h1, h2, h3, newL_mono i h4⟩
theorem mulS_mono {mt : Bool} {x y : PV} {M : Sto} (h : mulS mt x y M Q) : mulS mt x y M Q' := by
  unfold mulS at h ⊢
  split at h
  · exact ⟨h.1, i _ _ h.2⟩
  · obtain ⟨h1, h2, h3, h4, h5⟩ := h
    exact ⟨h1, h2, h3, h4, i _ _ h5⟩
  · obtain ⟨xs, h1, h2, h3, h4, h5⟩ := h
    exact ⟨xs, h1, h2, h3, h4, newL_mono i h5⟩
  · exact h
theorem augS_mono {op : Op} {x y : PV} {M : Sto} (h : augS op x y M Q) : augS op x y M Q' := by
  cases op <;> cases x <;> cases y <;> first | exact h.elim | exact i _ _ h | exact ⟨h.1, i _ _ h.2⟩
theorem ixM_mono {x y : PV} {M : Sto} (h : ixM x y M Q) : ixM x y M Q' := by
  cases x <;> cases y <;> first | exact h.elim | exact let ⟨xs, v, h1, h2, h3, h4⟩ := h; ⟨xs, v, h1, h2, h3, i _ _ h4⟩
theorem binS_mono {op : Op} {x y : PV} {M : Sto} (h : binS op x y M Q) : binS op x y M Q' := by
  cases op with
  | add => exact addS_mono i h
  | addM => exact addS_mono i h
  | mul => exact mulS_mono i h
  | mulM => exact mulS_mono i h
  | sub => obtain ⟨a, b, h1, h2, h3⟩ := h; exact ⟨a, b, h1, h2, i _ _ h3⟩
  | fdiv => obtain ⟨a, b, h1, h2, h3, h4, h5⟩ := h; exact ⟨a, b, h1, h2, h3, h4, i _ _ h5⟩
  | mod => obtain ⟨a, b, h1, h2, h3, h4⟩ := h; exact ⟨a, b, h1, h2, h3, i _ _ h4⟩
  | pow => obtain ⟨a, b, h1, h2, h3, h4, h5, h6⟩ := h; exact ⟨a, b, h1, h2, h3, h4, h5, i _ _ h6⟩
theorem ordS_mono {op : Cp} {x y : PV} {M : Sto} (h : ordS op x y M Q) : ordS op x y M Q' := by
  unfold ordS at h ⊢
  split at h
  · exact i _ _ h
  · obtain ⟨e, ns, ms, h1, h2, q⟩ := h
    exact ⟨e, ns, ms, h1, h2, i _ _ q⟩
  · exact h
theorem isS_mono {neg : Bool} {x y : PV} {M : Sto} (h : isS neg x y M Q) : isS neg x y M Q' := by
  unfold isS at h ⊢
  split at h
  · exact i _ _ h
  · exact i _ _ h
  · exact h
theorem inS_mono {neg : Bool} {x y : PV} {M : Sto} (h : inS neg x y M Q) : inS neg x y M Q' := by
  obtain ⟨ys, h1, h2, q⟩ := h
  exact ⟨ys, h1, h2, i _ _ q⟩
theorem cmpS_mono {op : Cp} {x y : PV} {M : Sto} (h : cmpS op x y M Q) : cmpS op x y M Q' := by
  cases op with
  | eq => exact ⟨h.1, i _ _ h.2⟩
  | ne => exact ⟨h.1, i _ _ h.2⟩
  | lt => exact ordS_mono i (op := .lt) h
  | le => exact ordS_mono i (op := .le) h
  | gt => exact ordS_mono i (op := .gt) h
  | ge => exact ordS_mono i (op := .ge) h
  | is => exact isS_mono i (neg := false) h
  | isnot => exact isS_mono i (neg := true) h
  | isin => exact inS_mono i (neg := false) h
  | notin => exact inS_mono i (neg := true) h
theorem ixS_mono {x y : PV} {M : Sto} (h : ixS x y M Q) : ixS x y M Q' := by
  unfold ixS at h ⊢
  split at h
  · obtain ⟨h1, c, h2, h3⟩ := h
    exact ⟨h1, c, h2, i _ _ h3⟩
  · obtain ⟨xs, v, h1, h2, h3⟩ := h
    exact ⟨xs, v, h1, h2, i _ _ h3⟩
  · exact h
theorem slS_mono {x : PV} {l u : Option Int} {M : Sto} (h : slS x l u M Q) : slS x l u M Q' := by
  unfold slS at h ⊢
  split at h
  · exact i _ _ h
  · obtain ⟨xs, h1, h3⟩ := h
    exact ⟨xs, h1, i _ _ h3⟩
theorem one1_mono {f : PV → Sto → Q1 → Prop} (hf : ∀ v M, f v M Q → f v M Q') {vs : List PV} {M : Sto} (h : one1 f vs M Q) : one1 f vs M Q' := by
  unfold one1 at h ⊢
  split at h
  · exact hf _ _ h
  · exact h
theorem lenS_mono (v : PV) (M : Sto) (h : lenS v M Q) : lenS v M Q' := by
  unfold lenS at h ⊢
  split at h
  · exact ⟨h.1, i _ _ h.2⟩
  · obtain ⟨xs, h1, h2⟩ := h; exact ⟨xs, h1, i _ _ h2⟩
theorem bltS_mono {b : Bl} {vs : List PV} {M : Sto} (h : bltS b vs M Q) : bltS b vs M Q' := by
  cases b with
  | len => exact one1_mono i (lenS_mono i) h
  | abs => refine one1_mono i (fun v M h => ?_) h; unfold absS at h ⊢; split at h <;> first | exact i _ _ h | exact h
  | max =>
    have h : maxS vs M Q := h
    show maxS vs M Q'
    unfold maxS at h ⊢
    split at h
    · obtain ⟨a, b, h1, h2, h3⟩ := h; exact ⟨a, b, h1, h2, i _ _ h3⟩
    · obtain ⟨xs, n, ns, h1, h2, h3⟩ := h; exact ⟨xs, n, ns, h1, h2, i _ _ h3⟩
    · exact h
  | min =>
    have h : minS vs M Q := h
    show minS vs M Q'
    unfold minS at h ⊢
    split at h
    · obtain ⟨a, b, h1, h2, h3⟩ := h; exact ⟨a, b, h1, h2, i _ _ h3⟩
    · obtain ⟨xs, n, ns, h1, h2, h3⟩ := h; exact ⟨xs, n, ns, h1, h2, i _ _ h3⟩
    · exact h
  | sum => exact one1_mono i (fun v M ⟨xs, ns, h1, h2, h3⟩ => ⟨xs, ns, h1, h2, i _ _ h3⟩) h
  | all => exact one1_mono i (fun v M ⟨xs, ns, h1, h2, h3⟩ => ⟨xs, ns, h1, h2, i _ _ h3⟩) h
  | any => exact one1_mono i (fun v M ⟨xs, ns, h1, h2, h3⟩ => ⟨xs, ns, h1, h2, i _ _ h3⟩) h
  | int => refine one1_mono i (fun v M h => ?_) h; unfold intS at h ⊢; split at h <;> first | exact i _ _ h | exact h
  | str => refine one1_mono i (fun v M h => ?_) h; unfold strS at h ⊢; split at h <;> first | exact ⟨h.1, i _ _ h.2⟩ | exact i _ _ h | exact h
  | repr => exact one1_mono i (fun v M ⟨h1, h2⟩ => ⟨h1, i _ _ h2⟩) h
  | tuple => exact one1_mono i (fun v M ⟨xs, h1, h2⟩ => ⟨xs, h1, i _ _ h2⟩) h
  | list => exact one1_mono i (fun v M ⟨xs, h1, h2⟩ => ⟨xs, h1, i _ _ h2⟩) h
  | listM => exact one1_mono i (fun v M ⟨xs, h1, h2⟩ => ⟨xs, h1, newL_mono i h2⟩) h
  | sorted => exact h
  | sortedM => exact h
theorem mthS_mono {m : Mt} {x : PV} {vs : List PV} {M : Sto} (h : mthS m x vs M Q) : mthS m x vs M Q' := by
  unfold mthS at h ⊢
  split at h
  · obtain ⟨a, xs, h1, h2, h3, h4⟩ := h; exact ⟨a, xs, h1, h2, h3, i _ _ h4⟩
  · obtain ⟨a, xs, ys, h1, h2, h3, h4, h5⟩ := h; exact ⟨a, xs, ys, h1, h2, h3, h4, i _ _ h5⟩
  · obtain ⟨ys, j, h1, h2, h3, h4, h5, h6⟩ := h; exact ⟨ys, j, h1, h2, h3, h4, h5, i _ _ h6⟩
  · obtain ⟨ys, h1, h2, h3, h4, h6⟩ := h; exact ⟨ys, h1, h2, h3, h4, i _ _ h6⟩
  · obtain ⟨a, xs, k, h1, h2, h3, h4, h5, h6, h7⟩ := h; exact ⟨a, xs, k, h1, h2, h3, h4, h5, h6, i _ _ h7⟩
  · obtain ⟨a, xs, k, v, h1, h2, h3, h4, h5, h7⟩ := h; exact ⟨a, xs, k, v, h1, h2, h3, h4, h5, i _ _ h7⟩
  · exact h
end
theorem revS_mono {x : PV} {M : Sto} {Q Q' : Q1} (i : ∀ v M, Q v M → Q' v M) (h : revS x M Q) : revS x M Q' := by
  unfold revS at h ⊢
  split at h
  · exact i _ _ h
  · obtain ⟨xs, h1, h2⟩ := h; exact ⟨xs, h1, i _ _ h2⟩
theorem dsetS_mono {x y v : PV} {M : Sto} {Q Q' : Sto → Prop} (i : ∀ M, Q M → Q' M) (h : dsetS x y v M Q) : dsetS x y v M Q' := by
  cases x <;> first | exact h.elim | skip
  simp only [dsetS] at h ⊢
  split at h
  · exact ⟨h.1, h.2.1, fun t' => i _ (h.2.2 t')⟩
  · obtain ⟨n, h1, h2, h3⟩ := h
    exact ⟨n, h1, h2, fun t' => i _ (h3 t')⟩
  · exact h
theorem dlk_mono {d k : PV} {M : Sto} {P P' : Option PV → Prop} (i : ∀ o, P o → P' o) (h : dlk M d k P) : dlk M d k P' := by
  cases d <;> first | exact h.elim | skip
  unfold dlk at h ⊢
  simp only at h ⊢
  split at h
  · exact ⟨h.1, i _ h.2⟩
  · obtain ⟨n, h1, h2⟩ := h
    exact ⟨n, h1, i _ h2⟩
  · exact h
theorem setS_mono {x y z : PV} {M : Sto} {Q Q' : Sto → Prop} (i : ∀ M, Q M → Q' M) (h : setS x y z M Q) : setS x y z M Q' := by
  unfold setS at h ⊢
  split at h
  · obtain ⟨xs, j, h1, h2, h3⟩ := h; exact ⟨xs, j, h1, h2, i _ h3⟩
  · exact h
theorem walkS_mono {v : PV} {M : Sto} {Q Q' : QI} (i : ∀ xs k M, Q xs k M → Q' xs k M) (h : walkS v M Q) : walkS v M Q' := by
  unfold walkS at h ⊢
  split at h
  · exact i _ _ _ h
  · exact i _ _ _ h
  · obtain ⟨xs, h1, h2⟩ := h; exact ⟨xs, h1, i _ _ _ h2⟩
  · exact h
theorem zipS_mono {vs : List PV} {M : Sto} {Q Q' : QI} (i : ∀ xs k M, Q xs k M → Q' xs k M) (h : zipS vs M Q) : zipS vs M Q' := by
  unfold zipS at h ⊢
  split at h
  · obtain ⟨xs, ys, h1, h2, h3⟩ := h; exact ⟨xs, ys, h1, h2, i _ _ _ h3⟩
  · obtain ⟨xs, ys, zs, h1, h2, h3, h4⟩ := h; exact ⟨xs, ys, zs, h1, h2, h3, i _ _ _ h4⟩
  · exact h
theorem dcompL_mono {st : PV → Sto → (Option (PV × PV) → Sto → Prop) → Prop} {keep : Sto → Prop} (hs : ∀ x M, Mono1 (st x M)) : ∀ (xs : List PV) (acc : List (PV × PV)) (M : Sto) (Q Q' : List (PV × PV) → Sto → Prop), (∀ v M, Q v M → Q' v M) → dcompL st keep xs acc M Q → dcompL st keep xs acc M Q'
  | [], acc, M, Q, Q', i, h => i _ _ h
  | x :: r, acc, M, Q, Q', i, h => hs x M _ _ (fun o M' ⟨h1, h2⟩ => ⟨h1, dcompL_mono hs r _ M' Q Q' i h2⟩) h
theorem compL_mono {st : PV → Sto → (Option PV → Sto → Prop) → Prop} {keep : Sto → Prop} (hs : ∀ x M, Mono1 (st x M)) : ∀ (xs acc : List PV) (M : Sto) (Q Q' : List PV → Sto → Prop), (∀ v M, Q v M → Q' v M) → compL st keep xs acc M Q → compL st keep xs acc M Q'
  | [], acc, M, Q, Q', i, h => i _ _ h
  | x :: r, acc, M, Q, Q', i, h => hs x M _ _ (fun o M' ⟨h1, h2⟩ => ⟨h1, compL_mono hs r _ M' Q Q' i h2⟩) h
variable {F : FS} (hF : FMono F)
include hF
mutual
theorem wpE_mono : ∀ (e : E) (ρ : Rho) (M : Sto) (Q Q' : Q1), (∀ v M, Q v M → Q' v M) → wpE F e ρ M Q → wpE F e ρ M Q'
  | .var k, ρ, M, Q, Q', i, h => by obtain ⟨v, h1, h2⟩ := h; exact ⟨v, h1, i _ _ h2⟩
  | .cst v, ρ, M, Q, Q', i, h => i _ _ h
  | .srt mt a, ρ, M, Q, Q', i, h => wpE_mono a ρ M _ _ (fun _ _ ⟨xs, h1, h2, h3, h4, h5⟩ => ⟨xs, h1, h2, h3, h4, newL_mono i h5⟩) h
  | .knew, ρ, M, Q, Q', i, h => fun p t hp => i _ _ (h p t hp)
  | .klit es, ρ, M, Q, Q', i, h => wpL_mono es ρ M _ _ (fun us M1 ⟨kvs, h1, h2⟩ => ⟨kvs, h1, fun p t hp => i _ _ (h2 p t hp)⟩) h
  | .dnew, ρ, M, Q, Q', i, h => fun p t hp => i _ _ (h p t hp)
  | .dget o k x, ρ, M, Q, Q', i, h => wpE_mono o ρ M _ _ (fun _ _ ⟨h0, h⟩ => ⟨h0, wpE_mono k ρ _ _ _ (fun _ _ h => wpE_mono x ρ _ _ _ (fun _ _ h => dlk_mono (fun _ h => i _ _ h) h) h) h⟩) h
  | .dix o k, ρ, M, Q, Q', i, h => wpE_mono o ρ M _ _ (fun _ _ h => wpE_mono k ρ _ _ _ (fun _ _ h => dlk_mono (fun _ ⟨v, h1, h2⟩ => ⟨v, h1, i _ _ h2⟩) h) h) h
  | .ditems mt o, ρ, M, Q, Q', i, h => wpE_mono o ρ M _ _ (fun _ _ ⟨kvs, h1, h2, h3, h4, h5⟩ => ⟨kvs, h1, h2, h3, h4, newL_mono i h5⟩) h
  | .dcomp g it c k v, ρ, M, Q, Q', i, h => wpI_mono it ρ M _ _ (fun xs kp M1 ⟨h1, h2⟩ => ⟨h1, dcompL_mono (fun x M' Q1 Q2 j ⟨ρ', h3, h4⟩ => ⟨ρ', h3, wpC_mono c ρ' M' _ _ (fun b M2 h5 => by
      cases b with
      | true => exact wpE_mono k ρ' M2 _ _ (fun kv M3 h6 => wpE_mono v ρ' M3 _ _ (fun vv M4 ⟨h7, h8⟩ => ⟨h7, j _ _ h8⟩) h6) h5
      | false => exact j _ _ h5) h4⟩) xs [] M1 _ _ (fun acc M2 h9 p t hp => i _ _ (h9 p t hp)) h2⟩) h
  | .sset mt a, ρ, M, Q, Q', i, h => wpE_mono a ρ M _ _ (fun _ _ ⟨xs, h1, h2, h3, h4, h5⟩ => ⟨xs, h1, h2, h3, h4, fun ys hy => newL_mono i (h5 ys hy)⟩) h
  | .never, ρ, M, Q, Q', i, h => h
  | .bin op a b, ρ, M, Q, Q', i, h => wpE_mono a ρ M _ _ (fun _ _ h => wpE_mono b ρ _ _ _ (fun _ _ h => binS_mono i h) h) h
  | .neg a, ρ, M, Q, Q', i, h => wpE_mono a ρ M _ _ (fun _ _ ⟨j, h1, h2⟩ => ⟨j, h1, i _ _ h2⟩) h
  | .cmp op a b, ρ, M, Q, Q', i, h => wpE_mono a ρ M _ _ (fun _ _ h => wpE_mono b ρ _ _ _ (fun _ _ h => cmpS_mono i h) h) h
  | .chain op op' a b c, ρ, M, Q, Q', i, h => wpE_mono a ρ M _ _ (fun _ _ h => wpE_mono b ρ _ _ _ (fun _ _ h => cmpS_mono (fun z M3 ⟨k, h1, h2⟩ => ⟨k, h1, by
      cases k with
      | true => rw [if_pos rfl] at h2 ⊢; exact wpE_mono c ρ _ _ _ (fun _ _ h => cmpS_mono i h) h2
      | false => rw [if_neg Bool.false_ne_true] at h2 ⊢; exact i _ _ h2⟩) h) h) h
  | .and a b, ρ, M, Q, Q', i, h => wpE_mono a ρ M _ _ (fun x M1 ⟨k, h1, h2⟩ => ⟨k, h1, by
      cases k with
      | true => rw [if_pos rfl] at h2 ⊢; exact wpE_mono b ρ _ _ _ i h2
      | false => rw [if_neg Bool.false_ne_true] at h2 ⊢; exact i _ _ h2⟩) h
  | .or a b, ρ, M, Q, Q', i, h => wpE_mono a ρ M _ _ (fun x M1 ⟨k, h1, h2⟩ => ⟨k, h1, by
      cases k with
      | true => rw [if_pos rfl] at h2 ⊢; exact i _ _ h2
      | false => rw [if_neg Bool.false_ne_true] at h2 ⊢; exact wpE_mono b ρ _ _ _ i h2⟩) h
  | .not a, ρ, M, Q, Q', i, h => wpE_mono a ρ M _ _ (fun x M1 ⟨k, h1, h2⟩ => ⟨k, h1, i _ _ h2⟩) h
  | .ite c a b, ρ, M, Q, Q', i, h => wpE_mono c ρ M _ _ (fun x M1 ⟨k, h1, h2⟩ => ⟨k, h1, by
      cases k with
      | true => rw [if_pos rfl] at h2 ⊢; exact wpE_mono a ρ _ _ _ i h2
      | false => rw [if_neg Bool.false_ne_true] at h2 ⊢; exact wpE_mono b ρ _ _ _ i h2⟩) h
  | .tup es, ρ, M, Q, Q', i, h => wpL_mono es ρ M _ _ (fun _ _ h => i _ _ h) h
  | .lst mt es, ρ, M, Q, Q', i, h => wpL_mono es ρ M _ _ (fun _ _ h => newL_mono i h) h
  | .emp, ρ, M, Q, Q', i, h => i _ _ h
  | .ix a b, ρ, M, Q, Q', i, h => wpE_mono a ρ M _ _ (fun _ _ h => wpE_mono b ρ _ _ _ (fun _ _ h => ixS_mono i h) h) h
  | .sl a l u, ρ, M, Q, Q', i, h => wpE_mono a ρ M _ _ (fun _ _ h => wpO_mono l ρ _ _ _ (fun _ _ h => wpO_mono u ρ _ _ _ (fun _ _ h => slS_mono i h) h) h) h
  | .rev a, ρ, M, Q, Q', i, h => wpE_mono a ρ M _ _ (fun _ _ h => revS_mono i h) h
  | .call f es, ρ, M, Q, Q', i, h => wpL_mono es ρ M _ _ (fun vs M1 h => hF f vs M1 _ _ i h) h
  | .callv k es, ρ, M, Q, Q', i, h => by
    obtain ⟨f, h1, h2⟩ := h
    exact ⟨f, h1, wpL_mono es ρ M _ _ (fun vs M1 h => hF f vs M1 _ _ i h) h2⟩
  | .blt b es, ρ, M, Q, Q', i, h => wpL_mono es ρ M _ _ (fun vs M1 h => bltS_mono i h) h
  | .mth m o es, ρ, M, Q, Q', i, h => wpE_mono o ρ M _ _ (fun _ _ ⟨h1, h⟩ => ⟨h1, wpL_mono es ρ _ _ _ (fun vs M1 h => mthS_mono i h) h⟩) h
  | .isi a t, ρ, M, Q, Q', i, h => wpE_mono a ρ M _ _ (fun _ _ ⟨k, h1, h2⟩ => ⟨k, h1, i _ _ h2⟩) h
  | .comp mt g it c elt, ρ, M, Q, Q', i, h => wpI_mono it ρ M _ _ (fun xs k M1 ⟨h1, h2⟩ => ⟨h1, compL_mono (fun x M' Q1 Q2 j ⟨ρ', h3, h4⟩ => ⟨ρ', h3, wpC_mono c ρ' M' _ _ (fun b M2 h5 => by
      cases b with
      | true => rw [if_pos rfl] at h5 ⊢; exact wpE_mono elt ρ' M2 _ _ (fun v M3 h => j _ _ h) h5
      | false => rw [if_neg Bool.false_ne_true] at h5 ⊢; exact j _ _ h5) h4⟩) _ _ _ _ _ (fun acc M2 h => newL_mono i h) h2⟩) h
  | .lrange a b, ρ, M, Q, Q', i, h => wpE_mono a ρ M _ _ (fun _ _ h => wpE_mono b ρ _ _ _ (fun _ _ ⟨x, y, h1, h2, h3, h4, h5, h6, h7, h8⟩ => ⟨x, y, h1, h2, h3, h4, h5, h6, h7, i _ _ h8⟩) h) h
theorem wpL_mono : ∀ (es : List E) (ρ : Rho) (M : Sto) (Q Q' : List PV → Sto → Prop), (∀ v M, Q v M → Q' v M) → wpL F es ρ M Q → wpL F es ρ M Q'
  | [], ρ, M, Q, Q', i, h => i _ _ h
  | e :: r, ρ, M, Q, Q', i, h => wpE_mono e ρ M _ _ (fun v M1 h => wpL_mono r ρ M1 _ _ (fun vs M2 h => i _ _ h) h) h
theorem wpO_mono : ∀ (e : Option E) (ρ : Rho) (M : Sto) (Q Q' : Option Int → Sto → Prop), (∀ v M, Q v M → Q' v M) → wpO F e ρ M Q → wpO F e ρ M Q'
  | none, ρ, M, Q, Q', i, h => i _ _ h
  | some e, ρ, M, Q, Q', i, h => wpE_mono e ρ M _ _ (fun v M1 ⟨j, h1, h2⟩ => ⟨j, h1, i _ _ h2⟩) h
theorem wpC_mono : ∀ (e : Option E) (ρ : Rho) (M : Sto) (Q Q' : Bool → Sto → Prop), (∀ v M, Q v M → Q' v M) → wpC F e ρ M Q → wpC F e ρ M Q'
  | none, ρ, M, Q, Q', i, h => i _ _ h
  | some e, ρ, M, Q, Q', i, h => wpE_mono e ρ M _ _ (fun v M1 ⟨j, h1, h2⟩ => ⟨j, h1, i _ _ h2⟩) h
theorem wpI_mono : ∀ (it : It) (ρ : Rho) (M : Sto) (Q Q' : QI), (∀ xs k M, Q xs k M → Q' xs k M) → wpI F it ρ M Q → wpI F it ρ M Q'
  | .val e, ρ, M, Q, Q', i, h => wpE_mono e ρ M _ _ (fun v M1 h => walkS_mono i h) h
  | .rng e, ρ, M, Q, Q', i, h => wpE_mono e ρ M _ _ (fun v M1 ⟨j, h1, h2, h3, h4⟩ => ⟨j, h1, h2, h3, i _ _ _ h4⟩) h
  | .rng2 a b, ρ, M, Q, Q', i, h => wpE_mono a ρ M _ _ (fun v M1 h => wpE_mono b ρ M1 _ _ (fun w M2 ⟨x, y, h1, h2, h3, h4, h5, h6, h7⟩ => ⟨x, y, h1, h2, h3, h4, h5, h6, i _ _ _ h7⟩) h) h
  | .zip es, ρ, M, Q, Q', i, h => wpL_mono es ρ M _ _ (fun v M1 h => zipS_mono i h) h
  | .enm e, ρ, M, Q, Q', i, h => wpE_mono e ρ M _ _ (fun v M1 ⟨xs, h1, h2⟩ => ⟨xs, h1, i _ _ _ h2⟩) h
  | .dits e, ρ, M, Q, Q', i, h => wpE_mono e ρ M _ _ (fun v M1 ⟨a, kvs, h1, h2, h3⟩ => ⟨a, kvs, h1, h2, i _ _ _ h3⟩) h
  | .dkeys e, ρ, M, Q, Q', i, h => wpE_mono e ρ M _ _ (fun v M1 ⟨a, kvs, h1, h2, h3⟩ => ⟨a, kvs, h1, h2, i _ _ _ h3⟩) h
end
theorem wpL_len : ∀ (es : List E) (ρ : Rho) (M : Sto) (Q : List PV → Sto → Prop), wpL F es ρ M Q → wpL F es ρ M fun vs M' => vs.length = es.length ∧ Q vs M'
  | [], ρ, M, Q, h => ⟨rfl, h⟩
  | e :: r, ρ, M, Q, h => wpE_mono hF e ρ M _ _ (fun v M1 h => wpL_mono hF r ρ M1 _ _ (fun vs M2 ⟨h1, h2⟩ => ⟨by rw [List.length_cons, List.length_cons, h1], h2⟩) (wpL_len r ρ M1 _ h)) h
structure EMono (D D' : Ends) : Prop where
  nx : ∀ ρ M, D.nx ρ M → D'.nx ρ M
  rt : ∀ v M, D.rt v M → D'.rt v M
  bk : ∀ ρ M, D.bk ρ M → D'.bk ρ M
  ct : ∀ ρ M, D.ct ρ M → D'.ct ρ M
omit hF in
theorem forL_mono {t t' : PV → Rho → Sto → (Rho → Sto → Prop) → Prop} {keep : Sto → Prop} {d d' : Rho → Sto → Prop} (ht : ∀ x ρ M (Q Q' : Rho → Sto → Prop), (∀ ρ M, Q ρ M → Q' ρ M) → t x ρ M Q → t' x ρ M Q') (hd : ∀ ρ M, d ρ M → d' ρ M) :
    ∀ (xs : List PV) (ρ : Rho) (M : Sto), forL t keep d xs ρ M → forL t' keep d' xs ρ M
  | [], ρ, M, h => hd _ _ h
  | x :: r, ρ, M, h => ht x ρ M _ _ (fun ρ' M' ⟨h1, h2⟩ => ⟨h1, forL_mono ht hd r ρ' M' h2⟩) h
omit hF in
theorem whileN_mono {t t' : Rho → Sto → (Rho → Sto → Prop) → Prop} (ht : ∀ ρ M (Q Q' : Rho → Sto → Prop), (∀ ρ M, Q ρ M → Q' ρ M) → t ρ M Q → t' ρ M Q') : ∀ (n : Nat) (ρ : Rho) (M : Sto), whileN t n ρ M → whileN t' n ρ M
  | 0, ρ, M, h => h
  | n + 1, ρ, M, h => ht ρ M _ _ (fun ρ' M' h => whileN_mono ht n ρ' M' h) h
mutual
theorem wpS_mono : ∀ (s : S) (ρ : Rho) (M : Sto) (D D' : Ends), EMono D D' → wpS F s ρ M D → wpS F s ρ M D'
  | .expr e, ρ, M, D, D', i, h => wpE_mono hF e ρ M _ _ (fun _ _ h => i.nx _ _ h) h
  | .asg g e, ρ, M, D, D', i, h => wpE_mono hF e ρ M _ _ (fun _ _ ⟨ρ', h1, h2⟩ => ⟨ρ', h1, i.nx _ _ h2⟩) h
  | .par is es, ρ, M, D, D', i, h => wpL_mono hF es ρ M _ _ (fun _ _ h => i.nx _ _ h) h
  | .dset o k e, ρ, M, D, D', i, h => wpE_mono hF e ρ M _ _ (fun _ _ h => wpE_mono hF o ρ _ _ _ (fun _ _ h => wpE_mono hF k ρ _ _ _ (fun _ _ h => dsetS_mono (fun _ h => i.nx _ _ h) h) h) h) h
  | .six o k e, ρ, M, D, D', i, h => wpE_mono hF e ρ M _ _ (fun _ _ h => wpE_mono hF o ρ _ _ _ (fun _ _ h => wpE_mono hF k ρ _ _ _ (fun _ _ h => setS_mono (fun _ h => i.nx _ _ h) h) h) h) h
  | .aug k op e, ρ, M, D, D', i, h => by
    obtain ⟨x, h1, h2⟩ := h
    exact ⟨x, h1, wpE_mono hF e ρ M _ _ (fun _ _ h => augS_mono (fun _ _ h => i.nx _ _ h) h) h2⟩
  | .augx o k op e, ρ, M, D, D', i, h => wpE_mono hF o ρ M _ _ (fun _ _ h => wpE_mono hF k ρ _ _ _ (fun _ _ h => ixM_mono (fun _ _ h => wpE_mono hF e ρ _ _ _ (fun _ _ h => augS_mono (fun _ _ h => setS_mono (fun _ h => i.nx _ _ h) h) h) h) h) h) h
  | .ret e, ρ, M, D, D', i, h => wpE_mono hF e ρ M _ _ i.rt h
  | .ret0, ρ, M, D, D', i, h => i.rt _ _ h
  | .ite c a b, ρ, M, D, D', i, h => wpE_mono hF c ρ M _ _ (fun x M1 ⟨k, h1, h2⟩ => ⟨k, h1, by
      cases k with
      | true => rw [if_pos rfl] at h2 ⊢; exact wpSs_mono a ρ _ _ _ i h2
      | false => rw [if_neg Bool.false_ne_true] at h2 ⊢; exact wpSs_mono b ρ _ _ _ i h2⟩) h
  | .for_ g it body, ρ, M, D, D', i, h => wpI_mono hF it ρ M _ _ (fun xs k M1 h => forL_mono (fun x ρ M Q Q' j ⟨ρ', h1, h2⟩ => ⟨ρ', h1, wpSs_mono body ρ' M ⟨Q, D.rt, D.nx, Q⟩ ⟨Q', D'.rt, D'.nx, Q'⟩ ⟨j, i.rt, i.nx, j⟩ h2⟩) i.nx xs ρ M1 h) h
  | .while_ c body, ρ, M, D, D', i, h => by
    obtain ⟨n, h⟩ := h
    exact ⟨n, whileN_mono (fun ρ M Q Q' j h => wpE_mono hF c ρ M _ _ (fun x M2 ⟨b, h1, h2⟩ => ⟨b, h1, by
      cases b with
      | true => rw [if_pos rfl] at h2 ⊢; exact wpSs_mono body ρ _ ⟨Q, D.rt, D.nx, Q⟩ ⟨Q', D'.rt, D'.nx, Q'⟩ ⟨j, i.rt, i.nx, j⟩ h2
      | false => rw [if_neg Bool.false_ne_true] at h2 ⊢; exact i.nx _ _ h2⟩) h) n ρ M h⟩
  | .pass, ρ, M, D, D', i, h => i.nx _ _ h
  | .brk, ρ, M, D, D', i, h => i.bk _ _ h
  | .cont, ρ, M, D, D', i, h => i.ct _ _ h
  | .never, ρ, M, D, D', i, h => h
theorem wpSs_mono : ∀ (ss : List S) (ρ : Rho) (M : Sto) (D D' : Ends), EMono D D' → wpSs F ss ρ M D → wpSs F ss ρ M D'
  | [], ρ, M, D, D', i, h => i.nx _ _ h
  | s :: r, ρ, M, D, D', i, h => wpS_mono s ρ M { D with nx := fun ρ' M' => wpSs F r ρ' M' D } { D' with nx := fun ρ' M' => wpSs F r ρ' M' D' } ⟨fun ρ' M' h => wpSs_mono r ρ' M' D D' i h, i.rt, i.bk, i.ct⟩ h
end
end SG
namespace SG
open PySem PySem.Spec PyProof.Rows L2
section
variable {X : Cx} {ga : Str → Option Addr} {F : FS}

/-! ### zip, enumerate -/
theorem zipL_get : ∀ {xs ys : List PV} {i : Nat} {v : PV}, (zipL xs ys)[i]? = some v → ∃ x y, xs[i]? = some x ∧ ys[i]? = some y ∧ v = .tup [x, y]
  | x :: r, y :: t, 0, v, h => by
    have e : PV.tup [x, y] = v := by unfold zipL at h; simpa using h
    exact ⟨x, y, rfl, rfl, e.symm⟩
  | x :: r, y :: t, i + 1, v, h => by
    unfold zipL at h
    rw [List.getElem?_cons_succ] at h
    obtain ⟨a, b, h1, h2, h3⟩ := zipL_get h
    exact ⟨a, b, by simpa using h1, by simpa using h2, h3⟩
  | [], _, _, _, h => by unfold zipL at h; simp at h
  | _ :: _, [], _, _, h => by unfold zipL at h; simp at h
theorem zipL_len : ∀ {xs ys : List PV} {i : Nat}, (zipL xs ys).length ≤ i → xs.length ≤ i ∨ ys.length ≤ i
  | x :: r, y :: t, i, h => by
    unfold zipL at h
    rw [List.length_cons] at h
    rcases zipL_len (xs := r) (ys := t) (i := i - 1) (by omega) with q | q
    · left; rw [List.length_cons]; omega
    · right; rw [List.length_cons]; omega
  | [], _, _, _ => .inl (Nat.zero_le _)
  | _ :: _, [], _, _ => .inr (Nat.zero_le _)
theorem pair_rep {C : Ctx} {H : Hp} {M : Sto} {Z : Addr → Prop} {vs : List PV} {us : List V} {T : Addr} (r : SR C H M Z) (h : H T = none) (l : RepL C H M Z vs us) : Ext H M Z (upd H T (.tup us)) M Z ∧ SR C (upd H T (.tup us)) M Z ∧ Rep C (upd H T (.tup us)) M Z (.tup vs) (.ref T) :=
  ⟨Ext.new h, r.new h, .tup (.inl (.inl upd_same)) (RepL.mono r (Ext.new h) l)⟩
theorem src_keeps {C : Ctx} {H : Hp} {M : Sto} {Z : Addr → Prop} {v : PV} {x : V} {xs : List PV} (r : SR C H M Z) (h : Rep C H M Z v x) (e : srcS v = some xs) :
    ∃ b a us, x = .ref a ∧ RepL C H M Z xs us ∧ ∀ H' M' Z', Ext H M Z H' M' Z' → SqB b C.K H' a us := by
  cases v with
  | tup ys =>
    cases e
    obtain ⟨a, us, rfl, q, l⟩ := h.tup_inv
    exact ⟨true, a, us, rfl, l, fun H' M' Z' y => sqT_mono r y q⟩
  | lst ys =>
    cases e
    obtain ⟨a, us, rfl, l, k⟩ := lst_keeps r h
    exact ⟨false, a, us, rfl, l, fun H' M' Z' y => (k H' M' Z' y).sq⟩
  | _ => cases e
theorem zipL_len2 : ∀ {xs ys : List PV}, (zipL xs ys).length ≤ xs.length ∧ (zipL xs ys).length ≤ ys.length ∧ ((zipL xs ys).length = xs.length ∨ (zipL xs ys).length = ys.length)
  | x :: r, y :: t => by
    unfold zipL
    obtain ⟨a, b, c⟩ := zipL_len2 (xs := r) (ys := t)
    simp only [List.length_cons]
    omega
  | [], _ => by unfold zipL; simp
  | _ :: _, [] => by unfold zipL; simp
theorem itok_zipP {C : Ctx} {b1 b2 : Bool} {a b : Addr} {xs ys : List PV} {us ws : List V} {keep : Sto → Prop} {H1 : Hp} {M1 : Sto} {Z1 : Addr → Prop} (r1 : SR C H1 M1 Z1) (ka : ∀ H M Z, Ext H1 M1 Z1 H M Z → SqB b1 C.K H a us) (kb : ∀ H M Z, Ext H1 M1 Z1 H M Z → SqB b2 C.K H b ws) (la : RepL C H1 M1 Z1 xs us) (lb : RepL C H1 M1 Z1 ys ws) :
    ItOk C (ItzP b1 b2 C.K a b) (zipL xs ys) keep H1 M1 Z1 := by
  intro i H M Z x r _
  have ha' := ka H M Z x
  have hb' := kb H M Z x
  refine ⟨fun v hv => ?_, fun hi => ?_⟩
  · obtain ⟨p, q, h1, h2, rfl⟩ := zipL_get hv
    obtain ⟨u, hu, ru⟩ := (RepL.mono r1 x la).get h1
    obtain ⟨w, hw, rw'⟩ := (RepL.mono r1 x lb).get h2
    refine ⟨⟨us, ws, u, w, ha', hb', hu, hw⟩, fun y H' ⟨T, y1, y2, e1, e2, e3, f1, f2⟩ => ?_⟩
    have g1 := f1 us ha'
    have g2 := f2 ws hb'
    rw [hu] at g1; cases g1
    rw [hw] at g2; cases g2
    subst e1 e3
    exact pair_rep r e2 (.cons ru (.cons rw' .nil))
  · have l1 := la.length
    have l2 := lb.length
    obtain ⟨z1, z2, z3⟩ := zipL_len2 (xs := xs) (ys := ys)
    exact ⟨us, ws, ha', hb', by omega, by omega, by omega⟩
theorem pi_zp (hF : FMono F) {a b : Expr} {ea eb : E} {p pos tpos : Pos} {elts : List Expr} {kk : Nat} (hg : Gl X "zip") (hm : X.mg "zip" = none) (ha : PA X [a, b] (rdL (ctx X ga) F [ea, eb]))
    (hs : starEach [a, b] X.env = (false, eval a X.env) :: starEach [b] X.env) (hpl : (backTo pos (starEach [b] X.env)).any (·.1) = false) : PI X (.Tuple elts kk tpos) (.Call (.Name "zip" p) [a, b] [] pos) (rdI (ctx X ga) F (.zip [ea, eb])) :=
  PI.imp (pi_zipP hg hm ha hs hpl) fun σ H R ⟨ρ, M, Z, Q', r, e, h, c⟩ => by
    have h : wpL F [ea, eb] ρ M (fun vs M1 => zipS vs M1 Q') := h
    refine ⟨ρ, M, Z, _, r, e, wpL_len hF _ _ _ _ h, fun vs xs H1 M1 Z1 x1 r1 rvs h1 => ?_⟩
    obtain ⟨hl, h1⟩ := h1
    match vs, hl, rvs, h1 with
    | [v1, v2], _, rvs, ⟨us, ws, s1, s2, q⟩ =>
      obtain ⟨x, y, rfl, rx, ry⟩ := rvs.two
      obtain ⟨b1, a1, u1, rfl, l1, k1⟩ := src_keeps r1 rx s1
      obtain ⟨b2, a2, u2, rfl, l2, k2⟩ := src_keeps r1 ry s2
      exact ⟨b1, b2, a1, a2, u1, u2, rfl, k1 _ _ _ Ext.refl, k2 _ _ _ Ext.refl, c _ _ _ _ _ _ x1 r1 (itok_zipP r1 k1 k2 l1 l2) trivial q⟩
theorem zip3L_get : ∀ {xs ys zs : List PV} {i : Nat} {v : PV}, (zipL3 xs ys zs)[i]? = some v → ∃ x y z, xs[i]? = some x ∧ ys[i]? = some y ∧ zs[i]? = some z ∧ v = .tup [x, y, z]
  | x :: r, y :: t, z :: u, 0, v, h => by
    have e : PV.tup [x, y, z] = v := by unfold zipL3 at h; simpa using h
    exact ⟨x, y, z, rfl, rfl, rfl, e.symm⟩
  | x :: r, y :: t, z :: u, i + 1, v, h => by
    unfold zipL3 at h
    rw [List.getElem?_cons_succ] at h
    obtain ⟨a, b, c, h1, h2, h3, h4⟩ := zip3L_get h
    exact ⟨a, b, c, by simpa using h1, by simpa using h2, by simpa using h3, h4⟩
  | [], _, _, _, _, h => by unfold zipL3 at h; simp at h
  | _ :: _, [], _, _, _, h => by unfold zipL3 at h; simp at h
  | _ :: _, _ :: _, [], _, _, h => by unfold zipL3 at h; simp at h
theorem zip3L_len : ∀ {xs ys zs : List PV}, (zipL3 xs ys zs).length ≤ xs.length ∧ (zipL3 xs ys zs).length ≤ ys.length ∧ (zipL3 xs ys zs).length ≤ zs.length ∧ ((zipL3 xs ys zs).length = xs.length ∨ (zipL3 xs ys zs).length = ys.length ∨ (zipL3 xs ys zs).length = zs.length)
  | x :: r, y :: t, z :: u => by
    unfold zipL3
    obtain ⟨a, b, c, d⟩ := zip3L_len (xs := r) (ys := t) (zs := u)
    simp only [List.length_cons]
    omega
  | [], _, _ => by unfold zipL3; simp
  | _ :: _, [], _ => by unfold zipL3; simp
  | _ :: _, _ :: _, [] => by unfold zipL3; simp
theorem enmL_get : ∀ {xs : List PV} {k i : Nat} {v : PV}, (enmL k xs)[i]? = some v → ∃ x, xs[i]? = some x ∧ v = .tup [.int ((k + i : Nat) : Int), x]
  | x :: r, k, 0, v, h => by
    have e : PV.tup [.int (k : Int), x] = v := by unfold enmL at h; simpa using h
    exact ⟨x, rfl, by rw [← e, Nat.add_zero]⟩
  | x :: r, k, i + 1, v, h => by
    unfold enmL at h
    rw [List.getElem?_cons_succ] at h
    obtain ⟨a, h1, h3⟩ := enmL_get h
    exact ⟨a, by simpa using h1, by rw [h3, show k + 1 + i = k + (i + 1) by omega]⟩
  | [], _, _, _, h => by unfold enmL at h; simp at h
theorem enmL_len : ∀ {xs : List PV} {k : Nat}, (enmL k xs).length = xs.length
  | [], _ => rfl
  | x :: r, k => by unfold enmL; rw [List.length_cons, List.length_cons, enmL_len]
theorem itok_enm {C : Ctx} {a : Addr} {xs : List PV} {us : List V} {keep : Sto → Prop} {H1 : Hp} {M1 : Sto} {Z1 : Addr → Prop} (r1 : SR C H1 M1 Z1) (ka : ∀ H M Z, Ext H1 M1 Z1 H M Z → LQ C.K H a us) (la : RepL C H1 M1 Z1 xs us) :
    ItOk C (Ite C.K a) (enmL 0 xs) keep H1 M1 Z1 := by
  intro i H M Z x r _
  have ha' := (ka H M Z x).sq
  refine ⟨fun v hv => ?_, fun hi => ⟨us, ha', by rw [← la.length, ← enmL_len (k := 0)]; exact Nat.le_of_eq hi⟩⟩
  obtain ⟨p, h1, rfl⟩ := enmL_get hv
  obtain ⟨u, hu, ru⟩ := (RepL.mono r1 x la).get h1
  refine ⟨⟨us, u, ha', hu⟩, fun y H' ⟨T, y1, e1, e2, e3, f1⟩ => ?_⟩
  have g1 := f1 us ha'
  rw [hu] at g1; cases g1
  subst e1 e3
  rw [Nat.zero_add]
  exact pair_rep r e2 (.cons (.int _) (.cons ru .nil))
theorem itok_enmT {C : Ctx} {a : Addr} {xs : List PV} {us : List V} {keep : Sto → Prop} {H1 : Hp} {M1 : Sto} {Z1 : Addr → Prop} (r1 : SR C H1 M1 Z1) (ha : SqT C.K H1 a us) (la : RepL C H1 M1 Z1 xs us) :
    ItOk C (IteT C.K a) (enmL 0 xs) keep H1 M1 Z1 := by
  intro i H M Z x r _
  have ha' := sqT_mono r1 x ha
  refine ⟨fun v hv => ?_, fun hi => ⟨us, ha', by rw [← la.length, ← enmL_len (k := 0)]; exact hi.symm⟩⟩
  obtain ⟨p, h1, rfl⟩ := enmL_get hv
  obtain ⟨u, hu, ru⟩ := (RepL.mono r1 x la).get h1
  refine ⟨⟨us, u, ha', hu⟩, fun y H' ⟨T, y1, e1, e2, e3, f1⟩ => ?_⟩
  have g1 := f1 us ha'
  rw [hu] at g1; cases g1
  subst e1 e3
  rw [Nat.zero_add]
  exact pair_rep r e2 (.cons (.int _) (.cons ru .nil))
theorem pi_enm {a : Expr} {ea : E} {p pos tpos : Pos} {elts : List Expr} {kk : Nat} (hg : Gl X "enumerate") (hm : X.mg "enumerate" = none) (ha : PE X a (rd (ctx X ga) F ea)) (hs : starEach [a] X.env = [(false, eval a X.env)]) :
    PI X (.Tuple elts kk tpos) (.Call (.Name "enumerate" p) [a] [] pos) (rdI (ctx X ga) F (.enm ea)) :=
  PI.imp (pi_enumA hg hm (pa_cons ha pa_nil hs) hs) fun σ H R ⟨ρ, M, Z, Q', r, e, h, c⟩ => by
    refine ⟨ρ, M, Z, _, r, e, h, fun v x H1 M1 Z1 x1 r1 rv ⟨xs, h1, q⟩ => ?_⟩
    rcases h1 with rfl | rfl
    · obtain ⟨a1, v1, rfl, l1, k1⟩ := lst_keeps r1 rv
      exact ⟨a1, v1, rfl, .inl ⟨(k1 _ _ _ Ext.refl).sq, c _ _ _ _ _ _ x1 r1 (itok_enm r1 k1 l1) trivial q⟩⟩
    · obtain ⟨a1, v1, rfl, q1, l1⟩ := rv.tup_inv
      exact ⟨a1, v1, rfl, .inr ⟨q1, c _ _ _ _ _ _ x1 r1 (itok_enmT r1 q1 l1) trivial q⟩⟩
theorem itok_zipQ {C : Ctx} {b1 b2 b3 : Bool} {a b d : Addr} {xs ys zs : List PV} {us ws ts : List V} {keep : Sto → Prop} {H1 : Hp} {M1 : Sto} {Z1 : Addr → Prop} (r1 : SR C H1 M1 Z1) (ka : ∀ H M Z, Ext H1 M1 Z1 H M Z → SqB b1 C.K H a us) (kb : ∀ H M Z, Ext H1 M1 Z1 H M Z → SqB b2 C.K H b ws) (kd : ∀ H M Z, Ext H1 M1 Z1 H M Z → SqB b3 C.K H d ts) (la : RepL C H1 M1 Z1 xs us) (lb : RepL C H1 M1 Z1 ys ws) (ld : RepL C H1 M1 Z1 zs ts) :
    ItOk C (ItzQ b1 b2 b3 C.K a b d) (zipL3 xs ys zs) keep H1 M1 Z1 := by
  intro i H M Z x r _
  have ha' := ka H M Z x
  have hb' := kb H M Z x
  have hd' := kd H M Z x
  refine ⟨fun v hv => ?_, fun hi => ?_⟩
  · obtain ⟨p, q, s, h1, h2, h3, rfl⟩ := zip3L_get hv
    obtain ⟨u, hu, ru⟩ := (RepL.mono r1 x la).get h1
    obtain ⟨w, hw, rw'⟩ := (RepL.mono r1 x lb).get h2
    obtain ⟨t, ht, rt⟩ := (RepL.mono r1 x ld).get h3
    refine ⟨⟨us, ws, ts, u, w, t, ha', hb', hd', hu, hw, ht⟩, fun y H' ⟨T, y1, y2, y3, e1, e2, e3, f1, f2, f3⟩ => ?_⟩
    have g1 := f1 us ha'
    have g2 := f2 ws hb'
    have g3 := f3 ts hd'
    rw [hu] at g1; cases g1
    rw [hw] at g2; cases g2
    rw [ht] at g3; cases g3
    subst e1 e3
    exact pair_rep r e2 (.cons ru (.cons rw' (.cons rt .nil)))
  · have l1 := la.length
    have l2 := lb.length
    have l3 := ld.length
    obtain ⟨z1, z2, z3, z4⟩ := zip3L_len (xs := xs) (ys := ys) (zs := zs)
    exact ⟨us, ws, ts, ha', hb', hd', by omega, by omega, by omega, by omega⟩
theorem pi_zp3 (hF : FMono F) {a b d : Expr} {ea eb ed : E} {p pos tpos : Pos} {elts : List Expr} {kk : Nat} (hg : Gl X "zip") (hm : X.mg "zip" = none) (ha : PA X [a, b, d] (rdL (ctx X ga) F [ea, eb, ed]))
    (hs : starEach [a, b, d] X.env = (false, eval a X.env) :: starEach [b, d] X.env) (hpl : (backTo pos (starEach [b, d] X.env)).any (·.1) = false) : PI X (.Tuple elts kk tpos) (.Call (.Name "zip" p) [a, b, d] [] pos) (rdI (ctx X ga) F (.zip [ea, eb, ed])) :=
  PI.imp (pi_zipQ hg hm ha hs hpl) fun σ H R ⟨ρ, M, Z, Q', r, e, h, c⟩ => by
    have h : wpL F [ea, eb, ed] ρ M (fun vs M1 => zipS vs M1 Q') := h
    refine ⟨ρ, M, Z, _, r, e, wpL_len hF _ _ _ _ h, fun vs xs H1 M1 Z1 x1 r1 rvs h1 => ?_⟩
    obtain ⟨hl, h1⟩ := h1
    match vs, hl, rvs, h1 with
    | [v1, v2, v3], _, .cons rx (.cons ry (.cons rz .nil)), ⟨us, ws, ts, s1, s2, s3, q⟩ =>
      obtain ⟨b1, a1, u1, rfl, l1, k1⟩ := src_keeps r1 rx s1
      obtain ⟨b2, a2, u2, rfl, l2, k2⟩ := src_keeps r1 ry s2
      obtain ⟨b3, a3, u3, rfl, l3, k3⟩ := src_keeps r1 rz s3
      exact ⟨b1, b2, b3, a1, a2, a3, u1, u2, u3, rfl, k1 _ _ _ Ext.refl, k2 _ _ _ Ext.refl, k3 _ _ _ Ext.refl, c _ _ _ _ _ _ x1 r1 (itok_zipQ r1 k1 k2 k3 l1 l2 l3) trivial q⟩
/-- x[::-1] -/
theorem ps_rev {a : Expr} {ea : E} {k : Nat} {p1 p2 p3 pos : Pos} (ha : PE X a (rd (ctx X ga) F ea)) : PE X (.Subscript a (.Slice none none (some (.UnaryOp .USub (.Constant (.int 1) k p1) p2)) p3) pos) (rd (ctx X ga) F (.rev ea)) :=
  PE.imp (pe_revA ha) fun σ H Q ⟨ρ, M, Z, Q', r, e, h, c⟩ => by
    refine ⟨ρ, M, Z, _, r, e, h, fun v x H1 M1 Z1 x1 r1 rv h1 => ?_⟩
    have c1 : Clo (ctx X ga) H1 M1 Z1 Q' Q := fun v x H2 M2 Z2 x2 r2 rv h2 => c _ _ _ _ _ (x1.trans x2) r2 rv h2
    have lists : (∃ xs, lo M1 v = some xs ∧ Q' (.lst xs.reverse) M1) → ∃ a xs, x = .ref a ∧ ((SqL X.K H1 a xs ∧ ∀ p, H1 p = none → Q (.ref p) (upd H1 p (.lst xs.reverse))) ∨ (SqT X.K H1 a xs ∧ ∀ p, H1 p = none → Q (.ref p) (upd H1 p (.tup xs.reverse)))) := by
      rintro ⟨xs, h1, q⟩
      obtain ⟨p, vs, rfl, hq, l⟩ := rv.lo_inv r1 h1
      exact ⟨p, vs, rfl, .inl ⟨hq.sq, fun p2 hp => c1.newL (mt := false) r1 l.reverse q hp⟩⟩
    cases v with
    | tup ys =>
      obtain ⟨p, vs, rfl, hq, l⟩ := rv.tup_inv
      exact ⟨p, vs, rfl, .inr ⟨hq, fun p2 hp => c1.newT r1 l.reverse h1 hp⟩⟩
    | _ => exact lists h1

/-! ### targets -/
mutual
/-- the slots of a target -/
def Tg.ixs : Tg → List Nat
  | .nm i => [i]
  | .tp gs => Tg.ixsL gs
def Tg.ixsL : List Tg → List Nat
  | [] => []
  | g :: gs => Tg.ixs g ++ Tg.ixsL gs
end
/-- names that may be stored to -/
def Sto1 (X : Cx) (x : Str) : Prop := Loc X.env.scope x ∧ (X.fn x = true ∨ X.env.scope.names.lookup x = some .local)
theorem PG.imp {tg : Expr} {t t' : TG} (h : PG X tg t) (i : ∀ x σ H Q, t' x σ H Q → t x σ H Q) : PG X tg t' := ⟨fun pins s σ H v u Q I r q => h.run pins s σ H v u Q I r (i _ _ _ _ q)⟩
theorem PGs.imp {tg : List Expr} {t t' : TGs} (h : PGs X tg t) (i : ∀ x σ H Q, t' x σ H Q → t x σ H Q) : PGs X tg t' := ⟨fun pins s σ H v u Q I r q => h.run pins s σ H v u Q I r (i _ _ _ _ q)⟩
/-- the slots outside of vs -/
structure EnvX (C : Ctx) (H : Hp) (M : Sto) (Z : Addr → Prop) (vs : List Nat) (ρ : Rho) (σ : L2.St) : Prop where
  len : ρ.length = σ.length
  get : ∀ (i : Nat) (v : PV), i ∉ vs → ρ[i]? = some (some v) → ∃ x, σ[i]? = some (some x) ∧ Rep C H M Z v x
theorem EnvR.x {C : Ctx} {H : Hp} {M : Sto} {Z : Addr → Prop} {vs : List Nat} {ρ : Rho} {σ : L2.St} (e : EnvR C H M Z ρ σ) : EnvX C H M Z vs ρ σ := ⟨e.len, fun i v _ h => e.get i v h⟩
theorem EnvX.r {C : Ctx} {H : Hp} {M : Sto} {Z : Addr → Prop} {ρ : Rho} {σ : L2.St} (e : EnvX C H M Z [] ρ σ) : EnvR C H M Z ρ σ := ⟨e.len, fun i v h => e.get i v (by simp) h⟩
theorem EnvR.wiped {C : Ctx} {H : Hp} {M : Sto} {Z : Addr → Prop} {ρ : Rho} {σ : L2.St} {vs : List Nat} (e : EnvR C H M Z ρ σ) : EnvX C H M Z vs ρ (wipe σ vs) :=
  ⟨by rw [wipe_length]; exact e.len, fun i v hi h => by rw [wipe_out hi]; exact e.get i v h⟩
theorem EnvX.set {C : Ctx} {H : Hp} {M : Sto} {Z : Addr → Prop} {vs : List Nat} {i : Nat} {ρ : Rho} {σ : L2.St} (e : EnvX C H M Z (i :: vs) ρ σ) {v : PV} {u : V} (r : Rep C H M Z v u) : EnvX C H M Z vs (ρ.set i (some v)) (σ.set i (some u)) := by
  refine ⟨by simp [e.len], fun j w hj h => ?_⟩
  by_cases q : j = i
  · subst q
    by_cases hj : j < ρ.length
    · rw [List.getElem?_set_self hj] at h
      cases h
      exact ⟨u, List.getElem?_set_self (by rw [← e.len]; exact hj), r⟩
    · rw [List.getElem?_eq_none (by simpa using hj)] at h; cases h
  · rw [List.getElem?_set_ne (Ne.symm q)] at h ⊢
    exact e.get j w (by simp [q, hj]) h
theorem wset (σ : L2.St) (i : Nat) (y : V) : ∀ (vs : List Nat), i ∈ vs → wipe (σ.set i (some y)) vs = wipe σ vs := by
    intro vs
    induction vs with
    | nil => intro h; cases h
    | cons w ws ih =>
      intro h
      unfold wipe
      by_cases hw : i ∈ ws
      · rw [ih hw]
      · have ew : i = w := by
          rcases List.mem_cons.mp h with z | z
          · exact z
          · exact (hw z).elim
        subst ew
        have c : ∀ ws : List Nat, i ∉ ws → wipe (σ.set i (some y)) ws = (wipe σ ws).set i (some y) := by
          intro ws
          induction ws with
          | nil => intro _; rfl
          | cons z zs ih2 =>
            intro hn
            unfold wipe
            rw [ih2 (fun q => hn (List.mem_cons_of_mem _ q)), List.set_comm _ _ (fun q => hn (by rw [q]; exact List.mem_cons_self))]
        rw [c ws hw, List.set_set]
/-- the target's reading, slots of rest not yet told -/
def gT' (C : Ctx) (g : Tg) (rest : List Nat) : TG := fun x σ H Q => ∃ M Z v ρ ρ', SR C H M Z ∧ Rep C H M Z v x ∧ EnvX C H M Z (g.ixs ++ rest) ρ σ ∧ bindT M g v ρ = some ρ' ∧
  ∀ σ', EnvX C H M Z rest ρ' σ' → (∀ vs : List Nat, (∀ i ∈ g.ixs, i ∈ vs) → wipe σ' vs = wipe σ vs) → Q σ' H
def gTs' (C : Ctx) (gs : List Tg) (rest : List Nat) : TGs := fun xs σ H Q => ∃ M Z vs ρ ρ', SR C H M Z ∧ RepL C H M Z vs xs ∧ EnvX C H M Z (Tg.ixsL gs ++ rest) ρ σ ∧ bindTs M gs vs ρ = some ρ' ∧
  ∀ σ', EnvX C H M Z rest ρ' σ' → (∀ vs : List Nat, (∀ i ∈ Tg.ixsL gs, i ∈ vs) → wipe σ' vs = wipe σ vs) → Q σ' H
def gT (C : Ctx) (g : Tg) : TG := gT' C g []
theorem pg_nm' {x : Str} {p : Pos} {i : Nat} (rest : List Nat) (hN : X.N.Nodup) (h1 : X.N[i]? = some x) (h2 : Sto1 X x) : PG X (.Name x p) (gT' (ctx X ga) (.nm i) rest) :=
  PG.imp (pg_name hN h1 h2.1 h2.2) fun x σ H Q ⟨M, Z, v, ρ, ρ', r, rv, e, hb, q⟩ => by
    unfold bindT at hb
    have h' : ρ.set i (some v) = ρ' := Option.some.inj hb
    subst h'
    unfold Tg.ixs at e q
    exact q _ (EnvX.set (i := i) (vs := rest) e rv) fun vs hv => wset _ _ _ _ (hv i (by simp))
theorem pgs_nil' (rest : List Nat) : PGs X [] (gTs' (ctx X ga) [] rest) :=
  PGs.imp pgs_nil fun xs σ H Q ⟨M, Z, vs, ρ, ρ', r, rv, e, hb, q⟩ => by
    unfold bindTs at hb
    cases rv with
    | nil =>
      have h' : ρ = ρ' := Option.some.inj hb
      subst h'
      unfold Tg.ixsL at e q
      exact ⟨rfl, q σ e fun _ _ => rfl⟩
    | cons _ _ => cases hb
theorem pgs_cons' {t : Expr} {ts : List Expr} {g : Tg} {gs : List Tg} {rest : List Nat} (h1 : PG X t (gT' (ctx X ga) g (Tg.ixsL gs ++ rest))) (h2 : PGs X ts (gTs' (ctx X ga) gs rest))
    (hs : (assignEach (t :: ts) X.env).map (·.2) = assign t X.env :: (assignEach ts X.env).map (·.2)) : PGs X (t :: ts) (gTs' (ctx X ga) (g :: gs) rest) :=
  PGs.imp (pgs_cons h1 h2 hs) fun xs σ H Q ⟨M, Z, vs, ρ, ρ', r, rv, e, hb, q⟩ => by
    unfold bindTs at hb
    unfold Tg.ixsL at e q
    cases rv with
    | nil => cases hb
    | @cons v x vr xr ra rb =>
      have hb : (match bindT M g v ρ with
        | some ρ' => bindTs M gs vr ρ'
        | none => none) = some ρ' := hb
      cases e1 : bindT M g v ρ with
      | none => rw [e1] at hb; cases hb
      | some ρ1 =>
        rw [e1] at hb
        refine ⟨x, xr, rfl, M, Z, v, ρ, ρ1, r, ra, by rw [← List.append_assoc]; exact e, e1, fun σ1 x1 w1 => ?_⟩
        refine ⟨M, Z, vr, ρ1, ρ', r, rb, x1, hb, fun σ2 x2 w2 => ?_⟩
        exact q σ2 x2 fun vs hv => (w2 vs fun i hi => hv i (List.mem_append_right _ hi)).trans (w1 vs fun i hi => hv i (List.mem_append_left _ hi))
theorem pg_tp' {es : List Expr} {gs : List Tg} {rest : List Nat} {k : Nat} {pos : Pos} (hc : X.calm = true) (h : PGs X es (gTs' (ctx X ga) gs rest)) (hl : (assignEach es X.env).length = gs.length) (hst : (assignEach es X.env).findIdx? (·.1) = none) :
    PG X (.Tuple es k pos) (gT' (ctx X ga) (.tp gs) rest) :=
  PG.imp (pg_seq hc h hl hst) fun x σ H Q ⟨M, Z, v, ρ, ρ', r, rv, e, hb, q⟩ => by
    unfold bindT at hb
    unfold Tg.ixs at e q
    have len : ∀ {gs : List Tg} {vs : List PV} {ρ ρ' : Rho}, bindTs M gs vs ρ = some ρ' → vs.length = gs.length := by
      intro gs
      induction gs with
      | nil => intro vs ρ ρ' h; unfold bindTs at h; cases vs with | nil => rfl | cons _ _ => cases h
      | cons g gs ih =>
        intro vs ρ ρ' h
        unfold bindTs at h
        cases vs with
        | nil => cases h
        | cons v vr =>
          have h : (match bindT M g v ρ with
            | some ρ' => bindTs M gs vr ρ'
            | none => none) = some ρ' := h
          cases e1 : bindT M g v ρ with
          | none => rw [e1] at h; cases h
          | some ρ1 => rw [e1] at h; rw [List.length_cons, List.length_cons, ih h]
    cases hv : so M v with
    | none => rw [hv] at hb; cases hb
    | some vs =>
      rw [hv] at hb
      obtain ⟨p, xs, rfl, hq, l⟩ := rv.so_inv r hv
      have hb : bindTs M gs vs ρ = some ρ' := hb
      exact ⟨p, xs, rfl, hq.symm, by rw [← l.length, len hb], M, Z, vs, ρ, ρ', r, l, e, hb, q⟩
/-- a target bound in the small language, and the slots -/
theorem gT_of {C : Ctx} {g : Tg} {H : Hp} {M : Sto} {Z : Addr → Prop} {ρ ρ' : Rho} {σ : L2.St} {v : PV} {x : V} {Q : L2.St → Hp → Prop} (r : SR C H M Z) (e : EnvX C H M Z g.ixs ρ σ) (rv : Rep C H M Z v x) (h : bindT M g v ρ = some ρ')
    (q : ∀ σ', EnvR C H M Z ρ' σ' → (∀ vs : List Nat, (∀ i ∈ g.ixs, i ∈ vs) → wipe σ' vs = wipe σ vs) → Q σ' H) : gT C g x σ H Q :=
  ⟨M, Z, v, ρ, ρ', r, rv, by rw [List.append_nil]; exact e, h, fun σ' e' => q σ' e'.r⟩

/-! ### comprehensions -/
def rdC (C : Ctx) (F : FS) (c : Option E) : TT := fun σ H Q => ∃ ρ M Z Q', SR C H M Z ∧ EnvR C H M Z ρ σ ∧ wpC F c ρ M Q' ∧ CloB C H M Z Q' Q
theorem pts_no : PTs X [] (rdC (ctx X ga) F none) := ⟨fun pins s σ H Q I ⟨ρ, M, Z, Q', r, e, h, c⟩ => pts_nil.run pins s σ H Q I (c true H M Z Ext.refl r h)⟩
theorem pts_so {t : Expr} {et : E} (ht : PT X t (rdT (ctx X ga) F et)) : PTs X [t] (rdC (ctx X ga) F (some et)) := ⟨fun pins s σ H Q I ⟨ρ, M, Z, Q', r, e, h, c⟩ => (pts_one ht).run pins s σ H Q I ⟨ρ, M, Z, Q', r, e, h, c⟩⟩
theorem wipe_in {i : Nat} (τ : L2.St) : ∀ {vs : List Nat}, i ∈ vs → (wipe τ vs)[i]? = if i < τ.length then some none else none
  | [], h => by cases h
  | v :: vs, h => by
    unfold wipe
    by_cases e : v = i
    · subst e
      by_cases hl : v < τ.length
      · rw [List.getElem?_set_self (by rw [wipe_length]; exact hl), if_pos hl]
      · rw [if_neg hl, List.getElem?_eq_none]
        rw [List.length_set, wipe_length]; omega
    · rw [List.getElem?_set_ne e]
      refine wipe_in τ ?_
      rcases List.mem_cons.mp h with z | z
      · exact (e z.symm).elim
      · exact z
theorem wipe_wipe (σ : L2.St) (vs : List Nat) : wipe (wipe σ vs) vs = wipe σ vs := by
  apply List.ext_getElem?
  intro i
  by_cases hi : i ∈ vs
  · rw [wipe_in _ hi, wipe_in _ hi, wipe_length]
  · rw [wipe_out hi]

/-- what holds between two turns -/
def CompW (C : Ctx) (step : PV → Sto → (Option PV → Sto → Prop) → Prop) (keep : Sto → Prop) (Qc : List PV → Sto → Prop) (items : List PV) (σ : L2.St) (ρ : Rho) (H1 : Hp) (M1 : Sto) (Z1 : Addr → Prop) (D : Addr) (i m : Nat) (H : Hp) : Prop :=
  ∃ M Z acc accV, SR C H M Z ∧ Ext H1 M1 Z1 H M Z ∧ EnvR C H M Z ρ σ ∧ H D = some (.lst accV) ∧ RepL C H M Z acc accV ∧ ¬ Z D ∧ M D = none ∧ keep M ∧ i + m = items.length ∧ acc.length ≤ i ∧ compL step keep (items.drop i) acc M Qc
theorem ps_comp {mt : Bool} {g : Tg} {it : It} {oc : Option E} {ee : E} {elt tg iter : Expr} {ifs : List Expr} {scope : Scope} {own : List (Str × Nat)} {pos : Pos} (hc : X.calm = true) (hN : X.N.Nodup) (hi : PI X tg iter (rdI (ctx X ga) F it)) (ok : BlkOk X.N X.env.scope scope own) (hown : own.map (·.2) = g.ixs)
    (hg : ∀ (s : Shared) (H : Hp) (C : Addr) (cl : List (Str × Addr)) (fp : List Addr), PG (X.blk s H scope (compEnvC scope cl C X.env) fp) tg (gT (ctx X ga) g))
    (ht : ∀ (s : Shared) (H : Hp) (C : Addr) (cl : List (Str × Addr)) (fp : List Addr), PTs (X.blk s H scope (compEnvC scope cl C X.env) fp) ifs (rdC (ctx X ga) F oc))
    (he : ∀ (s : Shared) (H : Hp) (C : Addr) (cl : List (Str × Addr)) (fp : List Addr), PE (X.blk s H scope (compEnvC scope cl C X.env) fp) elt (rd (ctx X ga) F ee)) (hs : ∀ x, foldedSetIterable iter X.env x = pure x) :
    PE X (.ListComp elt [⟨tg, iter, ifs, 0⟩] scope pos) (tLc (rdI (ctx X ga) F it) (gT (ctx X ga) g) (rdC (ctx X ga) F oc) (rd (ctx X ga) F ee) (own.map (·.2))) :=
  pe_lc hc hN hi ok hg ht he hs
/-- the reading -/
theorem rd_comp {mt : Bool} {g : Tg} {it : It} {oc : Option E} {ee : E} {vs : List Nat} (hv : vs = g.ixs) {σ : L2.St} {H : Hp} {Q : VK} (h : rd (ctx X ga) F (.comp mt g it oc ee) σ H Q) : tLc (rdI (ctx X ga) F it) (gT (ctx X ga) g) (rdC (ctx X ga) F oc) (rd (ctx X ga) F ee) vs σ H Q := by
  obtain ⟨ρ, M, Z, Q', r, e, h, c⟩ := h
  subst hv
  refine ⟨ρ, M, Z, _, r, e, h, fun J H1 M1 Z1 items keep x1 r1 iok k1 ⟨hz, h1⟩ D hD => ?_⟩
  have e1 := e.mono r x1
  refine ⟨CompW (ctx X ga) _ keep _ items σ ρ H1 M1 Z1 D, ⟨items.length, M1, Z1, [], [], r1.new hD, Ext.new hD, e1.mono r1 (Ext.new hD), upd_same, .nil, r1.nz hD, r1.fresh hD, k1, Nat.zero_add _, Nat.le_refl _, h1⟩, ?_⟩
  rintro i m H2 ⟨M2, Z2, acc, accV, r2, x2, e2, hD2, la, nz, nm, k2, him, hacc, hcl⟩
  obtain ⟨go, stop⟩ := iok i H2 M2 Z2 x2 r2 k2
  by_cases hi : i < items.length
  · obtain ⟨v, hv⟩ : ∃ v, items[i]? = some v := ⟨items[i], List.getElem?_eq_getElem hi⟩
    obtain ⟨g1, g2⟩ := go v hv
    have hd : items.drop i = v :: items.drop (i + 1) := by
      rw [List.drop_eq_getElem_cons hi]
      rw [List.getElem?_eq_getElem hi] at hv
      rw [Option.some.inj hv]
    rw [hd] at hcl
    obtain ⟨ρ', hb, hcl⟩ := hcl
    refine .inr ⟨g1, CompW (ctx X ga) _ keep _ items σ ρ H1 M1 Z1 D (i + 1) (m - 1), fun H' w => ⟨m - 1, by omega, w⟩, fun x H3 hy => ?_⟩
    obtain ⟨x3, r3, rv⟩ := g2 x H3 hy
    have e3 := e2.mono r2 x3
    refine gT_of r3 e3.wiped rv hb fun σ' e4 hw => ⟨(hw _ fun i hi => hi).trans (wipe_wipe _ _), ?_⟩
    refine ⟨ρ', M2, Z2, _, r3, e4, hcl, fun b H4 M4 Z4 x4 r4 h4 => ?_⟩
    have hD3 : H3 D = some (.lst accV) := (x3.unm _ _ hD2 nm).1
    obtain ⟨hD4, nm4⟩ := x4.unm _ _ hD3 nm
    have nz4 : ¬ Z4 D := fun z => by
      rcases x4.zn D z with q | q
      · exact nz q
      · rw [hD3] at q; cases q
    have x14 := (x2.trans x3).trans x4
    cases b with
    | false =>
      dsimp only at h4 ⊢
      rw [if_neg Bool.false_ne_true] at h4 ⊢
      obtain ⟨k4, h4⟩ := h4
      exact ⟨M4, Z4, acc, accV, r4, x14, e1.mono r1 x14, hD4, RepL.mono r2 (x3.trans x4) la, nz4, nm4, k4, by omega, by omega, h4⟩
    | true =>
      dsimp only at h4 ⊢
      rw [if_pos rfl] at h4 ⊢
      refine ⟨ρ', M4, Z4, _, r4, e4.mono r3 x4, h4, fun w y H5 M5 Z5 x5 r5 rw5 ⟨k5, h5⟩ => ?_⟩
      obtain ⟨hD5, nm5⟩ := x5.unm _ _ hD4 nm4
      have nz5 : ¬ Z5 D := fun z => by
        rcases x5.zn D z with q | q
        · exact nz4 q
        · rw [hD4] at q; cases q
      have x15 := x14.trans x5
      have kp : Kp H5 M5 Z5 (upd H5 D (.lst (accV ++ [y]))) M5 Z5 := Kp.hid hD5 nz5
      have la5 := RepL.mono r2 ((x3.trans x4).trans x5) la
      have x16 := Ext.hid (ws := accV ++ [y]) x15 hD
      have r6 := r5.hid (ws := accV ++ [y]) hD5 nz5 nm5
      refine ⟨accV, hD5, ?_, M5, Z5, acc ++ [w], accV ++ [y], r6, x16, e1.mono r1 x16, upd_same, (RepL.kp kp la5).append (.cons (Rep.kp kp rw5) .nil), nz5, nm5, k5, by omega, ?_, h5⟩
      · rw [← la.length]; omega
      · rw [List.length_append, List.length_singleton]; omega
  · have hd : items.drop i = [] := List.drop_eq_nil_of_le (by omega)
    rw [hd] at hcl
    refine .inl ⟨stop (by omega), ?_⟩
    have hcl : newL mt acc M2 Q' := hcl
    cases mt with
    | false =>
      have hcl : Q' (.lst acc) M2 := hcl
      exact c _ _ _ _ _ (x1.trans (x2.told hD)) (r2.told hD2 nm) (.lz (.inl rfl) hD2 la.told) hcl
    | true =>
      have hcl : ∀ p, M2 p = none → Q' (.ref p) (M2.put p (.lst acc)) := hcl
      have same : upd H2 D (.lst accV) = H2 := by
        funext b
        by_cases q : b = D
        · subst q; rw [upd_same, hD2]
        · rw [upd_ne q]
      have xx : Ext H2 M2 Z2 H2 (M2.put D (.lst acc)) Z2 → False := fun z => by
        have := (z.unm _ _ hD2 nm).2
        rw [Sto.put_same] at this; cases this
      have x3 : Ext H1 M1 Z1 H2 (M2.put D (.lst acc)) Z2 :=
        ⟨fun a o h mm => by
          have q : a ≠ D := fun z => by subst z; rw [hD] at h; cases h
          rw [Sto.put_ne q]; exact x2.unm a o h mm, fun a h => by
          by_cases q : a = D
          · subst q; rw [Sto.put_same]; rfl
          · rw [Sto.put_ne q]; exact x2.dom a h, x2.zz, x2.hd, x2.zn⟩
      have kp : Kp H2 M2 Z2 H2 (M2.put D (.lst acc)) Z2 := ⟨fun _ _ h => h, fun _ _ _ h => h, fun _ _ => rfl, fun a h => by
          by_cases q : a = D
          · subst q; rw [Sto.put_same]; rfl
          · rw [Sto.put_ne q]; exact h, fun _ h => h⟩
      have r3 : SR (ctx X ga) H2 (M2.put D (.lst acc)) Z2 := by
        refine ⟨fun a o ee => ?_, fun a z => ?_⟩
        · by_cases q : a = D
          · subst q
            rw [Sto.put_same] at ee; cases ee
            exact ⟨_, hD2, accV, rfl, RepL.kp kp la⟩
          · rw [Sto.put_ne q] at ee
            obtain ⟨u, hu, b⟩ := r2.sto a o ee
            exact ⟨u, hu, b.kp kp⟩
        · have q : a ≠ D := fun e => by subst e; exact nz z
          rw [Sto.put_ne q]; exact r2.frz a z
      exact c _ _ _ _ _ (x1.trans x3) r3 (.ref (by rw [Sto.put_same]; rfl)) (hcl D nm)
end
end SG
/-! sorted(set([x])), x a tuple of nested plain things -/
namespace SG
open PySem PySem.Spec PyProof.Rows L2
section
variable {P : Program} {w : World} {A : Around} {E : Value → Shared → Prop} {s : Shared}
theorem nAll_mem {h : Heap} : ∀ {ks : List NestedKey} {vs : List Value}, NestedAll h ks vs → ∀ v ∈ vs, ∃ k, NestedIs h k v
  | _, _, .nil, v, hv => by cases hv
  | _, _, .cons a b, v, hv => by
    rcases List.mem_cons.mp hv with e | hv
    · rw [e]; exact ⟨_, a⟩
    · exact nAll_mem b v hv
theorem hashBy_key (n : Nat) : ∀ {k : NestedKey} {v : Value} {Q : Bool → Shared → Prop}, NestedIs s.heap k v → (∀ b, Q b s) → wpAny (model P w) A (hashByValue n v) Q E s := by
  induction n with
  | zero =>
    intro k v Q x h
    cases x with
    | none => exact wpAny_pure (h true)
    | bool _ => exact wpAny_pure (h true)
    | int _ _ => exact wpAny_pure (h true)
    | text _ _ => exact wpAny_pure (h false)
    | tup _ _ _ _ => exact wpAny_pure (h false)
  | succ n ih =>
    intro k v Q x h
    cases x with
    | none => exact wpAny_pure (h true)
    | bool _ => exact wpAny_pure (h true)
    | int _ _ => exact wpAny_pure (h true)
    | text _ _ => exact wpAny_pure (h false)
    | @tup b o vs m ks ho hc hd hi =>
      unfold hashByValue
      refine wpAny_bind (wpAny_specialOf (T := "tuple") ⟨o, ho, hc⟩ F.slot_tuple_hash.lookup ?_)
      show wpAny _ _ (seqItems? (.ref b) >>= _) _ _ s
      refine wpAny_bind (wpAny_seqItems ho hd ?_)
      refine wpAny_bind ?_
      show wpAny _ _ (forIn vs _ _) _ _ s
      rw [← Array.forIn_toList]
      refine wpAny_forIn_list _ (fun rest r u => u = s ∧ ∀ v ∈ rest, ∃ k, NestedIs s.heap k v) _ ?_ ?_ _ _ ⟨rfl, nAll_mem hi⟩
      · rintro v rest r u ⟨rfl, hall⟩
        obtain ⟨k', hk'⟩ := hall v List.mem_cons_self
        refine wpAny_bind (ih hk' fun b => ?_)
        cases b with
        | true =>
          simp only [Bool.not_true, Bool.false_eq_true, if_false]
          exact wpAny_pure ⟨rfl, fun y hy => hall y (List.mem_cons_of_mem _ hy)⟩
        | false =>
          simp only [Bool.not_false, if_true]
          exact wpAny_pure (wpAny_pure (h false))
      · rintro ⟨r1, r2⟩ u ⟨rfl, _⟩
        cases r1 with
        | none => exact wpAny_pure (h _)
        | some b => exact wpAny_pure (h _)

/-! ### the first thing that a set gets -/
theorem tab_fresh (b : Bool) : TabOk (.fresh 0 0 b) [] := ⟨List.Pairwise.nil, rfl, rfl, .inl rfl, fun x hx => (by cases hx), fun i h j hi => (by simp at hi)⟩
theorem search_empty {S x : Addr} {hv : Int} {o : Obj} {ep : Nat} {b : Bool} (ho : s.heap.get? S = some o) (hd : o.data = .set #[] ep (.fresh 0 0 b)) {Q : SetFound → Shared → Prop} (h : Q (.free (way 7 hv 0) false) s) :
    wpAny (model P w) A (setSearch S (.ref x) hv true) Q E s := by
  unfold setSearch
  rw [show (100000 : Nat) = 99999 + 1 from rfl, setSearchFrom_succ]
  refine wpAny_bind (wpAny_setState_of ho hd rfl ?_)
  dsimp only
  refine wp_if_neg (by unfold SetTable.gaveWay; rw [show (SetTable.fresh 0 0 b).mask = 7 from rfl]; decide) ?_
  exact wpAny_pure h
/-- a set of one thing -/
structure Set1 (w : World) (h : Heap) (S x : Addr) : Prop where
  ex : ∃ (hv : Int) (ep : Nat) (t : SetTable), (∃ o, h.get? S = some o ∧ o.ExactSet ∧ o.data = .set #[(hv, .ref x)] ep t) ∧ t.fits 1 = true ∧ Ris t.place.toList ∧ (w.params.followText "set-order" = true ∨ t.led = true)
theorem add_first {S x : Addr} {k : NestedKey} {hv : Int} {o : Obj} {ep : Nat} {b : Bool} (ho : s.heap.get? S = some o) (hex : o.ExactSet) (hd : o.data = .set #[] ep (.fresh 0 0 b)) (hl : w.params.followText "set-order" = true ∨ b = true) (hx : NestedIs s.heap k (.ref x)) {Q : Bool → Shared → Prop}
    (hQ : ∀ z h', Heap.SameBut S s.heap h' → Set1 w h' S x → Q z { s with heap := h' }) : wpAny (model P w) A (setAddHashed S (.ref x) hv) Q E s := by
  unfold setAddHashed
  refine wpAny_holding ?_
  rw [show (100000 : Nat) = 99999 + 1 from rfl, setAddHashedIn_succ]
  refine wpAny_bind (wpAny_setState_of ho hd rfl ?_)
  dsimp only
  refine wp_if_neg (by simp [byScan, Value.scannable]) ?_
  try refine wpAny_bind (wpAny_pure ?_)
  refine wpAny_bind (search_empty ho hd ?_)
  dsimp only
  refine wpAny_bind (wpAny_setState_of ho hd rfl ?_)
  dsimp only
  obtain ⟨q1, q2, q3, q4, q5, q6, q7, q8, q9⟩ := (tab_fresh b).put (h := hv) (K := 0) (show _ ∉ ([] : List Nat) from List.not_mem_nil) (fun k hk => absurd hk (Nat.not_lt_zero _))
  have em : (SetTable.fresh 0 0 b).mask = 7 := rfl
  rw [em] at q1 q2 q3 q4 q5 q6 q7 q8 q9
  generalize hpt : (SetTable.fresh 0 0 b).put (way 7 hv 0) = pt at q1 q3 q4 q5 q6 q7 q8 q9 ⊢
  obtain ⟨t1, p⟩ := pt
  dsimp only at q1 q3 q4 q5 q6 q7 q8 q9 ⊢
  have p0 : p = 0 := by rw [q1]; exact Nat.le_zero.mp q2
  subst p0
  have fin : ∀ t2 : SetTable, t2.place = t1.place → t2.dummies = t1.dummies → t2.mask = t1.mask → t2.led = t1.led →
      wpAny (model P w) A (storeSet S (SetTable.insertAt #[] 0 (hv, Value.ref x)) t2 >>= fun _ => if (!false && t2.tooFull) = true then setRelay S (SetTable.grown ((#[] : Array (Int × Value)).size + 1)) >>= fun _ => pure true else pure true) Q E s := by
    intro t2 e1 e2 e3 e4
    have e5 : SetTable.insertAt (#[] : Array (Int × Value)) 0 (hv, Value.ref x) = #[(hv, Value.ref x)] := by
      apply Array.toList_inj.mp
      rw [SetTable.toList_insertAt]
      rfl
    rw [e5]
    refine wpAny_bind (wpAny_storeSet_of ho hd ?_ (show 1 ≤ sizeLine by decide))
    have psz : t1.place.size = 1 := by
      have := q3.sz
      simpa using this
    have nf : (!false && t2.tooFull) = false := by
      have : t2.tooFull = false := by
        unfold SetTable.tooFull SetTable.fill
        rw [e1, e2, e3, q3.dm, psz, q4]
        rfl
      rw [this]; rfl
    rw [nf]
    refine wp_if_neg (by decide) (wpAny_pure ?_)
    refine hQ true _ (Heap.SameBut.update ..) ⟨hv, ep + 1, t2, ⟨_, store_at ho hd, ⟨hex.1, hex.2.1, hex.2.2⟩, rfl⟩, ?_, by rw [e1]; exact q3.ris, ?_⟩
    · unfold SetTable.fits SetTable.fill
      rw [e1, e2, e3, q3.dm, psz, q4]
      rfl
    · rw [e4, q5]; exact hl
  have hp1 : t1.plain = true := by rw [q6]; rfl
  refine wp_if_pos hp1 (wpAny_bind (hashBy_key 8 hx fun c => ?_))
  cases c with
  | true => exact fin t1 rfl rfl rfl rfl
  | false => exact fin { t1 with plain := false } rfl rfl rfl rfl
abbrev emptySet (w : World) : Obj := { cls := .type "set", dict := none, data := .set #[] 0 (.fresh 0 0 (!w.params.followText "set-order")) }
abbrev setHp (w : World) (h : Heap) : Heap := h.push (emptySet w)
abbrev setIt (w : World) (h : Heap) (l : Addr) : Heap := (setHp w h).push { cls := .type "list_iterator", data := .fields #[.ref l, .int 0 0] }
/-- set(xs): T is what the loop over xs leaves at the set -/
theorem call_set_by {l : Addr} {items : Array Value} (T : Heap → Prop) {Q : Value → Shared → Prop} (hl : s.heap.IsList l items)
    (loop : ∀ (R : Result → Shared → Prop), (∀ h' tk, T h' → (∀ b o, s.heap.get? b = some o → h'.get? b = some o) → R (.ok (.ret .none)) { s with heap := h', toks := tk }) →
      codeAny (model P w) A.in1.in1 (.builtin "set.update.loop" ⟨[.ref s.heap.objs.size, .ref (setHp w s.heap).objs.size], []⟩) R { s with heap := setIt w s.heap l })
    (h : ∀ (h' : Heap) (tk : Nat), T h' → (∀ b o, s.heap.get? b = some o → h'.get? b = some o) → Q (.ref s.heap.objs.size) { s with heap := h', toks := tk }) :
    wpAny (model P w) A (call (.type "set") [.ref l]) Q E s := by
  obtain ⟨mroC, mroT, hmro⟩ := F.called_set.mro
  have hmade := F.called_set.made
  have hsub := F.called_set.sub
  refine wpAny_call (codeAny_of_tree ?_)
  show wpAny _ _ (callAny (.type "set") _) _ _ _
  refine wpAny_pure ⟨Code.quiet_builtin _ (by decide +kernel), codeAny_builtin F.entry_type_call ?_⟩
  rw [Around.under_plain (weight_type_call_type "set" [.ref l] []) rfl]
  have notT := F.called_set.notType
  have canC := F.called_set.canCreate
  have oneA := F.typeCall_set_1 (.ref l)
  repeat (any_goals (first | assumption | wp_step))
  refine codeAny_mono (code_set_led1 (.ref l) (E := E) (Q₁ := fun obj u => obj = .ref s.heap.objs.size ∧ u = { s with heap := setHp w s.heap }) ⟨rfl, rfl⟩) fun r u hr => ?_
  cases r with
  | error e => exact hr
  | ok fl =>
    cases fl with
    | ret obj =>
      obtain ⟨rfl, rfl⟩ := hr
      have atS : (setHp w s.heap).get? s.heap.objs.size = some (emptySet w) := Heap.get?_push_size _ rfl
      have tyS : Shared.TypeIs { s with heap := setHp w s.heap } (.ref s.heap.objs.size) "set" := ⟨_, atS, rfl⟩
      have lookI := F.called_set.init.lookup
      have bindI := F.called_set.init.bind (.ref s.heap.objs.size)
      repeat (any_goals (first | assumption | wp_step))
      refine codeAny_mono (codeAny_call_builtin (R := wants (fun r u => r = .none ∧ ∃ h' tk, u = { s with heap := h', toks := tk } ∧ T h' ∧ (∀ b o, s.heap.get? b = some o → h'.get? b = some o)) E) F.called_set.init.plain F.entry_set_init (check_set_init_1 tyS ?_)) fun r2 u2 hr2 => ?_
      · obtain ⟨ol, hol, hcl, nl, hdl⟩ := hl
        obtain ⟨ocls, odict, odata, oslots⟩ := ol
        simp only at hcl hdl
        subst hcl
        subst hdl
        have hol2 : (setHp w s.heap).get? l = some { cls := .type "list", dict := odict, data := .seq items nl, slots := oslots } := Heap.get?_push_of_some _ hol
        have isL2 : (setHp w s.heap).IsList l items := ⟨_, hol2, rfl, nl, rfl⟩
        have noS := F.sub_list_set
        have noF := F.sub_list_frozenset
        have noD : (Value.type "list" == Value.type "dict") = false := by decide
        unfold Builtin.«set.__init__» noKeywords Builtin.Frozenset.updateFrom
        generalize gPI : pyIter = PI
        wp_walk
        subst gPI
        refine wpAny_pyIter_list isL2 ?_
        refine wpAny_bind (wpAny_runValue ?_)
        refine loop _ fun h' tk hT hk => ?_
        show wpAny _ _ _ _ _ _
        refine wpAny_pure ?_
        show wpAny _ _ (ret Value.none) _ _ _
        exact wpAny_pure ⟨rfl, h', tk, rfl, hT, hk⟩
      · cases r2 with
        | error e => exact hr2
        | ok fl2 =>
          cases fl2 with
          | ret r =>
            obtain ⟨rfl, h', tk, rfl, hT, hk⟩ := hr2
            repeat (any_goals (first | assumption | wp_step))
            exact h _ _ hT hk
          | _ => exact hr2.elim
    | _ => exact hr.elim
end
end SG
namespace SG
open PySem PySem.Spec PyProof.Rows L2
section
variable {P : Program} {w : World} {A : Around} {E : Value → Shared → Prop} {s : Shared}
theorem nIs_keep {h h' : Heap} {k : NestedKey} {v : Value} (x : NestedIs h k v) (hk : ∀ b o, h.get? b = some o → h'.get? b = some o) : NestedIs h' k v := NestedIs.at (fun a o _ _ e _ => hk a o e) k v x
/-- set([x]) -/
theorem call_set_one {l x : Addr} {k : NestedKey} {Q : Value → Shared → Prop} (hh : A.handled = none) (hl : s.heap.IsList l #[.ref x]) (hx : NestedIs s.heap k (.ref x)) (hdp : k.depth ≤ 8) (hu : A.units + 20 < cLine)
    (h : ∀ (h' : Heap) (tk : Nat), Set1 w h' s.heap.objs.size x → (∀ b o, s.heap.get? b = some o → h'.get? b = some o) → Q (.ref s.heap.objs.size) { s with heap := h', toks := tk }) :
    wpAny (model P w) A (call (.type "set") [.ref l]) Q E s := by
  refine call_set_by (fun h' => Set1 w h' s.heap.objs.size x) hl (fun R hR => ?_) h
  have hlt : l < s.heap.objs.size := Heap.lt_size hl.choose_spec.1
  have zH : (setHp w s.heap).objs.size = s.heap.objs.size + 1 := Heap.size_push ..
  have hne : l ≠ (setHp w s.heap).objs.size := by rw [zH]; exact Nat.ne_of_lt (Nat.lt_succ_of_lt hlt)
  have hh3 : A.in1.in1.in1.handled = none := by simp [hh]
  have W := (Walks.list (prog := P) (w := w) hh3 (setHp w s.heap).objs.size l hne #[.ref x]).toS
  have atS : (setIt w s.heap l).get? s.heap.objs.size = some (emptySet w) := Heap.get?_push_of_some _ (Heap.get?_push_size _ rfl)
  have isL : (setIt w s.heap l).IsList l #[.ref x] := (hl.push _).push _
  have old : ∀ b o, s.heap.get? b = some o → (setIt w s.heap l).get? b = some o := fun b o e => Heap.get?_push_of_some _ (Heap.get?_push_of_some _ e)
  have nS : s.heap.objs.size ∉ [(setHp w s.heap).objs.size] := by rw [zH]; simp
  have nS2 : s.heap.objs.size ∉ [(setHp w s.heap).objs.size, l] := by
    rw [zH]
    simp only [List.mem_cons, List.not_mem_nil, or_false, not_or]
    exact ⟨Nat.ne_of_lt (Nat.lt_succ_self _), Nat.ne_of_gt hlt⟩
  have nIt : ∀ b o, s.heap.get? b = some o → b ∉ [(setHp w s.heap).objs.size] := fun b o e z => by
    have := Heap.lt_size e
    rw [List.mem_singleton.mp z, zH] at this
    exact absurd this (Nat.not_lt_of_le (Nat.le_succ _))
  -- the one thing
  refine codeAny_builtin F.entry_set_update_loop ?_
  rw [Around.under_plainId F.plain_set_update_loop _]
  show wpAny _ A.in1.in1.in1 (pyNext (.ref (setHp w s.heap).objs.size) >>= _) _ _ _
  refine wpAny_bind (W.item 0 _ _ _ (Nat.zero_lt_one) ⟨⟨_, Heap.get?_push_size _ rfl, rfl, rfl⟩, isL⟩ fun v u hv st1 mv => ?_)
  have hv : (#[Value.ref x] : Array Value)[0]? = some v := hv
  cases hv
  have keep1 : ∀ b o, s.heap.get? b = some o → u.heap.get? b = some o := fun b o e => mv.heap b o (nIt b o e) (old b o e)
  have atS1 : u.heap.get? s.heap.objs.size = some (emptySet w) := mv.heap _ _ nS atS
  have hx1 : NestedIs u.heap k (.ref x) := nIs_keep hx keep1
  show wpAny _ A.in1.in1.in1 (holding [Value.ref x] (setAdd s.heap.objs.size (.ref x)) >>= _) _ _ u
  refine wpAny_bind (wpAny_holding ?_)
  unfold setAdd
  refine wpAny_holding ?_
  refine wpAny_bind ((nestedKind P w).pyHash (A := A.in1.in1.in1) (k := k) (show A.units + 1 + 1 + 1 + 8 < cLine by omega) ⟨hx1, hdp⟩ ?_)
  refine add_first (s := { u with toks := u.toks + (nestedKind P w).draws k }) atS1 ⟨rfl, rfl, rfl⟩ rfl (by cases w.params.followText "set-order" <;> simp) hx1 fun z h2 sb one => ?_
  have keep2 : ∀ b o, s.heap.get? b = some o → h2.get? b = some o := fun b o e => (sb.2 b fun q => by
    have := Heap.lt_size e
    rw [q] at this
    exact absurd this (Nat.lt_irrefl _)).trans (keep1 b o e)
  -- the end
  have st2 := W.frame 1 u h2 (u.toks + (nestedKind P w).draws k) st1 (Nat.le_add_right _ _) fun b hb o e => (sb.2 b fun q => nS2 (by rw [← q]; exact hb)).trans e
  refine wpAny_pure ⟨plainId_quiet F.plain_set_update_loop _, ?_⟩
  refine codeAny_builtin F.entry_set_update_loop ?_
  rw [Around.under_plainId F.plain_set_update_loop _]
  show wpAny _ A.in1.in1.in1 (pyNext (.ref (setHp w s.heap).objs.size) >>= _) _ _ _
  refine wpAny_bind (W.done _ _ _ st2 fun v mv2 => ?_)
  show wpAny _ A.in1.in1.in1 (ret Value.none) _ _ v
  refine wpAny_pure ?_
  obtain ⟨h3, g3, d3, tk3, os3⟩ := v
  have eg : g3 = s.gens := mv2.gens.trans mv.gens
  have ed : d3 = s.drawn := mv2.drawn.trans mv.drawn
  have eo : os3 = s.os := mv2.os.trans mv.os
  subst eg
  subst ed
  subst eo
  refine hR h3 tk3 ?_ fun b o e => mv2.heap b o (nIt b o e) (keep2 b o e)
  obtain ⟨hv, ep, t, ⟨o, ho, r1⟩, r2⟩ := one.ex
  exact ⟨hv, ep, t, ⟨o, mv2.heap _ _ nS ho, r1⟩, r2⟩
/-- sorted of it -/
theorem sorted_one {a x : Addr} {d : PyData} {as : List Addr} {Q : Value → Shared → Prop} (R : Set1 w s.heap a x) (hh : A.handled = none) (rd : Reads s.heap (.ref x) d as) (hd : ∃ y r, d = .tuple (y :: r)) (hal : PySem.W.alike d d = true) (hu : A.units + d.depth + 20 < cLine)
    (hQ : ∀ s' p (c : Nat), (∀ b o, s.heap.get? b = some o → s'.heap.get? b = some o) → s'.gens = s.gens → s'.os = s.os → s.heap.objs.size ≤ p → s'.heap.get? p = some (seqObj "list" #[.ref x] c) → Q (.ref p) s') :
    wpAny (model P w) A (call (.builtin "sorted") [.ref a]) Q E s := by
  obtain ⟨hv, ep, t, ⟨o, ho, hex, hd2⟩, fit, ris, led⟩ := R.ex
  refine Calls.call_function_entry kind_sorted plain_sorted entry_sorted (args_sorted1 _) ?_
  unfold Builtin.«sorted»
  refine wpAny_bind (m := checkCount "sorted" 1 1 _) (wpAny_pure ?_)
  refine wpAny_bind (collect_set (A := A.in1) hh ⟨o, ho, hex.1, hd2⟩ fit (show 1 < scanBound by decide) ris led fun s1 vs k1 hz g1 o1 pm => ?_)
  have ev : vs = [.ref x] := List.perm_singleton.mp pm
  subst ev
  refine wpAny_bind (wpAny_newList ?_ (show 1 ≤ sizeLine by decide))
  have hoL : (s1.heap.push (seqObj "list" #[.ref x] 0)).get? s1.heap.objs.size = some (seqObj "list" #[.ref x] 0) := Heap.get?_push_size _ rfl
  have k2 : ∀ b o, s.heap.get? b = some o → (s1.heap.push (seqObj "list" #[.ref x] 0)).get? b = some o := fun b o e => Heap.get?_push_of_some _ (k1 b o e)
  have rd1 : Reads (s1.heap.push (seqObj "list" #[.ref x] 0)) (.ref x) d as := PyProof.Rows.Reads.keeps k2 rd
  have fresh : s1.heap.objs.size ∉ as := fun z => by
    obtain ⟨o', e'⟩ := PyProof.On.reads_mem_get rd _ z
    exact absurd (Heap.lt_size (k1 _ _ e')) (Nat.lt_irrefl _)
  refine wpAny_bind (wpAny_holding (PySem.W.list_sort_data (s := { s1 with heap := s1.heap.push (seqObj "list" #[.ref x] 0) }) (vs := [.ref x]) (bs := [d]) (enc := id) (R := fun v _ => v = .ref x) hoL (.cons rfl .nil) (.cons ⟨as, rd1, fresh⟩ .nil)
    (fun a ha b hb => by
      rw [List.mem_singleton.mp ha, List.mem_singleton.mp hb]
      exact hal) (.inl fun a ha => by
      rw [List.mem_singleton.mp ha]
      exact hd) (show 1 ≤ sizeLine by decide) (fun b hb => by
      rw [List.mem_singleton.mp hb]
      show A.units + 1 + 1 + d.depth < cLine
      omega) fun out hlen each => ?_))
  have eo : out = [.ref x] := by
    match out, hlen, each with
    | [v], _, each =>
      rw [List.mergeSort_singleton] at each
      cases each with
      | cons e _ => rw [e]
  subst eo
  obtain ⟨c, hc⟩ := sortedHeap_at (vs := [.ref x]) (out := #[.ref x]) hoL
  refine wpAny_pure ⟨_, rfl, hQ _ s1.heap.objs.size c (fun b u e => ?_) g1 o1 hz hc⟩
  have q := k1 b u e
  have hlt := Heap.lt_size q
  show (sortedHeap (s1.heap.push (seqObj "list" #[.ref x] 0)) s1.heap.objs.size [.ref x] #[.ref x]).get? b = some u
  rw [sortedHeap_old (Nat.ne_of_lt hlt) (by rw [size_push']; exact Nat.lt_succ_of_lt hlt)]
  exact Heap.get?_push_of_some _ q
end
end SG
/-! sets of nested plain things, of any number below 64 -/
namespace SG
open PySem PySem.Spec PyProof.Rows L2
section
variable {P : Program} {w : World} {A : Around} {E : Value → Shared → Prop} {s : Shared}
theorem nAll_dep {h : Heap} : ∀ {ks : List NestedKey} {vs : List Value}, NestedAll h ks vs → ∀ v ∈ vs, ∃ k, NestedIs h k v ∧ k.depth ≤ NestedKey.depthAll ks
  | _, _, .nil, v, hv => by cases hv
  | _, _, .cons a b, v, hv => by
    rcases List.mem_cons.mp hv with e | hv
    · rw [e]; exact ⟨_, a, by unfold NestedKey.depthAll; exact Nat.le_max_left _ _⟩
    · obtain ⟨k, h1, h2⟩ := nAll_dep b v hv
      exact ⟨k, h1, Nat.le_trans h2 (by conv => rhs; unfold NestedKey.depthAll
                                        exact Nat.le_max_right _ _)⟩
theorem ofA_key (n : Nat) : ∀ {k : NestedKey} {v : Value} {Q : Bool → Shared → Prop}, NestedIs s.heap k v → k.depth ≤ n → Q false s → wpAny (model P w) A (ofAClassStatement n v) Q E s := by
  induction n with
  | zero =>
    intro k v Q x hd h
    cases x with
    | none => exact wpAny_pure h
    | bool _ => exact wpAny_pure h
    | int _ _ => exact wpAny_pure h
    | text _ _ => exact wpAny_pure h
    | tup _ _ _ _ => unfold NestedKey.depth at hd; omega
  | succ n ih =>
    intro k v Q x hd h
    cases x with
    | none => exact wpAny_pure h
    | bool _ => exact wpAny_pure h
    | int _ _ => exact wpAny_pure h
    | text _ _ => exact wpAny_pure h
    | @tup b o vs m ks ho hc hd2 hi =>
      unfold NestedKey.depth at hd
      have hT : s.TypeIs (.ref b) "tuple" := ⟨o, ho, hc⟩
      unfold ofAClassStatement
      refine wpAny_bind (wpAny_typeOf hT ?_)
      dsimp only
      have e : (("tuple" : String) == "tuple") = true := by decide
      simp only [e, if_true, Bool.not_true, Bool.false_eq_true, if_false]
      try refine wpAny_bind (wpAny_pure ?_)
      try simp only [Bool.not_true, Bool.false_eq_true, if_false]
      show wpAny _ _ (seqItems? (.ref b) >>= _) _ _ s
      refine wpAny_bind (wpAny_seqItems ho hd2 ?_)
      dsimp only
      refine wpAny_bind ?_
      show wpAny _ _ (forIn vs _ _) _ _ s
      rw [← Array.forIn_toList]
      refine wpAny_forIn_list _ (fun rest r u => r.1 = none ∧ u = s ∧ ∀ v ∈ rest, ∃ k, NestedIs s.heap k v ∧ k.depth ≤ n) _ ?_ ?_ _ _ ⟨rfl, rfl, fun v hv => ?_⟩
      · rintro v rest r u ⟨hr, rfl, hall⟩
        obtain ⟨k', hk', hd'⟩ := hall v List.mem_cons_self
        refine wpAny_bind (ih hk' hd' ?_)
        simp only [Bool.false_eq_true, if_false]
        exact wpAny_pure ⟨rfl, rfl, fun y hy => hall y (List.mem_cons_of_mem _ hy)⟩
      · rintro ⟨r1, r2⟩ u ⟨hr, rfl, _⟩
        simp only at hr
        subst hr
        exact wpAny_pure h
      · obtain ⟨k', h1, h2⟩ := nAll_dep hi v hv
        exact ⟨k', h1, by omega⟩
theorem seen_key {k : NestedKey} {b : Addr} {Q : Bool → Shared → Prop} (hk : NestedIs s.heap k (.ref b)) (hd : k.depth ≤ 8) {ys : List Value} (hy : ∀ y ∈ ys, ∃ k' c, y = Value.ref c ∧ NestedIs s.heap k' (.ref c) ∧ k'.depth ≤ 8) (h : Q false s) :
    wpAny (model P w) A (searchCouldBeSeen (.ref b) ys) Q E s := by
  unfold searchCouldBeSeen
  refine wpAny_bind ?_
  refine wpAny_forIn_list _ (fun rest r u => r.1 = none ∧ u = s ∧ ∀ y ∈ rest, ∃ k' c, y = Value.ref c ∧ NestedIs s.heap k' (.ref c) ∧ k'.depth ≤ 8) _ ?_ ?_ _ _ ⟨rfl, rfl, hy⟩
  · rintro v rest r u ⟨hr, rfl, hall⟩
    obtain ⟨k', c, rfl, hc, hcd⟩ := hall v List.mem_cons_self
    have later : ∀ y ∈ rest, ∃ k' c, y = Value.ref c ∧ NestedIs u.heap k' (.ref c) ∧ k'.depth ≤ 8 := fun y hy' => hall y (List.mem_cons_of_mem _ hy')
    dsimp only
    by_cases hv : (b == c || (carriedByValue (.ref b) && carriedByValue (.ref c))) = true
    · refine wp_if_pos hv ?_
      exact wpAny_pure ⟨rfl, rfl, later⟩
    · refine wp_if_neg hv ?_
      refine wpAny_bind ((nestedKind P w).quiet ⟨hk, hd⟩ ?_)
      simp only [Bool.not_true, Bool.false_eq_true, if_false]
      refine wpAny_bind ((nestedKind P w).quiet ⟨hc, hcd⟩ ?_)
      simp only [Bool.not_true, Bool.false_eq_true, if_false]
      refine wpAny_bind (ofA_key 8 hk hd ?_)
      simp only [Bool.false_eq_true, if_false]
      refine wpAny_bind (ofA_key 8 hc hcd ?_)
      simp only [Bool.false_eq_true, if_false]
      exact wpAny_pure ⟨rfl, rfl, later⟩
  · rintro ⟨r1, r2⟩ u ⟨hr, rfl, _⟩
    simp only at hr
    subst hr
    exact wpAny_pure h

/-! ### the set -/
structure NSet (w : World) (h : Heap) (S : Addr) (L : List (NestedKey × Addr)) (es : Array (Int × Value)) (ep : Nat) (t : SetTable) : Prop where
  ob : ∃ o, h.get? S = some o ∧ o.ExactSet ∧ o.data = .set es ep t
  rows : es.toList = L.map fun p => (p.1.hash w, Value.ref p.2)
  tab : TabOk t (L.map fun p => p.1.hash w)
  nd : (L.map (·.1)).Nodup
  key : ∀ p ∈ L, NestedIs h p.1 (.ref p.2) ∧ p.1.depth ≤ 8
  led : w.params.followText "set-order" = true ∨ t.led = true
  room : L.length * 5 < t.mask * 3
  few : L.length < 64
variable {S : Addr} {L : List (NestedKey × Addr)} {es : Array (Int × Value)} {ep : Nat} {t : SetTable}
theorem NSet.size {h : Heap} (R : NSet w h S L es ep t) : es.size = L.length := by
  have q := congrArg List.length R.rows
  simpa using q
theorem NSet.fits {h : Heap} (R : NSet w h S L es ep t) : t.fits es.size = true := by
  have q1 := R.tab.sz
  rw [List.length_map] at q1
  have q2 := R.size
  have q3 := R.room
  unfold SetTable.fits SetTable.fill
  rw [R.tab.dm, Bool.and_eq_true, beq_iff_eq, decide_eq_true_eq]
  show t.place.size = es.size ∧ t.place.size + 0 ≤ t.mask
  omega
theorem NSet.row {h : Heap} (R : NSet w h S L es ep t) {i : Nat} {p : NestedKey × Addr} (e : L[i]? = some p) : es[i]? = some (p.1.hash w, Value.ref p.2) := by
  rw [← Array.getElem?_toList, R.rows, List.getElem?_map, e]
  rfl
/-- the probe after c steps -/
abbrev prb (m : Nat) (hv : Int) (c : Nat) : SetTable.Probe := nth m (runAt m (SetTable.bits hv % (m + 1)) (SetTable.bits hv)) c
theorem prb_dummy (m : Nat) (hv : Int) (c : Nat) : (prb m hv c).dummy = none := by
  have go : ∀ (n : Nat) (p : SetTable.Probe), p.dummy = none → (nth m p n).dummy = none := by
    intro n
    induction n with
    | zero => intro p h; exact h
    | succ n ih =>
      intro p h
      refine ih (adv m p) ?_
      unfold adv
      split <;> exact h
  exact go c _ rfl
theorem prb_more (m : Nat) (hv : Int) (c q : Nat) : nth m (prb m hv c) q = prb m hv (c + q) := (nth_add m c _ q).symm
theorem nsearch_from (R : NSet w s.heap S L es ep t) {x : Addr} {k : NestedKey} (hx : NestedIs s.heap k (.ref x)) (hdp : k.depth ≤ 8) (hu : A.units + 8 < cLine) {K : Nat} (hKf : K < 10 * SetTable.turns t.mask)
    (hK : way t.mask (k.hash w) K ∉ t.place.toList) (hKb : ∀ c, c < K → way t.mask (k.hash w) c ∈ t.place.toList) {Q : SetFound → Shared → Prop}
    (hin : k ∈ L.map (·.1) → Q (.there none) s) (hout : k ∉ L.map (·.1) → Q (.free (way t.mask (k.hash w) K) false) s) :
    ∀ (f c : Nat) (stand : Option SetTable.Probe), stand.getD (t.probeStart (k.hash w)) = prb t.mask (k.hash w) c → c ≤ K → K - c < f →
      (∀ (i : Nat) p, L[i]? = some p → p.1 = k → ∃ c', c ≤ c' ∧ c' < K ∧ t.place.toList[i]? = some (way t.mask (k.hash w) c')) →
      wpAny (model P w) A (setSearchFrom S (.ref x) (k.hash w) true f stand) Q E s := by
  intro f
  induction f with
  | zero => intro c stand _ _ hf _; exact absurd hf (Nat.not_lt_zero _)
  | succ f ih =>
    intro c stand hst hc hf hre
    obtain ⟨o, ho, hex, hd⟩ := R.ob
    rw [setSearchFrom_succ]
    refine wpAny_bind (wpAny_setState_of ho hd R.fits ?_)
    dsimp only
    refine wp_if_neg (by unfold SetTable.gaveWay; rw [mask_odd R.tab.mok]; decide) ?_
    try refine wpAny_bind (wpAny_pure ?_)
    have jj : ∀ q, (nth t.mask (prb t.mask (k.hash w) c) q).j = way t.mask (k.hash w) (c + q) := fun q => congrArg SetTable.Probe.j (prb_more t.mask (k.hash w) c q)
    have hat : ∀ (i : Nat) p, L[i]? = some p → (es[i]?.map (·.1)).getD 0 = p.1.hash w := fun i p hp => by rw [R.row hp]; rfl
    have spec := go_spec t R.tab.ris R.tab.dm (fun i => (es[i]?.map (·.1)).getD 0) (k.hash w) (10 * SetTable.turns t.mask) (K - c) _ (prb_dummy t.mask (k.hash w) c) (by omega)
      (fun q hq => by rw [jj]; exact hKb (c + q) (by omega)) (by rw [jj, show c + (K - c) = K by omega]; exact hK)
    rcases spec with ⟨q, i, hq, hi, hh, hno, hpr⟩ | ⟨hno, hpr⟩
    · rw [jj] at hi
      have hpr' : t.probe (fun i => (es[i]?.map (·.1)).getD 0) (k.hash w) (stand.getD (t.probeStart (k.hash w))) = some (.candidate (way t.mask (k.hash w) (c + q)) i (prb t.mask (k.hash w) (c + (q + 1)))) := by
        rw [hst, ← jj, ← prb_more]
        exact hpr
      rw [hpr']
      dsimp only
      have hil : i < L.length := by
        have a1 : i < t.place.toList.length := (List.getElem?_eq_some_iff.mp hi).1
        have a2 := R.tab.sz
        rw [List.length_map] at a2
        rw [Array.length_toList] at a1
        omega
      obtain ⟨p, hp⟩ : ∃ p, L[i]? = some p := ⟨L[i], List.getElem?_eq_getElem hil⟩
      have hmem : p ∈ L := List.mem_of_getElem? hp
      obtain ⟨pk, pd⟩ := R.key p hmem
      have rest : wpAny (model P w) A (searchRest S (.ref x) (k.hash w) true f es t (way t.mask (k.hash w) (c + q)) i (prb t.mask (k.hash w) (c + (q + 1)))) Q E s := by
        unfold searchRest
        rw [R.row hp]
        dsimp only
        refine wpAny_bind (wpAny_holding ((nestedKind P w).eqBool (x := p.1) (y := k) (show A.units + 8 < cLine from hu) ⟨pk, pd⟩ ⟨hx, hdp⟩ ?_))
        refine wpAny_bind (wpAny_setState_of ho hd R.fits ?_)
        dsimp only
        by_cases hkk : p.1 = k
        · refine wp_if_pos (by simp [hkk]) ?_
          exact wpAny_pure (hin (List.mem_map.mpr ⟨p, hmem, hkk⟩))
        · refine wp_if_neg (by simp [hkk]) ?_
          try refine wpAny_bind (wpAny_pure ?_)
          rw [sameMem]
          dsimp only
          have hsl : t.slot (way t.mask (k.hash w) (c + q)) = .live i := slot_live R.tab.ris hi
          simp only [if_true, hsl, R.row hp]
          refine wpAny_bind (wpAny_isSame_ref_self (wpAny_bind (wpAny_pure ?_)))
          simp only [if_true]
          refine wp_if_neg (by simp [hkk]) ?_
          refine ih (c + (q + 1)) _ rfl (by omega) (by omega) fun i0 p0 h0 hk0 => ?_
          obtain ⟨c', a1, a2, a3⟩ := hre i0 p0 h0 hk0
          refine ⟨c', ?_, a2, a3⟩
          rcases Nat.lt_trichotomy c' (c + q) with z | z | z
          · exfalso
            refine hno (c' - c) i0 (by omega) (by rw [jj, show c + (c' - c) = c' by omega]; exact a3) ?_
            exact (hat i0 p0 h0).trans (by rw [hk0])
          · exfalso
            rw [z] at a3
            have s0 := slot_live R.tab.ris a3
            rw [hsl] at s0
            injection s0 with s0
            rw [← s0, hp] at h0
            exact hkk ((congrArg Prod.fst (Option.some.inj h0)).trans hk0)
          · omega
      by_cases hl : t.led = true
      · refine wp_if_neg (by simp [hl]) ?_
        try refine wpAny_bind (wpAny_pure ?_)
        exact rest
      · refine wp_if_pos (by simp [hl]) ?_
        refine wpAny_bind (seen_key hx hdp (fun y hy => ?_) ?_)
        · obtain ⟨e, he, ee⟩ := List.mem_map.mp hy
          have he1 : e ∈ es ∧ e.1 = k.hash w := by simpa using he
          have he2 : e ∈ es.toList := by simpa using he1.1
          rw [R.rows] at he2
          obtain ⟨p2, hp2, e2⟩ := List.mem_map.mp he2
          obtain ⟨k1, k2⟩ := R.key p2 hp2
          exact ⟨p2.1, p2.2, by rw [← ee, ← e2], k1, k2⟩
        · refine wp_if_neg (by decide) ?_
          try refine wpAny_bind (wpAny_pure ?_)
          exact rest
    · have hpr' : t.probe (fun i => (es[i]?.map (·.1)).getD 0) (k.hash w) (stand.getD (t.probeStart (k.hash w))) = some (.empty (way t.mask (k.hash w) K) none) := by
        have e2 : way t.mask (k.hash w) K = (nth t.mask (prb t.mask (k.hash w) c) (K - c)).j := by rw [jj, show c + (K - c) = K by omega]
        rw [hst, e2]
        exact hpr
      rw [hpr']
      dsimp only
      refine wpAny_pure (hout fun hm => ?_)
      obtain ⟨p0, h0, hk0⟩ := List.mem_map.mp hm
      obtain ⟨i0, h00⟩ := List.mem_iff_getElem?.mp h0
      obtain ⟨c', a1, a2, a3⟩ := hre i0 p0 h00 hk0
      refine hno (c' - c) i0 (by omega) (by rw [jj, show c + (c' - c) = c' by omega]; exact a3) ?_
      exact (hat i0 p0 h00).trans (by rw [hk0])
theorem nsearch (R : NSet w s.heap S L es ep t) {x : Addr} {k : NestedKey} (hx : NestedIs s.heap k (.ref x)) (hdp : k.depth ≤ 8) (hu : A.units + 8 < cLine) {Q : SetFound → Shared → Prop} (hin : k ∈ L.map (·.1) → Q (.there none) s)
    (hout : ∀ K, k ∉ L.map (·.1) → way t.mask (k.hash w) K ∉ t.place.toList → (∀ c, c < K → way t.mask (k.hash w) c ∈ t.place.toList) → Q (.free (way t.mask (k.hash w) K) false) s) :
    wpAny (model P w) A (setSearch S (.ref x) (k.hash w) true) Q E s := by
  have hroom := R.room
  obtain ⟨K, hKf, hK, hKb⟩ := R.tab.first (by rw [List.length_map]; omega) (k.hash w)
  have hbig : K < 100000 := by
    have z : 10 * SetTable.turns t.mask ≤ 1420 := by
      unfold SetTable.turns
      rcases R.tab.mok with e | e | e <;> omega
    omega
  unfold setSearch
  refine nsearch_from R hx hdp hu hKf hK hKb hin (fun hn => hout K hn hK hKb) 100000 0 none rfl (Nat.zero_le _) (by omega) fun i p hp hk => ?_
  have hi : (L.map fun p => p.1.hash w)[i]? = some (k.hash w) := by rw [List.getElem?_map, hp, ← hk]; rfl
  have hil : i < t.place.toList.length := by
    have a1 : i < L.length := (List.getElem?_eq_some_iff.mp hp).1
    have a2 := R.tab.sz
    rw [List.length_map] at a2
    rw [Array.length_toList]
    omega
  have hj := List.getElem?_eq_getElem hil
  obtain ⟨c, hc, e⟩ := R.tab.before hK hi hj
  exact ⟨c, Nat.zero_le _, hc, by rw [hj, e]⟩
theorem pick_map {α β : Type} {f : α → Option β} {g : α → β} : ∀ {l : List α}, (∀ x ∈ l, f x = some (g x)) → l.filterMap f = l.map g
  | [], _ => rfl
  | x :: r, h => by
    rw [List.filterMap_cons_some (h x List.mem_cons_self), List.map_cons, pick_map fun y hy => h y (List.mem_cons_of_mem _ hy)]
theorem nrelay {o : Obj} (ho : s.heap.get? S = some o) (hex : o.ExactSet) (hd : o.data = .set es ep t) (hrows : es.toList = L.map fun p => (p.1.hash w, Value.ref p.2)) (hsz : t.place.size = es.size) (hdm : t.dummies = #[]) (hfl : es.size ≤ t.mask)
    (nd : (L.map (·.1)).Nodup) (key : ∀ h', Heap.SameBut S s.heap h' → ∀ p ∈ L, NestedIs h' p.1 (.ref p.2) ∧ p.1.depth ≤ 8) (ld : w.params.followText "set-order" = true ∨ t.led = true) (few : L.length < 64) {wanted M : Nat}
    (hw : SetTable.sizeAbove wanted - 1 = M) (hM : MaskOk M) (hw2 : SetTable.sizeAbove wanted ≤ 128) (hn : L.length * 5 < M * 3) {Q : Unit → Shared → Prop}
    (hQ : ∀ h' L' es' ep' t', Heap.SameBut S s.heap h' → NSet w h' S L' es' ep' t' → L'.Perm L → Q () { s with heap := h' }) : wpAny (model P w) A (setRelay S wanted) Q E s := by
  have hsl : es.size = L.length := by
    have q := congrArg List.length hrows
    simpa using q
  have hfits : t.fits es.size = true := by
    unfold SetTable.fits SetTable.fill
    rw [hdm, Bool.and_eq_true, beq_iff_eq, decide_eq_true_eq]
    show t.place.size = es.size ∧ t.place.size + 0 ≤ t.mask
    omega
  obtain ⟨t', order, e, hp, T, em, el, _, ed⟩ := relaid_ok t (hs := es.map (·.1)) (wanted := wanted) hw hM (by rw [Array.size_map, hsl]; omega)
  rw [Array.size_map, hsl] at hp
  have at_ : ∀ i, es[i]? = (L[i]?).map (fun p : NestedKey × Addr => (p.1.hash w, Value.ref p.2)) := fun i => by rw [← Array.getElem?_toList, hrows, List.getElem?_map]
  have r1 : (order.filterMap (es[·]?)).toList = (order.toList.filterMap (L[·]?)).map (fun p : NestedKey × Addr => (p.1.hash w, Value.ref p.2)) := by
    rw [Array.toList_filterMap, List.map_filterMap]
    congr 1
    funext i
    exact at_ i
  have r2 : (order.toList.filterMap (L[·]?)).Perm L := by
    have q := hp.filterMap (L[·]?)
    rw [range_pick, List.take_length] at q
    exact q
  have r3 : ((order.toList.filterMap (L[·]?)).map fun p : NestedKey × Addr => p.1.hash w) = order.toList.map fun i => (es.map (·.1)).getD i 0 := by
    rw [List.map_filterMap]
    refine pick_map fun i hi => ?_
    have hlt : i < L.length := List.mem_range.mp (hp.mem_iff.mp hi)
    have e5 : (es.map (·.1))[i]? = some (L[i].1.hash w) := by rw [Array.getElem?_map, at_ i, List.getElem?_eq_getElem hlt]; rfl
    rw [List.getElem?_eq_getElem hlt]
    simp [Array.getD_eq_getD_getElem?, e5]
  generalize order.toList.filterMap (L[·]?) = L2 at r1 r2 r3
  rw [← r3] at T
  have hs2 : (order.filterMap (es[·]?)).size = es.size := by
    have q := congrArg List.length r1
    rw [Array.length_toList, List.length_map, r2.length_eq] at q
    rw [q, hsl]
  rw [setRelay_eq]
  refine wpAny_bind (wpAny_setState_of ho hd hfits ?_)
  dsimp only
  refine wp_if_neg (by rw [sizeLine_eq]; omega) ?_
  try refine wpAny_bind (wpAny_pure ?_)
  rw [e]
  dsimp only
  refine wpAny_bind ?_
  refine wp_if_neg (by rw [hs2]; simp) ?_
  try refine wpAny_bind (wpAny_pure ?_)
  refine wpAny_pure ?_
  dsimp only
  refine wpAny_storeSet_of ho hd ?_ (by rw [hs2, hsl, sizeLine_eq]; omega)
  have sb : Heap.SameBut S s.heap (s.heap.update S (Obj.putSet (order.filterMap (es[·]?)) t')) := Heap.SameBut.update ..
  refine hQ _ L2 (order.filterMap (es[·]?)) (ep + 1) t' sb ?_ r2
  refine ⟨⟨_, store_at ho hd, ⟨hex.1, hex.2.1, hex.2.2⟩, rfl⟩, r1, T, ?_, fun p hpm => key _ sb p (r2.mem_iff.mp hpm), by rw [el]; exact ld, ?_, by rw [r2.length_eq]; exact few⟩
  · exact (r2.map (·.1)).nodup_iff.mpr nd
  · rw [r2.length_eq, em]
    exact hn
theorem nis_same {h h' : Heap} {k : NestedKey} {v : Value} {o : Obj} (x : NestedIs h k v) (ho : h.get? S = some o) (hd : o.data = .set es ep t) (hs : Heap.SameBut S h h') : NestedIs h' k v :=
  NestedIs.at (fun a ob vs n e d => (hs.2 a fun z => by
    rw [z, ho] at e
    cases e
    rw [hd] at d
    cases d).trans e) k v x
theorem nadd (R : NSet w s.heap S L es ep t) {x : Addr} {k : NestedKey} (hx : NestedIs s.heap k (.ref x)) (hdp : k.depth ≤ 8) (hu : A.units + 8 < cLine) (hfew : L.length + 1 < 64) {Q : Bool → Shared → Prop}
    (hQ : ∀ b h' L' es' ep' t', Heap.SameBut S s.heap h' → NSet w h' S L' es' ep' t' → (k ∈ L.map (·.1) → L' = L) → (k ∉ L.map (·.1) → L'.Perm ((k, x) :: L)) → Q b { s with heap := h' }) :
    wpAny (model P w) A (setAddHashed S (.ref x) (k.hash w)) Q E s := by
  obtain ⟨o, ho, hex, hd⟩ := R.ob
  have hsl := R.size
  have hroom := R.room
  unfold setAddHashed
  refine wpAny_holding ?_
  rw [show (100000 : Nat) = 99999 + 1 from rfl, setAddHashedIn_succ]
  refine wpAny_bind (wpAny_setState_of ho hd R.fits ?_)
  dsimp only
  refine wp_if_neg (by simp [byScan, Value.scannable]) ?_
  try refine wpAny_bind (wpAny_pure ?_)
  refine wpAny_bind (nsearch R hx hdp hu (fun hm => ?_) fun K hm hK hb => ?_)
  · dsimp only
    exact wpAny_pure (hQ false s.heap L es ep t (Heap.SameBut.refl S s.heap) R (fun _ => rfl) fun z => absurd hm z)
  · dsimp only
    refine wpAny_bind (wpAny_setState_of ho hd R.fits ?_)
    dsimp only
    obtain ⟨q1, q2, q3, q4, q5, q6, q7, q8, q9⟩ := R.tab.put hK hb
    generalize hpt : t.put (way t.mask (k.hash w) K) = pt at q1 q3 q4 q5 q6 q7 q8 q9 ⊢
    obtain ⟨t1, p⟩ := pt
    dsimp only at q1 q3 q4 q5 q6 q7 q8 q9 ⊢
    subst q1
    generalize hpp : SetTable.below t.place (way t.mask (k.hash w) K) = p at q2 q3 ⊢
    have pm := put_perm L p (k, x)
    have hin : (SetTable.insertAt es p (k.hash w, Value.ref x)).toList = (L.take p ++ (k, x) :: L.drop p).map fun z : NestedKey × Addr => (z.1.hash w, Value.ref z.2) := by
      rw [SetTable.toList_insertAt, R.rows, List.map_append, List.map_cons, List.map_take, List.map_drop]
    have hhs : (L.take p ++ (k, x) :: L.drop p).map (fun z : NestedKey × Addr => z.1.hash w) = (L.map fun z => z.1.hash w).take p ++ k.hash w :: (L.map fun z => z.1.hash w).drop p := by
      rw [List.map_append, List.map_cons, List.map_take, List.map_drop]
    rw [← hhs] at q3
    have hlen : (L.take p ++ (k, x) :: L.drop p).length = L.length + 1 := pm.length_eq
    generalize L.take p ++ (k, x) :: L.drop p = L1 at pm hin q3 hlen
    have hes : (SetTable.insertAt es p (k.hash w, Value.ref x)).size = L.length + 1 := by
      have z := congrArg List.length hin
      rw [Array.length_toList, List.length_map, hlen] at z
      exact z
    generalize SetTable.insertAt es p (k.hash w, Value.ref x) = es1 at hin hes ⊢
    have nd1 : (L1.map (·.1)).Nodup := by
      refine (pm.map (·.1)).nodup_iff.mpr ?_
      rw [List.map_cons]
      exact List.nodup_cons.mpr ⟨hm, R.nd⟩
    have key1 : ∀ h', Heap.SameBut S s.heap h' → ∀ z ∈ L1, NestedIs h' z.1 (.ref z.2) ∧ z.1.depth ≤ 8 := fun h' sb z hz => by
      rcases List.mem_cons.mp (pm.mem_iff.mp hz) with e | hz
      · rw [e]; exact ⟨nis_same hx ho hd sb, hdp⟩
      · exact ⟨nis_same (R.key z hz).1 ho hd sb, (R.key z hz).2⟩
    have fin : ∀ t2 : SetTable, TabOk t2 (L1.map fun z => z.1.hash w) → t2.mask = t1.mask → t2.led = t1.led → t2.fill = t1.fill →
        wpAny (model P w) A (storeSet S es1 t2 >>= fun _ => if (!false && t2.tooFull) = true then setRelay S (SetTable.grown (es.size + 1)) >>= fun _ => pure true else pure true) Q E s := by
      intro t2 T2 f1 f2 f3
      refine wpAny_bind (wpAny_storeSet_of ho hd ?_ (by rw [hes, sizeLine_eq]; omega))
      have sb : Heap.SameBut S s.heap (s.heap.update S (Obj.putSet es1 t2)) := Heap.SameBut.update ..
      have ho1 := store_at (es' := es1) (t' := t2) ho hd
      generalize s.heap.update S (Obj.putSet es1 t2) = h1 at sb ho1 ⊢
      have ld1 : w.params.followText "set-order" = true ∨ t2.led = true := by rw [f2, q5]; exact R.led
      have full : t2.tooFull = decide ((L.length + 1) * 5 ≥ t.mask * 3) := by
        unfold SetTable.tooFull
        rw [f3, q9, List.length_map, f1, q4]
      have hsz1 : t2.place.size = es1.size := by
        have z := T2.sz
        rw [List.length_map, hlen] at z
        rw [z, hes]
      by_cases hf : (L.length + 1) * 5 ≥ t.mask * 3
      · refine wp_if_pos (by rw [full, decide_eq_true hf]; rfl) ?_
        refine wpAny_bind ?_
        rw [hsl]
        have go : ∀ M, SetTable.sizeAbove (SetTable.grown (L.length + 1)) - 1 = M → MaskOk M → SetTable.sizeAbove (SetTable.grown (L.length + 1)) ≤ 128 → (L.length + 1) * 5 < M * 3 → es1.size ≤ t2.mask →
            wpAny (model P w) A (setRelay S (SetTable.grown (L.length + 1))) (fun _ u => wpAny (model P w) A (pure true) Q E u) E { s with heap := h1 } := fun M m1 m2 m3 m4 m5 => by
          refine nrelay (s := { s with heap := h1 }) ho1 ⟨hex.1, hex.2.1, hex.2.2⟩ rfl hin hsz1 T2.dm m5 nd1 (fun h' sb' => key1 h' (sb.trans sb')) ld1 (by rw [hlen]; exact hfew) m1 m2 m3 (by rw [hlen]; exact m4) ?_
          intro h2 L2 es2 ep2 t3 sb2 R2 pm2
          exact wpAny_pure (hQ true h2 L2 es2 ep2 t3 (sb.trans sb2) R2 (fun z => absurd z hm) fun _ => pm2.trans pm)
        rcases R.tab.mok with e | e | e
        · rw [e] at hf hroom
          have e2 : L.length = 4 := by omega
          exact go 31 (by rw [e2, size_20]) (.inr (.inl rfl)) (by rw [e2, size_20]; decide) (by omega) (by rw [hes, f1, q4, e, e2]; decide)
        · rw [e] at hf hroom
          have e2 : L.length = 18 := by omega
          exact go 127 (by rw [e2, size_76]) (.inr (.inr rfl)) (by rw [e2, size_76]; decide) (by omega) (by rw [hes, f1, q4, e, e2]; decide)
        · rw [e] at hf
          omega
      · refine wp_if_neg (by rw [full, decide_eq_false hf]; decide) ?_
        refine wpAny_pure (hQ true h1 L1 es1 (ep + 1) t2 sb ⟨⟨_, ho1, ⟨hex.1, hex.2.1, hex.2.2⟩, rfl⟩, hin, T2, nd1, key1 h1 sb, ld1, ?_, by rw [hlen]; exact hfew⟩ (fun z => absurd z hm) fun _ => pm)
        rw [hlen, f1, q4]
        omega
    cases hp : t1.plain with
    | true =>
      refine wp_if_pos rfl (wpAny_bind (hashBy_key 8 hx fun c => ?_))
      cases c with
      | true => exact fin t1 q3 rfl rfl rfl
      | false => exact fin { t1 with plain := false } ⟨q3.ris, q3.dm, q3.sz, q3.mok, q3.bd, q3.reach⟩ rfl rfl rfl
    | false =>
      refine wp_if_neg (by decide) (wpAny_bind (wpAny_pure ?_))
      exact fin t1 q3 rfl rfl rfl
end
end SG
namespace SG
open PySem PySem.Spec PyProof.Rows L2
section
variable {P : Program} {w : World} {A : Around} {E : Value → Shared → Prop} {s : Shared}
theorem NSet.keep {h h' : Heap} {S : Addr} {L : List (NestedKey × Addr)} {es : Array (Int × Value)} {ep : Nat} {t : SetTable} (R : NSet w h S L es ep t) (hS : ∀ o, h.get? S = some o → h'.get? S = some o) (hk : ∀ p ∈ L, NestedIs h' p.1 (.ref p.2)) : NSet w h' S L es ep t := by
  obtain ⟨o, ho, r⟩ := R.ob
  exact ⟨⟨o, hS o ho, r⟩, R.rows, R.tab, R.nd, fun p hp => ⟨hk p hp, (R.key p hp).2⟩, R.led, R.room, R.few⟩
theorem nset_fresh {h : Heap} {S : Addr} (e : h.get? S = some (emptySet w)) : NSet w h S [] #[] 0 (.fresh 0 0 (!w.params.followText "set-order")) :=
  ⟨⟨_, e, ⟨rfl, rfl, rfl⟩, rfl⟩, rfl, tab_fresh _, List.nodup_nil, fun p hp => (by cases hp), by
    show _ ∨ (!w.params.followText "set-order") = true
    cases w.params.followText "set-order" <;> simp, by show 0 * 5 < 7 * 3; decide, by show 0 < 64; decide⟩
/-- what the set has of the first i things -/
structure Has (ks : List (NestedKey × Addr)) (i : Nat) (L : List (NestedKey × Addr)) : Prop where
  sub : ∀ p ∈ L, p ∈ ks
  all : ∀ p ∈ ks.take i, p.1 ∈ L.map (·.1)
  len : L.length ≤ i
theorem nloop {I S : Addr} {ks : List (NestedKey × Addr)} {fp wr : List Addr} {G : Array GenState → Array GenState → Prop} {n : Nat} {Pv : Nat → Value → Prop} {St : Nat → Shared → Prop} {R : Result → Shared → Prop}
    (W : WalksS P w A.in1 I fp wr G n Pv St) (hSf : S ∉ fp) (hn : n = ks.length) (hfew : ks.length < 64) (hval : ∀ i v, Pv i v → ∃ p, ks[i]? = some p ∧ v = .ref p.2)
    (h0 : Heap) (hk : ∀ p ∈ ks, NestedIs h0 p.1 (.ref p.2) ∧ p.1.depth ≤ 8) (hS0 : h0.get? S = none) (hw0 : ∀ b ∈ wr, h0.get? b = none) (hu : A.units + 20 < cLine)
    (hR : ∀ u L es ep t, NSet w u.heap S L es ep t → Has ks n L → (∀ b o, h0.get? b = some o → u.heap.get? b = some o) → G s.gens u.gens → u.drawn = s.drawn → u.os = s.os → R (.ok (.ret .none)) u) :
    ∀ (m i : Nat) (u : Shared), n - i = m → i ≤ n → St i u → (∀ b o, h0.get? b = some o → u.heap.get? b = some o) → (∃ L es ep t, NSet w u.heap S L es ep t ∧ Has ks i L) → G s.gens u.gens → u.drawn = s.drawn → u.os = s.os →
      codeAny (model P w) A (.builtin "set.update.loop" ⟨[.ref S, .ref I], []⟩) R u := by
  have hSw : S ∉ wr := fun h => hSf (W.sub _ h)
  have keepM : ∀ {u v : Shared}, Moved wr G u v → (∀ b o, h0.get? b = some o → u.heap.get? b = some o) → ∀ b o, h0.get? b = some o → v.heap.get? b = some o := fun hm hkp b o e =>
    hm.heap b o (fun hb => by rw [hw0 b hb] at e; cases e) (hkp b o e)
  intro m
  induction m with
  | zero =>
    intro i u hm hi hst hkp ⟨L, es, ep, t, hS, g⟩ g1 g2 g3
    have hin : i = n := by omega
    subst hin
    refine codeAny_builtin F.entry_set_update_loop ?_
    rw [Around.under_plainId F.plain_set_update_loop _]
    show wpAny _ A.in1 (pyNext (.ref I) >>= _) _ _ u
    refine wpAny_bind (W.done u _ _ hst fun v mv => ?_)
    show wpAny _ A.in1 (ret Value.none) _ _ v
    have hkp' := keepM mv hkp
    exact wpAny_pure (hR v L es ep t (hS.keep (fun o e => mv.heap S o hSw e) fun p hp => nIs_keep (hk p (g.sub p hp)).1 hkp') g hkp' (W.gtrans _ _ _ g1 mv.gens) (mv.drawn.trans g2) (mv.os.trans g3))
  | succ m ih =>
    intro i u hm hi hst hkp ⟨L, es, ep, t, hS, g⟩ g1 g2 g3
    have hlt : i < n := by omega
    refine codeAny_builtin F.entry_set_update_loop ?_
    rw [Around.under_plainId F.plain_set_update_loop _]
    show wpAny _ A.in1 (pyNext (.ref I) >>= _) _ _ u
    refine wpAny_bind (W.item i u _ _ hlt hst fun v u1 hP hst1 mv => ?_)
    obtain ⟨p, hp, rfl⟩ := hval i v hP
    have hkp1 := keepM mv hkp
    have hS1 : NSet w u1.heap S L es ep t := hS.keep (fun o e => mv.heap S o hSw e) fun q hq => nIs_keep (hk q (g.sub q hq)).1 hkp1
    obtain ⟨pk, pd⟩ := hk p (List.mem_of_getElem? hp)
    have hx : NestedIs u1.heap p.1 (.ref p.2) := nIs_keep pk hkp1
    show wpAny _ A.in1 (holding [Value.ref p.2] (setAdd S (.ref p.2)) >>= _) _ _ u1
    refine wpAny_bind (wpAny_holding ?_)
    unfold setAdd
    refine wpAny_holding ?_
    refine wpAny_bind ((nestedKind P w).pyHash (A := A.in1) (k := p.1) (show A.units + 1 + 8 < cLine by omega) ⟨hx, pd⟩ ?_)
    have hl := g.len
    refine nadd (s := { u1 with toks := u1.toks + (nestedKind P w).draws p.1 }) hS1 hx pd (show A.units + 1 + 8 < cLine by omega) (by omega) fun b h2 L2 es2 ep2 t2 sb R2 c1 c2 => ?_
    have g' : Has ks (i + 1) L2 := by
      have tk : ks.take (i + 1) = ks.take i ++ [p] := by rw [List.take_succ, hp]; rfl
      by_cases c : p.1 ∈ L.map (·.1)
      · rw [c1 c]
        refine ⟨g.sub, fun q hq => ?_, by omega⟩
        rw [tk] at hq
        rcases List.mem_append.mp hq with z | z
        · exact g.all q z
        · rw [List.mem_singleton.mp z]; exact c
      · have pm := c2 c
        refine ⟨fun q hq => ?_, fun q hq => ?_, by rw [pm.length_eq]; exact Nat.succ_le_succ hl⟩
        · rcases List.mem_cons.mp (pm.mem_iff.mp hq) with z | z
          · rw [z]; exact List.mem_of_getElem? hp
          · exact g.sub q z
        · rw [tk] at hq
          refine (pm.map (·.1)).mem_iff.mpr ?_
          rw [List.map_cons]
          rcases List.mem_append.mp hq with z | z
          · exact List.mem_cons_of_mem _ (g.all q z)
          · rw [List.mem_singleton.mp z]; exact List.mem_cons_self
    have hkp2 : ∀ b o, h0.get? b = some o → h2.get? b = some o := fun b o e => (sb.2 b fun z => by rw [z, hS0] at e; cases e).trans (hkp1 b o e)
    refine wpAny_pure ⟨plainId_quiet F.plain_set_update_loop _, ?_⟩
    refine ih (i + 1) _ (by omega) hlt (W.frame _ u1 _ _ hst1 (Nat.le_add_right _ _) fun b hb o e => (sb.2 b fun z => hSf (by rw [← z]; exact hb)).trans e) hkp2 ⟨L2, es2, ep2, t2, R2, g'⟩ (W.gtrans _ _ _ g1 mv.gens) (mv.drawn.trans g2) (mv.os.trans g3)
theorem call_nset {l : Addr} {ks : List (NestedKey × Addr)} {Q : Value → Shared → Prop} (hh : A.handled = none) (hl : s.heap.IsList l (ks.map fun p => Value.ref p.2).toArray) (hk : ∀ p ∈ ks, NestedIs s.heap p.1 (.ref p.2) ∧ p.1.depth ≤ 8) (hfew : ks.length < 64) (hu : A.units + 40 < cLine)
    (h : ∀ (h' : Heap) (tk : Nat) L, (∃ es ep t, NSet w h' s.heap.objs.size L es ep t) → Has ks ks.length L → (∀ b o, s.heap.get? b = some o → h'.get? b = some o) → Q (.ref s.heap.objs.size) { s with heap := h', toks := tk }) :
    wpAny (model P w) A (call (.type "set") [.ref l]) Q E s := by
  refine call_set_by (fun h' => ∃ L, (∃ es ep t, NSet w h' s.heap.objs.size L es ep t) ∧ Has ks ks.length L) hl (fun R hR => ?_) fun h' tk ⟨L, hL, g⟩ kp => h h' tk L hL g kp
  have hlt : l < s.heap.objs.size := Heap.lt_size hl.choose_spec.1
  have zH : (setHp w s.heap).objs.size = s.heap.objs.size + 1 := Heap.size_push ..
  have hne : l ≠ (setHp w s.heap).objs.size := by rw [zH]; exact Nat.ne_of_lt (Nat.lt_succ_of_lt hlt)
  have hh3 : A.in1.in1.in1.handled = none := by simp [hh]
  have none_of : ∀ b, s.heap.objs.size ≤ b → s.heap.get? b = none := fun b hb => by
    cases q : s.heap.get? b with
    | none => rfl
    | some o => exact absurd (Nat.lt_of_lt_of_le (Heap.lt_size q) hb) (Nat.lt_irrefl _)
  have atS : (setIt w s.heap l).get? s.heap.objs.size = some (emptySet w) := Heap.get?_push_of_some _ (Heap.get?_push_size _ rfl)
  have nS2 : s.heap.objs.size ∉ [(setHp w s.heap).objs.size, l] := by
    rw [zH]
    simp only [List.mem_cons, List.not_mem_nil, or_false, not_or]
    exact ⟨Nat.ne_of_lt (Nat.lt_succ_self _), Nat.ne_of_gt hlt⟩
  refine nloop (A := A.in1.in1) (s := s) (ks := ks) ((Walks.list (prog := P) (w := w) hh3 (setHp w s.heap).objs.size l hne _).toS) nS2 (by simp) hfew (fun i v hv => ?_) s.heap hk (none_of _ (Nat.le_refl _)) (fun b hb => none_of b (by rw [List.mem_singleton.mp hb, zH]; exact Nat.le_succ _))
    (show A.units + 1 + 1 + 20 < cLine by omega) (fun u L es ep t R2 g kp g1 g2 g3 => ?_) _ 0 _ rfl (Nat.zero_le _) ⟨⟨_, Heap.get?_push_size _ rfl, rfl, rfl⟩, (hl.push _).push _⟩ (fun b o e => Heap.get?_push_of_some _ (Heap.get?_push_of_some _ e)) ⟨[], #[], 0, _, nset_fresh atS, ⟨fun p hp => (by cases hp), fun p hp => (by simp at hp), Nat.le_refl _⟩⟩ rfl rfl rfl
  · have hv' : (ks.map fun p => Value.ref p.2)[i]? = some v := by simpa using hv
    rw [List.getElem?_map] at hv'
    obtain ⟨p, e1, e2⟩ := Option.map_eq_some_iff.mp hv'
    exact ⟨p, e1, e2.symm⟩
  · obtain ⟨h3, g3', d3, tk3, os3⟩ := u
    have eg : g3' = s.gens := g1
    have ed : d3 = s.drawn := g2
    have eo : os3 = s.os := g3
    subst eg
    subst ed
    subst eo
    have e : (ks.map fun p => Value.ref p.2).toArray.size = ks.length := by simp
    rw [e] at g
    exact hR h3 tk3 ⟨L, ⟨es, ep, t, R2⟩, g⟩ kp
end
end SG
namespace SG
open PySem PySem.Spec PyProof.Rows L2
section
variable {P : Program} {w : World} {A : Around} {E : Value → Shared → Prop} {s : Shared}
theorem each_refs {β : Type} (f : β → Addr) : ∀ (bs : List β), PySem.W.EachIs (fun (v : Value) (b : β) => v = .ref (f b)) (bs.map fun b => Value.ref (f b)) bs
  | [] => .nil
  | b :: r => .cons rfl (each_refs f r)
theorem refs_each {β : Type} (f : β → Addr) : ∀ {vs : List Value} {bs : List β}, PySem.W.EachIs (fun (v : Value) (b : β) => v = .ref (f b)) vs bs → vs = bs.map fun b => Value.ref (f b)
  | _, _, .nil => rfl
  | _, _, .cons e r => by rw [e, refs_each f r]; rfl
theorem reads_each {β : Type} {h : Heap} {f : β → Addr} {enc : β → PyData} {G : List Addr → Prop} : ∀ {bs : List β}, (∀ b ∈ bs, ∃ as, Reads h (.ref (f b)) (enc b) as ∧ G as) → PySem.W.EachIs (fun (v : Value) (b : β) => ∃ as, Reads h v (enc b) as ∧ G as) (bs.map fun b => Value.ref (f b)) bs
  | [], _ => .nil
  | b :: r, hb => .cons (hb b List.mem_cons_self) (reads_each fun c hc => hb c (List.mem_cons_of_mem _ hc))
theorem dataLe_sorted {β : Type} (k : β → PyData) (l : List β) : (l.mergeSort (PySem.W.dataLe false k)).Pairwise fun a b => PySem.W.dataLe false k a b = true := by
  exact PySem.W.sort_pairwise (PySem.W.sortLe_total (PyProof.Rows.listOrd PyProof.Rows.itemOrd) false fun b => PySem.W.keyToks (k b)) l
theorem perm_map_inv {α β : Type} {f : α → β} : ∀ {L : List α} {vs : List β}, vs.Perm (L.map f) → ∃ L1 : List α, L1.Perm L ∧ vs = L1.map f
  | [], vs, h => ⟨[], .refl _, by simpa using h⟩
  | x :: r, vs, h => by
    have hm : f x ∈ vs := h.mem_iff.mpr (by simp)
    obtain ⟨a, b, rfl⟩ := List.append_of_mem hm
    have h2 : (a ++ b).Perm (r.map f) := by
      have q : (f x :: (a ++ b)).Perm (f x :: r.map f) := List.perm_middle.symm.trans h
      exact q.cons_inv
    obtain ⟨L1, p, e⟩ := perm_map_inv h2
    obtain ⟨la, lb, e1, e2, e3⟩ := List.map_eq_append_iff.mp e.symm
    refine ⟨la ++ x :: lb, ?_, by rw [List.map_append, List.map_cons, e2, e3]⟩
    rw [e1] at p
    exact List.perm_middle.trans (p.cons x)
theorem sorted_nset {S : Addr} {L : List (NestedKey × Addr)} {es : Array (Int × Value)} {ep : Nat} {t : SetTable} {D : NestedKey × Addr → PyData} {Q : Value → Shared → Prop} (R : NSet w s.heap S L es ep t) (hh : A.handled = none)
    (rd : ∀ p ∈ L, ∃ as, Reads s.heap (.ref p.2) (D p) as) (hd : ∀ p ∈ L, ∃ y r, D p = .tuple (y :: r)) (hal : ∀ p ∈ L, ∀ q ∈ L, fcmp (D p) (D q)) (hly : ∀ p ∈ L, (D p).canLay0 = true) (hu : ∀ p ∈ L, A.units + (D p).depth + 20 < cLine)
    (hQ : ∀ s' p (c : Nat) (L' : List (NestedKey × Addr)), (∀ b o, s.heap.get? b = some o → s'.heap.get? b = some o) → s'.gens = s.gens → s'.os = s.os → s.heap.objs.size ≤ p → s'.heap.get? p = some (seqObj "list" (L'.map fun q => Value.ref q.2).toArray c) → L'.Perm L →
      L'.Pairwise (fun a b => PySem.W.dataLe false D a b = true) → Q (.ref p) s') :
    wpAny (model P w) A (call (.builtin "sorted") [.ref S]) Q E s := by
  obtain ⟨o, ho, hex, hd2⟩ := R.ob
  have hsz := R.size
  have hfew := R.few
  refine Calls.call_function_entry kind_sorted plain_sorted entry_sorted (args_sorted1 _) ?_
  unfold Builtin.«sorted»
  refine wpAny_bind (m := checkCount "sorted" 1 1 _) (wpAny_pure ?_)
  refine wpAny_bind (collect_set (A := A.in1) hh ⟨o, ho, hex.1, hd2⟩ R.fits (by unfold scanBound; omega) R.tab.ris R.led fun s1 vs k1 hz g1 o1 pm => ?_)
  have hes : es.toList.map (·.2) = L.map fun q => Value.ref q.2 := by
    rw [R.rows, List.map_map]
    rfl
  rw [hes] at pm
  obtain ⟨L1, pL, rfl⟩ : ∃ L1 : List (NestedKey × Addr), L1.Perm L ∧ vs = L1.map fun q => Value.ref q.2 := by
    obtain ⟨L1, a, b⟩ := perm_map_inv pm
    exact ⟨L1, a, b⟩
  have hvl : L1.length < 64 := by rw [pL.length_eq]; exact hfew
  refine wpAny_bind (wpAny_newList ?_ (by rw [List.length_map, sizeLine_eq]; omega))
  have hoL : (s1.heap.push (seqObj "list" (L1.map fun q => Value.ref q.2).toArray 0)).get? s1.heap.objs.size = some (seqObj "list" (L1.map fun q => Value.ref q.2).toArray 0) := Heap.get?_push_size _ rfl
  have k2 : ∀ b o, s.heap.get? b = some o → (s1.heap.push (seqObj "list" (L1.map fun q => Value.ref q.2).toArray 0)).get? b = some o := fun b o e => Heap.get?_push_of_some _ (k1 b o e)
  refine wpAny_bind (wpAny_holding (list_sort_f (s := { s1 with heap := s1.heap.push (seqObj "list" (L1.map fun q => Value.ref q.2).toArray 0) }) (vs := L1.map fun q => Value.ref q.2) (bs := L1) (enc := D) (R := fun v b => v = .ref b.2) hoL (each_refs (fun q : NestedKey × Addr => q.2) L1)
    (reads_each (f := fun q : NestedKey × Addr => q.2) (G := fun as => s1.heap.objs.size ∉ as) fun b hb => ?_) ⟨fun a ha b hb => ?_, fun a ha => ?_⟩ (.inl fun a ha => ?_) (by rw [sizeLine_eq]; omega) (fun b hb => ?_) fun out hlen each => ?_))
  · obtain ⟨as, r⟩ := rd b (pL.mem_iff.mp hb)
    refine ⟨as, PyProof.Rows.Reads.keeps k2 r, fun z => ?_⟩
    obtain ⟨o', e'⟩ := PyProof.On.reads_mem_get r _ z
    exact absurd (Heap.lt_size (k1 _ _ e')) (Nat.lt_irrefl _)
  · obtain ⟨p, hp, rfl⟩ := List.mem_map.mp ha
    obtain ⟨q, hq, rfl⟩ := List.mem_map.mp hb
    exact hal p (pL.mem_iff.mp hp) q (pL.mem_iff.mp hq)
  · obtain ⟨p, hp, rfl⟩ := List.mem_map.mp ha
    exact hly p (pL.mem_iff.mp hp)
  · obtain ⟨p, hp, rfl⟩ := List.mem_map.mp ha
    exact hd p (pL.mem_iff.mp hp)
  · have := hu b (pL.mem_iff.mp hb)
    show A.units + 1 + 1 + (D b).depth < cLine
    omega
  · have eo := refs_each (fun q : NestedKey × Addr => q.2) each
    subst eo
    obtain ⟨c, hc⟩ := sortedHeap_at (vs := L1.map fun q => Value.ref q.2) (out := (List.map (fun b => Value.ref b.2) (L1.mergeSort (PySem.W.dataLe false D))).toArray) hoL
    refine wpAny_pure ⟨_, rfl, hQ _ s1.heap.objs.size c _ (fun b u e => ?_) g1 o1 hz hc ((List.mergeSort_perm L1 _).trans pL) (dataLe_sorted D L1)⟩
    have q := k1 b u e
    have hlt := Heap.lt_size q
    show (sortedHeap (s1.heap.push (seqObj "list" (L1.map fun q => Value.ref q.2).toArray 0)) s1.heap.objs.size _ _).get? b = some u
    rw [sortedHeap_old (Nat.ne_of_lt hlt) (by rw [size_push']; exact Nat.lt_succ_of_lt hlt)]
    exact Heap.get?_push_of_some _ q
end
end SG
namespace SG
open PySem PySem.Spec PyProof.Rows L2
mutual
theorem nis_of {h : Heap} : ∀ (v : PV) {u : Value} {as : List Addr} {k : NestedKey}, Reads h u v.dat as → v.key = some k → NestedIs h k u
  | .non, u, as, k, r, e => by
    unfold PV.dat at r; unfold PV.key at e
    cases e; cases r
    exact .none
  | .bl b, u, as, k, r, e => by
    unfold PV.dat at r; unfold PV.key at e
    cases e; cases r
    exact .bool rfl
  | .int i, u, as, k, r, e => by
    unfold PV.dat at r; unfold PV.key at e
    cases e; cases r
    exact .int _ _
  | .str x, u, as, k, r, e => by
    unfold PV.dat at r; unfold PV.key at e
    cases e; cases r
    exact .text _ _
  | .tup xs, u, as, k, r, e => by
    unfold PV.dat at r; unfold PV.key at e
    obtain ⟨ks, e1, rfl⟩ := Option.map_eq_some_iff.mp e
    cases r with
    | tuple h1 h2 h3 h4 => exact .tup h1 h2 h3 (nall_of xs h4 e1)
  | .lst _, u, as, k, r, e => by unfold PV.key at e; cases e
  | .ref _, u, as, k, r, e => by unfold PV.key at e; cases e
  | .fn _, u, as, k, r, e => by unfold PV.key at e; cases e
  | .emp, u, as, k, r, e => by unfold PV.key at e; cases e
theorem nall_of {h : Heap} : ∀ (xs : List PV) {us : List Value} {as : List Addr} {ks : List NestedKey}, ReadsAll h us (PV.dats xs) as → PV.keys xs = some ks → NestedAll h ks us
  | [], us, as, ks, r, e => by
    unfold PV.dats at r; unfold PV.keys at e
    cases e; cases r
    exact .nil
  | x :: xs, us, as, ks, r, e => by
    unfold PV.dats at r; unfold PV.keys at e
    cases e1 : PV.key x with
    | none => rw [e1] at e; cases e
    | some k =>
      cases e2 : PV.keys xs with
      | none => rw [e1, e2] at e; cases e
      | some kr =>
        rw [e1, e2] at e
        cases e
        cases r with
        | cons r1 r2 => exact .cons (nis_of x r1 e1) (nall_of xs r2 e2)
end
mutual
theorem alike_dat : ∀ (v : PV), v.pl = true → PySem.W.alike v.dat v.dat = true
  | .non, _ => by unfold PV.dat; rfl
  | .bl _, _ => by unfold PV.dat; rfl
  | .int _, _ => by unfold PV.dat; rfl
  | .str _, _ => by unfold PV.dat; rfl
  | .tup xs, h => by unfold PV.dat PySem.W.alike; exact alike_dats xs (by unfold PV.pl at h; exact h)
  | .lst xs, h => by unfold PV.dat PySem.W.alike; exact alike_dats xs (by unfold PV.pl at h; exact h)
  | .ref _, h => by unfold PV.pl at h; cases h
  | .fn _, h => by unfold PV.pl at h; cases h
  | .emp, h => by unfold PV.pl at h; cases h
theorem alike_dats : ∀ (xs : List PV), PV.pls xs = true → PySem.W.alikeAll (PV.dats xs) (PV.dats xs) = true
  | [], _ => by unfold PV.dats PySem.W.alikeAll; rfl
  | x :: r, h => by
    unfold PV.pls at h
    rw [Bool.and_eq_true_iff] at h
    unfold PV.dats PySem.W.alikeAll
    rw [alike_dat x h.1, alike_dats r h.2]
    rfl
end
section
variable {X : Cx} {ga : Str → Option Addr} {F : FS}
def setO (w : World) (a : Addr) (L : List (NestedKey × Addr)) : HO := .ext fun h => ∃ (es : Array (Int × Value)) (ep : Nat) (t : SetTable), (∃ o, h.get? a = some o ∧ o.ExactSet ∧ o.data = .set es ep t) ∧ es.toList = L.map (fun p => (p.1.hash w, Value.ref p.2)) ∧ TabOk t (L.map fun p => p.1.hash w) ∧ (L.map (·.1)).Nodup ∧ (∀ p ∈ L, p.1.depth ≤ 8) ∧
  (w.params.followText "set-order" = true ∨ t.led = true) ∧ L.length * 5 < t.mask * 3 ∧ L.length < 64
theorem setO_ok {P : Program} {w : World} {H : Hp} {h : Heap} {a : Addr} {L : List (NestedKey × Addr)} {es : Array (Int × Value)} {ep : Nat} {t : SetTable} (R : NSet w h a L es ep t) : ObjOk P w H h a (setO w a L) := by
  obtain ⟨o, ho, r⟩ := R.ob
  refine ⟨⟨es, ep, t, ⟨o, ho, r⟩, R.rows, R.tab, R.nd, fun p hp => (R.key p hp).2, R.led, R.room, R.few⟩, ⟨o, ho⟩, fun h1 h2 p k => ?_⟩
  obtain ⟨es', ep', t', ⟨o', ho', r'⟩, q'⟩ := p
  exact ⟨es', ep', t', ⟨o', k o' ho', r'⟩, q'⟩
def rSetN (K : PySem.W.Frag) (w : World) : List V → Hp → VK → Prop := fun xs H Q => ∃ (l : Addr) (ks : List (NestedKey × Addr)), xs = [.ref l] ∧ SqL K H l (ks.map fun p => V.ref p.2) ∧ ks.length < 64 ∧ (∀ p ∈ ks, ∃ v : PV, Dp K H (.ref p.2) v.dat ∧ v.key = some p.1 ∧ p.1.depth ≤ 8) ∧ ∀ a L, Has ks ks.length L → H a = none → Q (.ref a) (upd H a (setO w a L))
theorem vals_refs {ks : List (NestedKey × Addr)} : ∀ {its : List Value}, Vals (ks.map fun p => V.ref p.2) its → its = ks.map fun p => Value.ref p.2 := by
  induction ks with
  | nil => intro its h; cases h; rfl
  | cons p r ih =>
    intro its h
    rw [List.map_cons] at h
    cases h with
    | cons a b =>
      cases a
      rw [ih b]
      rfl
theorem refs_vals (ks : List (NestedKey × Addr)) : Vals (ks.map fun p => V.ref p.2) (ks.map fun p => Value.ref p.2) := by
  induction ks with
  | nil => exact .nil
  | cons p r ih => exact .cons rfl ih
theorem cr_setN (hc : X.calm = true) (hu : X.A.units + 65 < cLine) : CallR X (.type "set") (rSetN X.K X.w) := by
  intro pins s σ H xs us Q I rx h
  obtain ⟨l, ks, rfl, hl, hf, hk, q⟩ := h
  rw [Vals.ref1 rx]
  obtain ⟨its, rv, pl, hz⟩ := I.list hl
  have e := vals_refs rv
  subst e
  have hn : H s.heap.objs.size = none := I.hok.fresh (Nat.le_refl _)
  refine call_nset (I.ok.hd hc) pl.isList (fun p hp => ?_) hf (by omega) fun h' tk L hL g hkp => ?_
  · obtain ⟨v, d, e, h8⟩ := hk p hp
    obtain ⟨as, rd⟩ := Dp.reads I _ _ (.ref p.2) d rfl
    exact ⟨nis_of v rd e, h8⟩
  · obtain ⟨es, ep, t, R⟩ := hL
    exact ⟨.ref s.heap.objs.size, upd H s.heap.objs.size (setO X.w s.heap.objs.size L), I.laid (t' := tk) hkp (Nat.le_refl _) (setO_ok R), rfl, q _ L g hn⟩
def rSortN (K : PySem.W.Frag) (w : World) : List V → Hp → VK → Prop := fun xs H Q => ∃ (a : Addr) (L : List (NestedKey × Addr)) (D : NestedKey × Addr → PV), xs = [.ref a] ∧ H a = some (setO w a L) ∧ (∀ p ∈ L, Dp K H (.ref p.2) (D p).dat ∧ (D p).key = some p.1 ∧ ssItem (D p)) ∧ (∀ p ∈ L, ∀ q ∈ L, fcmp (D p).dat (D q).dat) ∧
  ∀ (p : Addr) (L' : List (NestedKey × Addr)), L'.Perm L → (L'.map (·.1)).Nodup → L'.Pairwise (fun a b => PySem.W.dataLt (D b).dat (D a).dat = false) → H p = none → Q (.ref p) (upd H p (.lst (L'.map fun q => V.ref q.2)))
theorem cr_sortN (hc : X.calm = true) (hu : X.A.units + 65 < cLine) : CallR X (.builtin "sorted") (rSortN X.K X.w) := by
  intro pins s σ H xs us Q I rx h
  obtain ⟨a, L, D, rfl, ha, hd, hal, q⟩ := h
  rw [Vals.ref1 rx]
  have rds : ∀ p ∈ L, ∃ as, Reads s.heap (.ref p.2) (D p).dat as := fun p hp => Dp.reads I _ _ (.ref p.2) (hd p hp).1 rfl
  obtain ⟨es, ep, t, ob, rows, tab, nd, dp8, led, room, few⟩ := (I.hok a _ ha).1
  have R : NSet X.w s.heap a L es ep t := ⟨ob, rows, tab, nd, fun p hp => ⟨let ⟨as, r⟩ := rds p hp; nis_of (D p) r (hd p hp).2.1, dp8 p hp⟩, led, room, few⟩
  refine sorted_nset (D := fun p => (D p).dat) R (I.ok.hd hc) rds (fun p hp => ?_) hal (fun p hp => ?_) (fun p hp => ?_) fun s' p c L' k g o hle hg pm pw => ?_
  · obtain ⟨y, r, _, e, _⟩ := (hd p hp).2.2
    rw [e]
    exact ⟨y.dat, PV.dats r, by rw [PV.dat, PV.dats]⟩
  · obtain ⟨_, _, _, _, _, _, hpl, _⟩ := (hd p hp).2.2
    exact PV.dat_lay _ hpl
  · obtain ⟨_, _, _, _, _, _, _, h40⟩ := (hd p hp).2.2
    rw [PV.dat_dep]
    omega
  · have hn : H p = none := I.hok.fresh hle
    have J : L2.Inv X pins σ (upd H p (.lst (L'.map fun q => V.ref q.2))) { s with heap := s'.heap, gens := s'.gens, drawn := s'.drawn, toks := s'.toks } :=
      I.call (ch := []) (Un.laid k hle hn) (I.hok.laid k hle ⟨by rw [List.length_map, pm.length_eq, sizeLine_eq]; omega, _, c, refs_vals L', hg⟩) (by rw [g]; exact I.bare) (fun _ z => nomatch z)
    have e : s' = { s with heap := s'.heap, gens := s'.gens, drawn := s'.drawn, toks := s'.toks } := by
      cases s'
      cases s
      cases o
      rfl
    rw [e]
    refine ⟨.ref p, _, J, rfl, q p L' pm ((pm.map (·.1)).nodup_iff.mpr nd) (pw.imp fun {a b} h => ?_) hn⟩
    have h' : (!PySem.W.dataLt (D b).dat (D a).dat) = true := h
    simpa using h'
/-- the things of a list as keys and places -/
theorem keyed {C : Ctx} {H : Hp} {M : Sto} {Z : Addr → Prop} : ∀ {xs : List PV} {ws : List V}, RepL C H M Z xs ws → (∀ v ∈ xs, ssItem v) → ∃ ks : List (NestedKey × Addr), ws = ks.map (fun p => V.ref p.2) ∧ ks.length = xs.length ∧ (∀ p ∈ ks, ∃ v ∈ xs, v.key = some p.1 ∧ Rep C H M Z v (.ref p.2)) ∧ ∀ v ∈ xs, ∃ p ∈ ks, v.key = some p.1
  | _, _, .nil, _ => ⟨[], rfl, rfl, fun p hp => (by cases hp), fun v hv => (by cases hv)⟩
  | _, _, @RepL.cons _ _ _ _ v x vs xs a b, h => by
    obtain ⟨ks, e1, e2, e3, e4⟩ := keyed b fun u hu => h u (List.mem_cons_of_mem _ hu)
    obtain ⟨y, r, k, rfl, hk, _⟩ := h v List.mem_cons_self
    obtain ⟨p, us, rfl, _⟩ := a.tup_inv
    refine ⟨(k, p) :: ks, by rw [e1]; rfl, by rw [List.length_cons, List.length_cons, e2], fun q hq => ?_, fun u hu => ?_⟩
    · rcases List.mem_cons.mp hq with z | z
      · rw [z]; exact ⟨_, List.mem_cons_self, hk, a⟩
      · obtain ⟨u, hu, r⟩ := e3 q z
        exact ⟨u, List.mem_cons_of_mem _ hu, r⟩
    · rcases List.mem_cons.mp hu with z | z
      · rw [z]; exact ⟨(k, p), List.mem_cons_self, hk⟩
      · obtain ⟨q, hq, r⟩ := e4 u z
        exact ⟨q, List.mem_cons_of_mem _ hq, r⟩
theorem repl_map {C : Ctx} {H : Hp} {M : Sto} {Z : Addr → Prop} {D : NestedKey × Addr → PV} : ∀ {L : List (NestedKey × Addr)}, (∀ p ∈ L, Rep C H M Z (D p) (.ref p.2)) → RepL C H M Z (L.map D) (L.map fun p => V.ref p.2)
  | [], _ => .nil
  | p :: r, h => .cons (h p List.mem_cons_self) (repl_map fun q hq => h q (List.mem_cons_of_mem _ hq))
/-- sorted(x) -/
def rSrt (K : PySem.W.Frag) : List V → Hp → VK → Prop := fun xs H Q => ∃ (l : Addr) (ps : List (V × PV)), xs = [.ref l] ∧ SqL K H l (ps.map (·.1)) ∧ (∀ p ∈ ps, Dp K H p.1 p.2.dat ∧ p.2.dep ≤ 40) ∧ AllCmp (ps.map fun p => p.2.dat) ∧ PySem.W.Sortable (ps.map fun p => p.2.dat) ∧
  ∀ p : Addr, H p = none → Q (.ref p) (upd H p (.lst ((ps.mergeSort fun a b => !PySem.W.dataLt b.2.dat a.2.dat).map (·.1))))
theorem each_of_vals {P : V × PV → Value → Prop} : ∀ {ps : List (V × PV)} {its : List Value}, Vals (ps.map (·.1)) its → (∀ p ∈ ps, ∀ u, RelV p.1 u → P p u) → PySem.W.EachIs (fun u p => P p u) its ps
  | [], _, h, _ => by cases h; exact .nil
  | p :: r, _, h, k => by
    rw [List.map_cons] at h
    cases h with
    | cons a b => exact .cons (k p List.mem_cons_self _ a) (each_of_vals b fun q hq => k q (List.mem_cons_of_mem _ hq))
theorem vals_of_each : ∀ {ps : List (V × PV)} {its : List Value}, PySem.W.EachIs (fun u (p : V × PV) => RelV p.1 u) its ps → Vals (ps.map (·.1)) its
  | _, _, .nil => .nil
  | _, _, .cons a b => .cons a (vals_of_each b)
theorem cr_srt (hc : X.calm = true) (hu : X.A.units + 65 < cLine) : CallR X (.builtin "sorted") (rSrt X.K) := by
  intro pins s σ H xs us Q I rx h
  obtain ⟨l, ps, rfl, hl, hd, hal, hk, q⟩ := h
  rw [Vals.ref1 rx]
  obtain ⟨its, rv, pl, hz⟩ := I.list hl
  rw [List.length_map] at hz
  have e1 : PySem.W.EachIs (fun u (p : V × PV) => RelV p.1 u) its ps := each_of_vals rv fun p _ u r => r
  have e2 : PySem.W.EachIs (fun u (p : V × PV) => ∃ as, Reads s.heap u p.2.dat as) its ps := each_of_vals rv fun p hp u r => Dp.reads I _ _ u (hd p hp).1 r
  refine sorted_f (enc := fun p : V × PV => p.2.dat) pl.isList e1 e2 hal hk hz (fun p hp => ?_) fun out hlen e3 => ?_
  · rw [PV.dat_dep]
    have := (hd p hp).2
    omega
  · obtain ⟨c, hc'⟩ := sortedAll_at s.heap its out.toArray
    have hn : H (s.heap.objs.size + 1) = none := I.hok.fresh (by omega)
    refine ⟨.ref (s.heap.objs.size + 1), upd H (s.heap.objs.size + 1) (.lst ((ps.mergeSort fun a b => !PySem.W.dataLt b.2.dat a.2.dat).map (·.1))), I.laid (t' := s.toks) (fun b o e => sortedAll_old e) (by omega) ⟨?_, out, c, vals_of_each e3, ?_⟩, rfl, q _ hn⟩
    · rw [List.length_map, List.length_mergeSort]; exact hz
    · simpa using hc'
theorem rep_pairs {C : Ctx} {H : Hp} {M : Sto} {Z : Addr → Prop} : ∀ {xs : List PV} {ws : List V}, RepL C H M Z xs ws → ∃ ps : List (V × PV), ws = ps.map (·.1) ∧ xs = ps.map (·.2) ∧ ∀ p ∈ ps, Rep C H M Z p.2 p.1
  | _, _, .nil => ⟨[], rfl, rfl, fun p hp => (by cases hp)⟩
  | _, _, @RepL.cons _ _ _ _ v x vs xs a b => by
    obtain ⟨ps, e1, e2, h⟩ := rep_pairs b
    refine ⟨(x, v) :: ps, by rw [e1]; rfl, by rw [e2]; rfl, fun p hp => ?_⟩
    rcases List.mem_cons.mp hp with z | z
    · rw [z]; exact a
    · exact h p z
theorem repl_pairs {C : Ctx} {H : Hp} {M : Sto} {Z : Addr → Prop} : ∀ {ps : List (V × PV)}, (∀ p ∈ ps, Rep C H M Z p.2 p.1) → RepL C H M Z (ps.map (·.2)) (ps.map (·.1))
  | [], _ => .nil
  | p :: r, h => .cons (h p List.mem_cons_self) (repl_pairs fun q hq => h q (List.mem_cons_of_mem _ hq))
theorem ps_srt {mt : Bool} {p pos : Pos} {a : Expr} {ea : E} (hc : X.calm = true) (hu : X.A.units + 65 < cLine) (hg : Gl X "sorted") (hm : X.mg "sorted" = none) (ha : PE X a (rd (ctx X ga) F ea)) (he : starEach [a] X.env = [(false, eval a X.env)]) :
    PE X (.Call (.Name "sorted" p) [a] [] pos) (rd (ctx X ga) F (.srt mt ea)) := by
  refine PE.imp (pe_callB (cr_srt hc hu) hg hm (by decide +kernel) (pa_cons ha pa_nil he) (by decide) (by decide) he rfl) fun σ H Q ⟨ρ, M, Z, Q', r, e, h, c⟩ => ?_
  refine ⟨ρ, M, Z, _, r, e, h, fun v x H1 M1 Z1 x1 r1 rv h1 => ?_⟩
  obtain ⟨xs, hlo, hpl, hkd, hal, q⟩ := h1
  obtain ⟨l, ws, rfl, hq, lr⟩ := rv.lo_inv r1 hlo
  obtain ⟨ps, rfl, rfl, hps⟩ := rep_pairs lr
  refine ⟨l, ps, rfl, hq.sq, fun z hz => ?_, ⟨fun d hd d' hd' => ?_, fun d hd => ?_⟩, ?_, fun p' hp' => ?_⟩
  · obtain ⟨h1, h2⟩ := hpl z.2 (List.mem_map.mpr ⟨z, hz, rfl⟩)
    exact ⟨(hps z hz).dp h1, h2⟩
  · obtain ⟨z, hz, rfl⟩ := List.mem_map.mp hd
    obtain ⟨u, hu, rfl⟩ := List.mem_map.mp hd'
    exact hal _ (List.mem_map.mpr ⟨z, hz, rfl⟩) _ (List.mem_map.mpr ⟨u, hu, rfl⟩)
  · obtain ⟨z, hz, rfl⟩ := List.mem_map.mp hd
    exact PV.dat_lay _ (hpl z.2 (List.mem_map.mpr ⟨z, hz, rfl⟩)).1
  · rcases hkd with hk | hk
    · refine .inl fun d hd => ?_
      obtain ⟨z, hz, rfl⟩ := List.mem_map.mp hd
      have := hk _ (List.mem_map.mpr ⟨z, hz, rfl⟩)
      cases e : z.2 <;> rw [e] at this <;> first | (cases this; done) | skip
      rename_i us
      cases us with
      | nil => cases this
      | cons y t => exact ⟨y.dat, PV.dats t, by rw [PV.dat, PV.dats]⟩
    · refine .inr fun d hd => ?_
      obtain ⟨z, hz, rfl⟩ := List.mem_map.mp hd
      have h1 := hk _ (List.mem_map.mpr ⟨z, hz, rfl⟩)
      have h2 := (hpl _ (List.mem_map.mpr ⟨z, hz, rfl⟩)).1
      cases e : z.2 <;> rw [e] at h1 h2 <;> first | (cases h1; done) | (simp [PV.dat]; done) | (simp [PV.pl] at h2; done)
  · have es : (ps.mergeSort fun a b => !PySem.W.dataLt b.2.dat a.2.dat).map (·.2) = psort (ps.map (·.2)) := by
      unfold psort
      exact List.map_mergeSort fun a _ b _ => rfl
    have rl : RepL (ctx X ga) H1 M1 Z1 (psort (ps.map (·.2))) ((ps.mergeSort fun a b => !PySem.W.dataLt b.2.dat a.2.dat).map (·.1)) := by
      rw [← es]
      exact repl_pairs fun z hz => hps z (List.mem_mergeSort.mp hz)
    exact Clo.newL (mt := mt) (fun v x H' M' Z' y => c v x H' M' Z' (x1.trans y)) r1 rl q hp'
open Classical in
/-- sorted(set(x)) -/
theorem ps_sset {mt : Bool} {p p2 pos pos2 : Pos} {a : Expr} {ea : E} (hc : X.calm = true) (hu : X.A.units + 65 < cLine) (hg : Gl X "sorted") (hm : X.mg "sorted" = none) (hg2 : Gl X "set") (hm2 : X.mg "set" = none) (ha : PE X a (rd (ctx X ga) F ea)) (he : starEach [a] X.env = [(false, eval a X.env)]) :
    PE X (.Call (.Name "sorted" p) [.Call (.Name "set" p2) [a] [] pos2] [] pos) (rd (ctx X ga) F (.sset mt ea)) := by
  have hset : PE X (.Call (.Name "set" p2) [a] [] pos2) (tCB (rSetN X.K X.w) (tCons (rd (ctx X ga) F ea) tNil)) :=
    pe_callTy (cr_setN hc hu) hg2 hm2 (by decide +kernel) (pa_cons ha pa_nil he) (by decide) (by decide) he rfl
  refine PE.imp (pe_callB (cr_sortN hc hu) hg hm (by decide +kernel) (pa_cons hset pa_nil rfl) (by decide) (by decide) rfl rfl) fun σ H Q ⟨ρ, M, Z, Q', r, e, h, c⟩ => ?_
  refine ⟨ρ, M, Z, _, r, e, h, fun v x H1 M1 Z1 x1 r1 rv h1 => ?_⟩
  obtain ⟨xs, hlo, h64, hit, hal, q⟩ := h1
  obtain ⟨l, ws, rfl, hq, lr⟩ := rv.lo_inv r1 hlo
  obtain ⟨ks, rfl, hlen, hks, hall⟩ := keyed lr hit
  let D : NestedKey × Addr → PV := fun z => if hz : ∃ v ∈ xs, v.key = some z.1 ∧ Rep (ctx X ga) H1 M1 Z1 v (.ref z.2) then Classical.choose hz else .non
  have hD : ∀ z ∈ ks, D z ∈ xs ∧ (D z).key = some z.1 ∧ Rep (ctx X ga) H1 M1 Z1 (D z) (.ref z.2) := fun z hz => by
    have hx := hks z hz
    have e : D z = Classical.choose hx := dif_pos hx
    rw [e]
    exact Classical.choose_spec hx
  refine ⟨l, ks, rfl, hq.sq, by omega, fun z hz => ?_, fun s L gL hs => ?_⟩
  · obtain ⟨h1, h2, h3⟩ := hD z hz
    obtain ⟨y, t, k, ey, hk, h8, hp, h40⟩ := hit _ h1
    rw [h2] at hk
    cases hk
    exact ⟨D z, h3.dp hp, h2, h8⟩
  have r2 : SR (ctx X ga) (upd H1 s (setO X.w s L)) M1 Z1 := r1.new hs
  have x2 : Ext H1 M1 Z1 (upd H1 s (setO X.w s L)) M1 Z1 := Ext.new hs
  refine ⟨s, L, D, rfl, upd_same, fun z hz => ?_, fun z hz u hu => hal _ (hD z (gL.sub z hz)).1 _ (hD u (gL.sub u hu)).1, fun p L' pm nd pw hp' => ?_⟩
  · obtain ⟨h1, h2, h3⟩ := hD z (gL.sub z hz)
    have hi := hit _ h1
    obtain ⟨y, t, k, ey, hk, h8, hp, h40⟩ := hi
    exact ⟨(h3.mono r1 x2).dp hp, h2, hit _ h1⟩
  · have sub : ∀ z ∈ L', z ∈ ks := fun z hz => gL.sub z (pm.mem_iff.mp hz)
    have ok : Sset xs (L'.map D) := by
      refine ⟨fun y hy => ?_, fun v hv => ?_, ?_, List.pairwise_map.mpr pw⟩
      · obtain ⟨z, hz, rfl⟩ := List.mem_map.mp hy
        exact (hD z (sub z hz)).1
      · obtain ⟨z, hz, ez⟩ := hall v hv
        have hin := gL.all z (by rw [List.take_length]; exact hz)
        obtain ⟨u, hu, eu⟩ := List.mem_map.mp hin
        exact ⟨D u, List.mem_map.mpr ⟨u, pm.mem_iff.mpr hu, rfl⟩, by rw [(hD u (gL.sub u hu)).2.1, ez, eu]⟩
      · rw [List.map_map]
        have e : L'.map (PV.key ∘ D) = (L'.map (·.1)).map some := by
          rw [List.map_map]
          exact List.map_congr_left fun z hz => (hD z (sub z hz)).2.1
        rw [e]
        exact List.pairwise_map.mpr (nd.imp fun h z => h (Option.some.inj z))
    exact Clo.newL (mt := mt) (fun v x H' M' Z' y => c v x H' M' Z' ((x1.trans x2).trans y)) r2 (repl_map fun z hz => (hD z (sub z hz)).2.2.mono r1 x2) (q _ ok) hp'
end
end SG
/-! dicts whose keys are tuples -/
namespace SG
open PySem PySem.Spec PyProof.Rows L2
section
variable {X : Cx} {ga : Str → Option Addr} {F : FS}
abbrev nk (X : Cx) : HeapKind X.prog X.w NestedKey := nestedKind X.prog X.w
/-- a thing that may be a key is told by its place -/
theorem key_is {pins : List (Addr × Obj)} {s : Shared} {σ : L2.St} {H : Hp} {M : Sto} {Z : Addr → Prop} {k : PV} {b : Addr} {n : NestedKey} (I : L2.Inv X pins σ H s) (rk : Rep (ctx X ga) H M Z k (.ref b)) (hp : k.pl = true) (hk : k.key = some n) (hd : n.depth ≤ 8) : (nk X).is s.heap n b := by
  obtain ⟨as, rd⟩ := Dp.reads I _ _ (.ref b) (rk.dp hp) rfl
  exact ⟨nis_of k rd hk, hd⟩
theorem kvr_is {pins : List (Addr × Obj)} {s : Shared} {σ : L2.St} {H : Hp} {M : Sto} {Z : Addr → Prop} (I : L2.Inv X pins σ H s) : ∀ {kvs : List (PV × PV)} {xs : List (NestedKey × Addr × Value)}, KVR (ctx X ga) H M Z kvs xs → ∀ x ∈ xs, (nk X).is s.heap x.1 x.2.1
  | _, _, .nil, x, hx => by cases hx
  | _, _, .cons h1 h2 h3 h4 h5 h6, x, hx => by
    rcases List.mem_cons.mp hx with e | e
    · subst e; exact key_is I h3 h2.2 h1 h2.1
    · exact kvr_is I h6 x e
/-- the dict of the store, as the model has it -/
theorem dict_at {pins : List (Addr × Obj)} {s : Shared} {σ : L2.St} {H : Hp} {M : Sto} {Z : Addr → Prop} {a : Addr} {kvs : List (PV × PV)} (I : L2.Inv X pins σ H s) (r : SR (ctx X ga) H M Z) {t : Array DictEntry × Nat} (m : M a = some (.dct kvs t)) :
    ∃ xs, s.heap.DictOfH (nk X) a xs ∧ KVR (ctx X ga) H M Z kvs xs ∧ (a == sysModules) = false ∧ Mut (H a) := by
  obtain ⟨o, hh, b⟩ := r.sto a _ m
  have mu := b.mut
  obtain ⟨xs, rfl, ns, he, nd, kv⟩ := b
  obtain ⟨q, hq, hc, hd⟩ := (I.hok a _ hh).1
  exact ⟨xs, ⟨q, t.1, t.2, hq, hc, hd, he, kvr_is I kv, nd⟩, kv, ns, by rw [hh]; exact mu⟩
theorem dict_ty {s : Shared} {a : Addr} {xs : List (NestedKey × Addr × Value)} (d : s.heap.DictOfH (nk X) a xs) : s.TypeIs (.ref a) "dict" ∧ ∀ b, Value.ref a = .ref b → ∃ ob, s.heap.get? b = some ob ∧ ob.dict = none := by
  refine ⟨d.typeIs, fun b e => ?_⟩
  cases e
  obtain ⟨o, _, _, h1, h2, _⟩ := d
  exact ⟨o, h1, h2.2.1⟩
theorem kvr_len {C : Ctx} {H : Hp} {M : Sto} {Z : Addr → Prop} {kvs : List (PV × PV)} {xs : List (NestedKey × Addr × Value)} (h : KVR C H M Z kvs xs) : kvs.length = xs.length := by
  induction h with
  | nil => rfl
  | cons _ _ _ _ _ _ ih => rw [List.length_cons, List.length_cons, ih]
/-- looking up -/
theorem kvr_look {C : Ctx} {H : Hp} {M : Sto} {Z : Addr → Prop} {k : PV} {n : NestedKey} (hk : k.key = some n) : ∀ {kvs : List (PV × PV)} {xs : List (NestedKey × Addr × Value)}, KVR C H M Z kvs xs →
    (dlook kvs k = none ∧ atKey xs n = none) ∨ ∃ v p x, dlook kvs k = some v ∧ atKey xs n = some p ∧ RelV x p.2 ∧ Rep C H M Z v x
  | _, _, .nil => .inl ⟨rfl, rfl⟩
  | _, _, @KVR.cons _ _ _ _ k' v n' b u x kvs es h1 h2 h3 h4 h5 h6 => by
    by_cases e : n' = n
    · have e' : k'.key = k.key := by rw [h1, hk, e]
      refine .inr ⟨v, (b, u), x, ?_, ?_, h4, h5⟩
      · unfold dlook; simp [e']
      · unfold atKey; simp [e]
    · have e' : ¬ k'.key = k.key := fun q => e (by rw [h1, hk] at q; exact Option.some.inj q)
      have a1 : dlook ((k', v) :: kvs) k = dlook kvs k := by unfold dlook; simp [e']
      have a2 : atKey ((n', b, u) :: es) n = atKey es n := by unfold atKey; simp [e]
      rw [a1, a2]
      exact kvr_look hk h6
/-- storing -/
theorem kvr_put {C : Ctx} {H : Hp} {M : Sto} {Z : Addr → Prop} {k v : PV} {n : NestedKey} {u : Value} {x : V} (hk : k.key = some n) (ru : RelV x u) (rv : Rep C H M Z v x) : ∀ {kvs : List (PV × PV)} {xs : List (NestedKey × Addr × Value)}, KVR C H M Z kvs xs →
    KVR C H M Z (kvs.map fun p => if p.1.key = k.key then (p.1, v) else p) (xs.map (putAt n u))
  | _, _, .nil => .nil
  | _, _, @KVR.cons _ _ _ _ k' v' n' b u' x' kvs es h1 h2 h3 h4 h5 h6 => by
    have ih := kvr_put hk ru rv h6
    rw [List.map_cons, List.map_cons]
    by_cases e : n' = n
    · have e' : k'.key = k.key := by rw [h1, hk, e]
      have a1 : (if (k', v').1.key = k.key then ((k', v').1, v) else (k', v')) = (k', v) := if_pos e'
      have a2 : putAt n u (n', b, u') = (n', b, u) := by unfold putAt; simp [e]
      rw [a1, a2]
      exact .cons h1 h2 h3 ru rv ih
    · have e' : ¬ k'.key = k.key := fun q => e (by rw [h1, hk] at q; exact Option.some.inj q)
      have a1 : (if (k', v').1.key = k.key then ((k', v').1, v) else (k', v')) = (k', v') := if_neg e'
      have a2 : putAt n u (n', b, u') = (n', b, u') := by unfold putAt; simp [e]
      rw [a1, a2]
      exact .cons h1 h2 h3 h4 h5 ih
theorem kvr_snoc {C : Ctx} {H : Hp} {M : Sto} {Z : Addr → Prop} {k v : PV} {n : NestedKey} {b : Addr} {u : Value} {x : V} (hk : k.key = some n) (hd : n.depth ≤ 8 ∧ k.pl = true) (rk : Rep C H M Z k (.ref b)) (ru : RelV x u) (rv : Rep C H M Z v x) : ∀ {kvs : List (PV × PV)} {xs : List (NestedKey × Addr × Value)}, KVR C H M Z kvs xs →
    KVR C H M Z (kvs ++ [(k, v)]) (xs ++ [(n, b, u)])
  | _, _, .nil => .cons hk hd rk ru rv .nil
  | _, _, .cons h1 h2 h3 h4 h5 h6 => .cons h1 h2 h3 h4 h5 (kvr_snoc hk hd rk ru rv h6)
theorem kvr_store {C : Ctx} {H : Hp} {M : Sto} {Z : Addr → Prop} {k v : PV} {n : NestedKey} {b : Addr} {u : Value} {x : V} (hk : k.key = some n) (hd : n.depth ≤ 8 ∧ k.pl = true) (rk : Rep C H M Z k (.ref b)) (ru : RelV x u) (rv : Rep C H M Z v x) {kvs : List (PV × PV)} {xs : List (NestedKey × Addr × Value)} (h : KVR C H M Z kvs xs) :
    KVR C H M Z (dstore kvs k v) (storedH xs n b u) := by
  unfold dstore storedH
  rcases kvr_look hk h with ⟨e1, e2⟩ | ⟨w, p, y, e1, e2, _⟩
  · rw [e1, e2]
    exact kvr_snoc hk hd rk ru rv h
  · rw [e1, e2]
    exact kvr_put hk ru rv h
/-- what stands of a dict in the heap -/
def dHO (a : Addr) (es : Array DictEntry) (ep : Nat) : HO := .ext fun h => DT.Raw h a es ep
theorem dHO_ok {P : Program} {w : World} {H : Hp} {h : Heap} {a : Addr} {es : Array DictEntry} {ep : Nat} (x : DT.Raw h a es ep) : ObjOk P w H h a (dHO a es ep) :=
  ⟨x, let ⟨o, ho, _⟩ := x; ⟨o, ho⟩, fun h1 h2 p k => p.at' k⟩
/-- d[k] = v -/
def rdset (C : Ctx) : V → V → V → Hp → (Hp → Prop) → Prop := fun x y z H Q =>
  ∃ a b v M Z Q', SR C H M Z ∧ Rep C H M Z a x ∧ Rep C H M Z b y ∧ Rep C H M Z v z ∧ dsetS a b v M Q' ∧ ∀ H' M' Z', Ext H M Z H' M' Z' → SR C H' M' Z' → Q' M' → Q H'
theorem put_dict {pins : List (Addr × Obj)} {s : Shared} {σ : L2.St} {H : Hp} {M : Sto} {Z : Addr → Prop} {p b : Addr} {k v : PV} {n : NestedKey} {u : Value} {x : V} {kvs : List (PV × PV)} {xs : List (NestedKey × Addr × Value)} {h' : Heap} {tk : Nat} (I : L2.Inv X pins σ H s) (r : SR (ctx X ga) H M Z) {t : Array DictEntry × Nat} (m : M p = some (.dct kvs t)) (ns : (p == sysModules) = false) (mu : Mut (H p))
    (kv : KVR (ctx X ga) H M Z kvs xs) (hk : k.key = some n) (hd : n.depth ≤ 8 ∧ k.pl = true) (rk : Rep (ctx X ga) H M Z k (.ref b)) (ru : RelV x u) (rv : Rep (ctx X ga) H M Z v x) (d' : h'.DictOfH (nk X) p (storedH xs n b u)) (sb : Heap.SameBut p s.heap h') :
    ∃ H' t', L2.Inv X pins σ H' { s with heap := h', toks := tk } ∧ Ext H M Z H' (M.put p (.dct (dstore kvs k v) t')) Z ∧ SR (ctx X ga) H' (M.put p (.dct (dstore kvs k v) t')) Z := by
  obtain ⟨o, es, ep, h1, h2, h3, h4, _, h6⟩ := d'
  refine ⟨upd H p (dHO p es ep), (es, ep), d_write I mu sb ⟨o, h1⟩ (dHO_ok ⟨o, h1, h2, h3⟩), Ext.wr m, r.wr m ⟨_, rfl, ns, h4, h6, kvr_store hk hd rk ru rv kv⟩⟩
/-! plain keys -/
theorem plain_at {pins : List (Addr × Obj)} {s : Shared} {σ : L2.St} {H : Hp} {M : Sto} {Z : Addr → Prop} {a : Addr} {kvs : List (Key × PV)} (I : L2.Inv X pins σ H s) (r : SR (ctx X ga) H M Z) {t : Array DictEntry × Nat} (m : M a = some (.dks kvs t)) :
    ∃ vs, s.heap.DictOf (mixKind X.prog X.w) a vs ∧ KSR (ctx X ga) H M Z kvs vs ∧ (a == sysModules) = false ∧ Mut (H a) := by
  obtain ⟨o, hh, b⟩ := r.sto a _ m
  have mu := b.mut
  obtain ⟨vs, rfl, ns, k1, k2, k3, kv⟩ := b
  obtain ⟨q, hq, hc, hd⟩ := (I.hok a _ hh).1
  exact ⟨vs, ⟨q, t.1, t.2, hq, hc, hd, k1, k2, k3⟩, kv, ns, by rw [hh]; exact mu⟩
theorem pk_rep {C : Ctx} {H : Hp} {M : Sto} {Z : Addr → Prop} {k : PV} {n : Key} {y : V} (h : k.pk = some n) (r : Rep C H M Z k y) : y = kV n := by
  cases k with
  | int i => cases h; exact r.int_inv
  | str i => cases h; exact r.str_inv
  | _ => cases h
theorem kPV_rep {C : Ctx} {H : Hp} {M : Sto} {Z : Addr → Prop} (n : Key) : Rep C H M Z (kPV n) (kV n) := by
  cases n with
  | inl i => exact .int i
  | inr x => exact .str x
theorem ksr_len {C : Ctx} {H : Hp} {M : Sto} {Z : Addr → Prop} {kvs : List (Key × PV)} {vs : List (Key × Value)} (h : KSR C H M Z kvs vs) : kvs.length = vs.length := by
  induction h with
  | nil => rfl
  | cons _ _ _ ih => rw [List.length_cons, List.length_cons, ih]
theorem ksr_look {C : Ctx} {H : Hp} {M : Sto} {Z : Addr → Prop} (n : Key) : ∀ {kvs : List (Key × PV)} {vs : List (Key × Value)}, KSR C H M Z kvs vs →
    (klook kvs n = none ∧ valueAt vs n = none) ∨ ∃ v u x, klook kvs n = some v ∧ valueAt vs n = some u ∧ RelV x u ∧ Rep C H M Z v x
  | _, _, .nil => .inl ⟨rfl, rfl⟩
  | _, _, @KSR.cons _ _ _ _ k v x u kvs es h1 h2 h3 => by
    by_cases e : k = n
    · refine .inr ⟨v, u, x, ?_, ?_, h1, h2⟩
      · unfold klook; simp [e]
      · unfold valueAt; simp [e]
    · have a1 : klook ((k, v) :: kvs) n = klook kvs n := by unfold klook; simp [e]
      have a2 : valueAt ((k, u) :: es) n = valueAt es n := by unfold valueAt; simp [e]
      rw [a1, a2]
      exact ksr_look n h3
theorem ksr_any {C : Ctx} {H : Hp} {M : Sto} {Z : Addr → Prop} (n : Key) {kvs : List (Key × PV)} {vs : List (Key × Value)} (h : KSR C H M Z kvs vs) : (kvs.any fun p => decide (p.1 = n)) = vs.any fun p => decide (p.1 = n) := by
  induction h with
  | nil => rfl
  | cons _ _ _ ih => rw [List.any_cons, List.any_cons, ih]
theorem ksr_map {C : Ctx} {H : Hp} {M : Sto} {Z : Addr → Prop} (n : Key) {v : PV} {x : V} {u : Value} (ru : RelV x u) (rv : Rep C H M Z v x) {kvs : List (Key × PV)} {vs : List (Key × Value)} (h : KSR C H M Z kvs vs) :
    KSR C H M Z (kvs.map fun p => if p.1 = n then (p.1, v) else p) (vs.map fun p => if p.1 = n then (p.1, u) else p) := by
  induction h with
  | nil => exact .nil
  | @cons k v' x' u' kvs es h1 h2 h3 ih =>
    rw [List.map_cons, List.map_cons]
    by_cases e : k = n
    · rw [if_pos e, if_pos e]; exact .cons ru rv ih
    · rw [if_neg e, if_neg e]; exact .cons h1 h2 ih
theorem ksr_snoc {C : Ctx} {H : Hp} {M : Sto} {Z : Addr → Prop} (n : Key) {v : PV} {x : V} {u : Value} (ru : RelV x u) (rv : Rep C H M Z v x) {kvs : List (Key × PV)} {vs : List (Key × Value)} (h : KSR C H M Z kvs vs) :
    KSR C H M Z (kvs ++ [(n, v)]) (vs ++ [(n, u)]) := by
  induction h with
  | nil => exact .cons ru rv .nil
  | cons h1 h2 h3 ih => exact .cons h1 h2 ih
theorem ksr_put {C : Ctx} {H : Hp} {M : Sto} {Z : Addr → Prop} (n : Key) {v : PV} {x : V} {u : Value} (ru : RelV x u) (rv : Rep C H M Z v x) {kvs : List (Key × PV)} {vs : List (Key × Value)} (h : KSR C H M Z kvs vs) :
    KSR C H M Z (kput kvs n v) (stored vs n u) := by
  unfold kput stored
  rw [ksr_any n h]
  split
  · exact ksr_map n ru rv h
  · exact ksr_snoc n ru rv h
theorem dset_ok (hu : X.A.units + 65 < cLine) : PSet X (rdset (ctx X ga)) := by
  intro pins s σ H o i z ov iv u Q I ro ri rz h
  obtain ⟨a, k, v, M, Z, Q', r, ra, rk, rv, f, c⟩ := h
  cases a <;> first | exact f.elim | skip
  rename_i p
  obtain ⟨rfl, _⟩ := ra.ref_inv
  cases ro
  simp only [dsetS] at f
  split at f
  · rename_i kvs t0 m
    obtain ⟨⟨⟨ys, rfl⟩, hp, n, hk, hd⟩, hz, q⟩ := f
    obtain ⟨b, ws, rfl, _⟩ := rk.tup_inv
    cases ri
    obtain ⟨xs, d, kv, ns, mu⟩ := dict_at I r m
    refine wpAny_setItem_heap (knd := nk X) (by show X.A.in1.units + 8 < cLine; have : X.A.in1.units = X.A.units + 1 := rfl; omega) (key_is I rk hp hk hd) d (fun h' d' sb => ?_) (by rw [← kvr_len kv]; omega)
    obtain ⟨H', t', I', x', r'⟩ := put_dict (tk := s.toks + (nk X).draws n) I r m ns mu kv hk ⟨hd, hp⟩ rk rz rv d' sb
    exact ⟨H', I', c _ _ _ x' r' (q t')⟩
  · rename_i kvs t0 m
    obtain ⟨n, hk, hz, q⟩ := f
    obtain rfl := pk_rep hk rk
    obtain ⟨vs, d, kv, ns, mu⟩ := plain_at I r m
    refine wpAny_setItem_pairs (knd := mixKind X.prog X.w) (kV_is ri) d (fun h' d' sb => ?_) (by rw [← ksr_len kv]; omega)
    obtain ⟨ob, es, ep, h1, h2, h3, h4, h5, h6⟩ := d'
    exact ⟨upd H p (dHO p es ep), d_write I mu sb ⟨ob, h1⟩ (dHO_ok ⟨ob, h1, h2, h3⟩), c _ _ _ (Ext.wr m) (r.wr (so' := .dks (kput kvs n v) (es, ep)) m ⟨_, rfl, ns, h4, h5, h6, ksr_put n rz rv kv⟩) (q (es, ep))⟩
  · exact f.elim
/-- {} -/
theorem ps_dnew {pos : Pos} : PE X (.Dict [] [] pos) (rd (ctx X ga) F .dnew) := ⟨fun pins s σ H Q I ⟨ρ, M, Z, Q', r, e, h, c⟩ => by
  have hn : H s.heap.objs.size = none := I.hok.fresh (Nat.le_refl _)
  have ns : (s.heap.objs.size == sysModules) = false := by
    have := I.big
    simpa using Nat.ne_of_gt (Nat.lt_of_lt_of_le (by decide) this)
  refine wpAny_Dict_empty ⟨.ref s.heap.objs.size, _, I.laid (a := s.heap.objs.size) (o := dHO s.heap.objs.size #[] 0) (t' := s.toks) (fun _ _ q => Heap.get?_push_of_some _ q) (Nat.le_refl _) (dHO_ok ⟨_, Heap.get?_push_size _ rfl, ⟨rfl, rfl, rfl⟩, rfl⟩), rfl, ?_⟩
  exact c _ _ _ _ _ (Ext.newM (so := .dct [] (#[], 0)) r hn) (r.newM (so := .dct [] (#[], 0)) hn ⟨[], rfl, ns, rfl, by simp, .nil⟩) (.ref (by rw [Sto.put_same]; rfl)) (h _ _ (r.fresh hn))⟩
/-- {} that is data -/
theorem ps_emp {pos : Pos} : PE X (.Dict [] [] pos) (rd (ctx X ga) F .emp) :=
  PE.imp pe_dnewK fun σ H Q ⟨ρ, M, Z, Q', r, e, h, c⟩ => fun p hp => c _ _ _ _ _ (Ext.newZ hp) (r.newZ hp) (.emp (.inl rfl) upd_same) h
/-- the dict that a thing is -/
theorem ps_knew {pos : Pos} : PE X (.Dict [] [] pos) (rd (ctx X ga) F .knew) := ⟨fun pins s σ H Q I ⟨ρ, M, Z, Q', r, e, h, c⟩ => by
  have hn : H s.heap.objs.size = none := I.hok.fresh (Nat.le_refl _)
  have ns : (s.heap.objs.size == sysModules) = false := by
    have := I.big
    simpa using Nat.ne_of_gt (Nat.lt_of_lt_of_le (by decide) this)
  refine wpAny_Dict_empty ⟨.ref s.heap.objs.size, _, I.laid (a := s.heap.objs.size) (o := dHO s.heap.objs.size #[] 0) (t' := s.toks) (fun _ _ q => Heap.get?_push_of_some _ q) (Nat.le_refl _) (dHO_ok ⟨_, Heap.get?_push_size _ rfl, ⟨rfl, rfl, rfl⟩, rfl⟩), rfl, ?_⟩
  exact c _ _ _ _ _ (Ext.newM (so := .dks [] (#[], 0)) r hn) (r.newM (so := .dks [] (#[], 0)) hn ⟨[], rfl, ns, fun e he => by simp at he, .nil, by simp, .nil⟩) (.ref (by rw [Sto.put_same]; rfl)) (h _ _ (r.fresh hn))⟩
theorem dO_inv {M : Sto} {d : PV} {kvs : List (PV × PV)} (h : dO M d = some kvs) : ∃ a t, d = .ref a ∧ M a = some (.dct kvs t) := by
  cases d with
  | ref a =>
    cases e : M a with
    | none => simp [dO, e] at h
    | some o =>
      cases o with
      | dct ks t =>
        have : ks = kvs := by simpa [dO, e] using h
        exact ⟨a, t, rfl, by rw [e, this]⟩
      | lst xs => simp [dO, e] at h
      | dks ks => simp [dO, e] at h
  | _ => simp [dO] at h
theorem room8 (hu : X.A.units + 65 < cLine) : (nk X).room X.A.in1 := by
  show X.A.in1.units + 8 < cLine
  have : X.A.in1.units = X.A.units + 1 := rfl
  omega
/-- d[k] -/
theorem ps_dix {o i : Expr} {eo ei : E} {pos : Pos} (hu : X.A.units + 65 < cLine) (ho : PE X o (rd (ctx X ga) F eo)) (hi : PE X i (rd (ctx X ga) F ei)) (hs : NoSl i) : PE X (.Subscript o i pos) (rd (ctx X ga) F (.dix eo ei)) := ⟨fun pins s σ H Q I ⟨ρ, M, Z, Q', r, e, h, c⟩ => by
  refine subD_of PySem.F.slot_dict_getitem.lookup hs ?_
  refine thn (ho.run pins s σ H (fun x H1 => ∃ d M1 Z1, SR (ctx X ga) H1 M1 Z1 ∧ Ext H M Z H1 M1 Z1 ∧ Rep (ctx X ga) H1 M1 Z1 d x ∧ wpE F ei ρ M1 fun kv M2 => dlk M2 d kv fun o => ∃ v, o = some v ∧ Q' v M2) I ⟨ρ, M, Z, _, r, e, h, fun v x H1 M1 Z1 x1 r1 rv h1 => ⟨v, M1, Z1, r1, x1, rv, h1⟩⟩) fun u s1 ⟨x, H1, I1, rx, d, M1, Z1, r1, x1, rd1, h1⟩ => ?_
  refine thn (hi.run pins s1 σ H1 (fun y H2 => ∃ kv M2 Z2, SR (ctx X ga) H2 M2 Z2 ∧ Ext H1 M1 Z1 H2 M2 Z2 ∧ Rep (ctx X ga) H2 M2 Z2 kv y ∧ dlk M2 d kv fun o => ∃ v, o = some v ∧ Q' v M2) I1 ⟨ρ, M1, Z1, _, r1, e.mono r x1, h1, fun v x H2 M2 Z2 x2 r2 rv h2 => ⟨v, M2, Z2, r2, x2, rv, h2⟩⟩) fun iv s2 ⟨y, H2, I2, ry, kv, M2, Z2, r2, x2, rk, h2⟩ => ?_
  cases d <;> first | exact h2.elim | skip
  rename_i a
  obtain ⟨rfl, _⟩ := (rd1.mono r1 x2).ref_inv
  cases rx
  unfold dlk at h2
  simp only at h2
  split at h2
  · rename_i kvs t m
    obtain ⟨⟨⟨ys, rfl⟩, hp, n, hk, hd⟩, w, h4, h5⟩ := h2
    obtain ⟨b, ws, rfl, _⟩ := rk.tup_inv
    cases ry
    obtain ⟨xs, dd, kr, ns, mu⟩ := dict_at I2 r2 m
    rcases kvr_look hk kr with ⟨e1, _⟩ | ⟨w', p, z, e1, e2, rz, rw'⟩
    · rw [h4] at e1; cases e1
    · rw [h4] at e1
      cases e1
      exact ⟨dd.typeIs, wpAny_getItem_heap (room8 hu) (key_is I2 rk hp hk hd) dd e2 ⟨z, H2, I2.tok _, rz, c _ _ _ _ _ (x1.trans x2) r2 rw' h5⟩⟩
  · rename_i kvs t m
    obtain ⟨n, hk, w, h4, h5⟩ := h2
    obtain rfl := pk_rep hk rk
    obtain ⟨vs, dd, kr, ns, mu⟩ := plain_at I2 r2 m
    rcases ksr_look n kr with ⟨e1, _⟩ | ⟨w', p, z, e1, e2, rz, rw'⟩
    · rw [h4] at e1; cases e1
    · rw [h4] at e1
      cases e1
      exact ⟨dd.typeIs, wpAny_getItem_of (kV_is ry) dd.mapOf e2 ⟨z, H2, I2.tok _, rz, c _ _ _ _ _ (x1.trans x2) r2 rw' h5⟩⟩
  · exact h2.elim⟩
theorem isD_ty {pins : List (Addr × Obj)} {s : Shared} {σ : L2.St} {H : Hp} {M : Sto} {Z : Addr → Prop} {d : PV} {x : V} {u : Value} (I : L2.Inv X pins σ H s) (r : SR (ctx X ga) H M Z) (rd1 : Rep (ctx X ga) H M Z d x) (rx : RelV x u) (h : isD M d = true) :
    ∃ a, d = .ref a ∧ u = .ref a ∧ s.TypeIs (.ref a) "dict" ∧ ∀ b, Value.ref a = .ref b → ∃ ob, s.heap.get? b = some ob ∧ ob.dict = none := by
  cases d <;> first | (unfold isD at h; cases h; done) | skip
  rename_i a
  obtain ⟨rfl, _⟩ := rd1.ref_inv
  cases rx
  unfold isD at h
  simp only at h
  split at h
  · rename_i kvs t m
    obtain ⟨xs0, dd0, _⟩ := dict_at I r m
    obtain ⟨t1, t2⟩ := dict_ty dd0
    exact ⟨a, rfl, rfl, t1, t2⟩
  · rename_i kvs t m
    obtain ⟨xs0, dd0, _⟩ := plain_at I r m
    refine ⟨a, rfl, rfl, dd0.typeIs, fun b e => ?_⟩
    cases e
    obtain ⟨o, _, _, h1, h2, _⟩ := dd0
    exact ⟨o, h1, h2.2.1⟩
  · cases h
/-- d.get(k, x) -/
theorem ps_dget {o e f : Expr} {eo ek ex : E} {apos cpos : Pos} (hu : X.A.units + 65 < cLine) (ho : PE X o (rd (ctx X ga) F eo)) (he : PE X e (rd (ctx X ga) F ek)) (hf : PE X f (rd (ctx X ga) F ex)) (m2 : M2 X o "get" apos e f cpos) :
    PE X (.Call (.Attribute o "get" apos) [e, f] [] cpos) (rd (ctx X ga) F (.dget eo ek ex)) := ⟨fun pins s σ H Q I ⟨ρ, M, Z, Q', r, en, h, c⟩ => by
  refine wpAny_Call_method m2.base m2.few m2.line PySem.F.plainAttrs_dict PySem.F.slot_dict_get PySem.F.type_dict_get ?_
  refine thn (ho.run pins s σ H (fun x H1 => ∃ d M1 Z1, SR (ctx X ga) H1 M1 Z1 ∧ Ext H M Z H1 M1 Z1 ∧ Rep (ctx X ga) H1 M1 Z1 d x ∧ isD M1 d = true ∧ wpE F ek ρ M1 fun kv M2 => wpE F ex ρ M2 fun y M3 => dlk M3 d kv fun o => Q' (o.getD y) M3) I
    ⟨ρ, M, Z, _, r, en, h, fun v x H1 M1 Z1 x1 r1 rv ⟨h0, h1⟩ => ⟨v, M1, Z1, r1, x1, rv, h0, h1⟩⟩) fun u s1 ⟨x, H1, I1, rx, d, M1, Z1, r1, x1, rd1, h0, h1⟩ => ?_
  obtain ⟨a, rfl, rfl, t1, t2⟩ := isD_ty I1 r1 rd1 rx h0
  refine ⟨t1, t2, ?_⟩
  rw [m2.trees]
  refine Calls.callWith_builtin rfl (Calls.evalArgs_plain (Calls.spliced_cons ?_))
  refine thn (he.run pins s1 σ H1 (fun y H2 => ∃ kv M2 Z2, SR (ctx X ga) H2 M2 Z2 ∧ Ext H1 M1 Z1 H2 M2 Z2 ∧ Rep (ctx X ga) H2 M2 Z2 kv y ∧ wpE F ex ρ M2 fun y M3 => dlk M3 (.ref a) kv fun o => Q' (o.getD y) M3) I1
    ⟨ρ, M1, Z1, _, r1, en.mono r x1, h1, fun v x H2 M2 Z2 x2 r2 rv h2 => ⟨v, M2, Z2, r2, x2, rv, h2⟩⟩) fun iv s2 ⟨y, H2, I2, ry, kv, M2, Z2, r2, x2, rk, h2⟩ => Calls.spliced_cons ?_
  refine thn (hf.run pins s2 σ H2 (fun z H3 => ∃ w M3 Z3, SR (ctx X ga) H3 M3 Z3 ∧ Ext H2 M2 Z2 H3 M3 Z3 ∧ Rep (ctx X ga) H3 M3 Z3 w z ∧ dlk M3 (.ref a) kv fun o => Q' (o.getD w) M3) I2
    ⟨ρ, M2, Z2, _, r2, en.mono r (x1.trans x2), h2, fun v x H3 M3 Z3 x3 r3 rv h3 => ⟨v, M3, Z3, r3, x3, rv, h3⟩⟩) fun fv s3 ⟨z, H3, I3, rz, w, M3, Z3, r3, x3, rw', h3⟩ => Calls.spliced_nil ?_
  have rk3 := rk.mono r2 x3
  have ext := (x1.trans x2).trans x3
  unfold dlk at h3
  simp only at h3
  split at h3
  · rename_i kvs t m
    obtain ⟨⟨⟨ys, rfl⟩, hp, n, hk, hd⟩, h5⟩ := h3
    obtain ⟨b, ws, rfl, _⟩ := rk3.tup_inv
    cases ry
    obtain ⟨xs, dd, kr, ns, mu⟩ := dict_at I3 r3 m
    rcases kvr_look hk kr with ⟨e1, e2⟩ | ⟨w', p, y', e1, e2, ry', rw2⟩
    · refine getOr_keyed (knd := nk X) (room8 hu) (key_is I3 rk3 hp hk hd) ns ⟨xs, dd, rfl⟩ ?_
      rw [valueAt_pairsH, e2]
      rw [e1] at h5
      exact ⟨z, H3, I3.tok _, rz, c _ _ _ _ _ ext r3 rw' h5⟩
    · refine getOr_keyed (knd := nk X) (room8 hu) (key_is I3 rk3 hp hk hd) ns ⟨xs, dd, rfl⟩ ?_
      rw [valueAt_pairsH, e2]
      rw [e1] at h5
      exact ⟨y', H3, I3.tok _, ry', c _ _ _ _ _ ext r3 rw2 h5⟩
  · rename_i kvs t m
    obtain ⟨n, hk, h5⟩ := h3
    obtain rfl := pk_rep hk rk3
    obtain ⟨vs, dd, kr, ns, mu⟩ := plain_at I3 r3 m
    refine call_meetsIn PySem.F.slot_dict_get dd.typeIs PySem.F.entry_dict_get (PySem.F.args_dict_get_3 _ _ _) (meets_dict_get_default (mixKind X.prog X.w) a (kV_is ry) ns fv) ⟨_, dd.mapOf, ?_⟩
    rcases ksr_look n kr with ⟨e1, e2⟩ | ⟨w', p, y', e1, e2, ry', rw2⟩
    · rw [e2]
      rw [e1] at h5
      exact ⟨z, H3, I3.tok _, rz, c _ _ _ _ _ ext r3 rw' h5⟩
    · rw [e2]
      rw [e1] at h5
      exact ⟨y', H3, I3.tok _, ry', c _ _ _ _ _ ext r3 rw2 h5⟩
  · exact h3.elim⟩
end
end SG
/-! sorted(d.items()) -/
namespace SG
open PySem PySem.Spec PyProof.Rows L2
mutual
theorem reads_lt {h : Heap} : ∀ {v : Value} {d : PyData} {as : List Addr}, Reads h v d as → ∀ a ∈ as, a < h.objs.size
  | _, _, _, .none, a, m => by cases m
  | _, _, _, .bool _, a, m => by cases m
  | _, _, _, .int _ _, a, m => by cases m
  | _, _, _, .str _ _, a, m => by cases m
  | _, _, _, .list h1 _ _ h4, a, m => by
    rcases List.mem_cons.mp m with e | e
    · rw [e]; exact Heap.lt_size h1
    · exact readsAll_lt h4 a e
  | _, _, _, .tuple _ _ _ h4, a, m => readsAll_lt h4 a m
  | _, _, _, .dict h1 _ _ h4 h5, a, m => by
    rcases List.mem_append.mp m with e | e
    · rcases List.mem_cons.mp e with e | e
      · rw [e]; exact Heap.lt_size h1
      · exact readsAll_lt h4 a e
    · exact readsAll_lt h5 a e
theorem readsAll_lt {h : Heap} : ∀ {vs : List Value} {ds : List PyData} {as : List Addr}, ReadsAll h vs ds as → ∀ a ∈ as, a < h.objs.size
  | _, _, _, .nil, a, m => by cases m
  | _, _, _, .cons h1 h2, a, m => by
    rcases List.mem_append.mp m with e | e
    · exact reads_lt h1 a e
    · exact readsAll_lt h2 a e
end
/-- tuples laid -/
def lays (H : Hp) : List (Addr × List V) → Hp
  | [] => H
  | q :: r => lays (upd H q.1 (.tup q.2)) r
theorem lays_ne {b : Addr} : ∀ {L : List (Addr × List V)} {H : Hp}, b ∉ L.map (·.1) → lays H L b = H b
  | [], _, _ => rfl
  | q :: r, H, h => by
    rw [List.map_cons, List.mem_cons, not_or] at h
    show lays _ r b = _
    rw [lays_ne h.2, upd_ne h.1]
theorem lays_at {q : Addr × List V} : ∀ {L : List (Addr × List V)} {H : Hp}, (L.map (·.1)).Nodup → q ∈ L → lays H L q.1 = some (.tup q.2)
  | [], _, _, h => by cases h
  | p :: r, H, nd, h => by
    rw [List.map_cons, List.nodup_cons] at nd
    rcases List.mem_cons.mp h with e | e
    · show lays _ r q.1 = _
      rw [e, lays_ne nd.1, upd_same]
    · show lays _ r q.1 = _
      exact lays_at nd.2 e
theorem pair_dat (p : PV × PV) : (pairV p).dat = .tuple [p.1.dat, p.2.dat] := by rw [pairV, PV.dat, PV.dats, PV.dats, PV.dats]
section
variable {X : Cx} {ga : Str → Option Addr} {F : FS}
theorem lays_inv {pins : List (Addr × Obj)} {σ : L2.St} {H0 : Hp} {s : Shared} {h' : Heap} {tk : Nat} (I0 : L2.Inv X pins σ H0 s) : ∀ (L : List (Addr × List V)) (H1 : Hp), L2.Inv X pins σ H1 { s with heap := h', toks := tk } → (L.map (·.1)).Nodup →
    (∀ q ∈ L, s.heap.objs.size ≤ q.1 ∧ H1 q.1 = none ∧ ∀ H2, ObjOk X.prog X.w H2 h' q.1 (.tup q.2)) → L2.Inv X pins σ (lays H1 L) { s with heap := h', toks := tk }
  | [], H1, I1, _, _ => I1
  | q :: r, H1, I1, nd, h => by
    rw [List.map_cons, List.nodup_cons] at nd
    obtain ⟨h1, h2, h3⟩ := h q List.mem_cons_self
    refine lays_inv I0 r _ (I1.take (h' := h') (t' := tk) (fun b ob _ e => e) (I0.fpOk h1 h2) (h3 _)) nd.2 fun p hp => ?_
    obtain ⟨g1, g2, g3⟩ := h p (List.mem_cons_of_mem _ hp)
    exact ⟨g1, by rw [upd_ne (fun z => nd.1 (by rw [← z]; exact List.mem_map.mpr ⟨p, hp, rfl⟩))]; exact g2, g3⟩
theorem lays_sr {C : Ctx} {M : Sto} {Z : Addr → Prop} : ∀ (L : List (Addr × List V)) (H : Hp), SR C H M Z → (L.map (·.1)).Nodup → (∀ q ∈ L, H q.1 = none) → SR C (lays H L) M Z ∧ Ext H M Z (lays H L) M Z
  | [], H, r, _, _ => ⟨r, Ext.refl⟩
  | q :: t, H, r, nd, h => by
    rw [List.map_cons, List.nodup_cons] at nd
    have hq := h q List.mem_cons_self
    obtain ⟨r1, x1⟩ := lays_sr t (upd H q.1 (.tup q.2)) (r.new hq) nd.2 fun p hp => by
      rw [upd_ne (fun z => nd.1 (by rw [← z]; exact List.mem_map.mpr ⟨p, hp, rfl⟩))]
      exact h p (List.mem_cons_of_mem _ hp)
    exact ⟨r1, (Ext.new hq).trans x1⟩
/-- an entry's key and value, and what they are -/
abbrev KV2 := (V × V) × (PV × PV)
def rSItems (K : PySem.W.Frag) : List V → Hp → VK → Prop := fun xs H Q => ∃ (p a : Addr) (es : Array DictEntry) (ep : Nat) (ps : List KV2), xs = [.ref p] ∧ H p = some (L2.DX.itemsO p a) ∧ H a = some (dHO a es ep) ∧ ps.length = es.size ∧ es.size ≤ sizeLine ∧
  (∀ (j : Nat) e q, es[j]? = some e → ps[j]? = some q → RelV q.1.1 e.key ∧ RelV q.1.2 e.val) ∧ (∀ q ∈ ps, Dp K H q.1.1 q.2.1.dat ∧ Dp K H q.1.2 q.2.2.dat ∧ (pairV q.2).dep ≤ 40) ∧ AllCmp (ps.map fun q => (pairV q.2).dat) ∧
  ∀ (l : Addr) (as : List Addr), as.length = ps.length → as.Nodup → (∀ t ∈ as, H t = none) → H l = none → l ∉ as →
    Q (.ref l) (upd (lays H ((as.zip ps).map fun z => (z.1, [z.2.1.1, z.2.1.2]))) l (.lst (((as.zip ps).mergeSort fun x y => !PySem.W.dataLt (pairV y.2.2).dat (pairV x.2.2).dat).map fun z => V.ref z.1)))
theorem each_ix {α β : Type} {R : α → β → Prop} : ∀ {vs : List α} {bs : List β}, vs.length = bs.length → (∀ (j : Nat) v b, vs[j]? = some v → bs[j]? = some b → R v b) → PySem.W.EachIs R vs bs
  | [], [], _, _ => .nil
  | [], _ :: _, h, _ => by simp at h
  | _ :: _, [], h, _ => by simp at h
  | v :: vs, b :: bs, h, k => .cons (k 0 v b rfl rfl) (each_ix (by simpa using h) fun j x y h1 h2 => k (j + 1) x y (by simpa using h1) (by simpa using h2))
theorem cr_sitems (hc : X.calm = true) (hu : X.A.units + 65 < cLine) : CallR X (.builtin "sorted") (rSItems X.K) := by
  intro pins s σ H xs us Q I rx h
  obtain ⟨p, a, es, ep, ps, rfl, hp, ha, hlen, hsz, hrel, hdp, hal, q⟩ := h
  obtain rfl := Vals.ref1 rx
  have view : s.heap.IsItemsView p a := (I.hok p _ hp).1
  have raw : DT.Raw s.heap a es ep := (I.hok a _ ha).1
  refine DT.sortedI (es := es) (ep := ep) (I.ok.hd hc) view raw hsz fun h' tk as hk hlt hl hG => ?_
  have lz : (as.zip ps).length = as.length := by rw [List.length_zip]; omega
  have nd : as.Nodup := hG.rise.imp fun h => Nat.ne_of_lt h
  have big : ∀ t ∈ as, s.heap.objs.size ≤ t := fun t ht => Nat.le_of_lt (hG.above t ht)
  have fr : ∀ t ∈ as, H t = none := fun t ht => I.hok.fresh (big t ht)
  have lnot : h'.objs.size ∉ as := fun m => Nat.lt_irrefl _ (hG.there m)
  have hln : H h'.objs.size = none := I.hok.fresh (Nat.le_of_lt hlt)
  have old : ∀ b o, s.heap.get? b = some o → (h'.push { cls := .type "list", data := .seq (as.map Value.ref).toArray }).get? b = some o := fun b o e => Heap.get?_push_of_some _ (hk b o e)
  have hob : (h'.push { cls := .type "list", data := .seq (as.map Value.ref).toArray }).get? h'.objs.size = some (seqObj "list" (as.map Value.ref).toArray 0) := Heap.get?_push_size _ rfl
  have tup : ∀ (j : Nat) (t : Addr) (z : KV2), as[j]? = some t → ps[j]? = some z → ∃ e, es[j]? = some e ∧ h'.get? t = some { cls := .type "tuple", data := .seq #[e.key, e.val] } ∧ RelV z.1.1 e.key ∧ RelV z.1.2 e.val := fun j t z h1 h2 => by
    obtain ⟨e, he, hg⟩ := hG.pairs j t h1
    exact ⟨e, he, hg, hrel j e z he h2⟩
  have eR : PySem.W.EachIs (fun v (z : Addr × KV2) => v = Value.ref z.1) (as.map Value.ref) (as.zip ps) := each_ix (by rw [List.length_map, lz]) fun j v z h1 h2 => by
    rw [List.getElem?_map] at h1
    obtain ⟨t, ht, rfl⟩ := Option.map_eq_some_iff.mp h1
    have := (List.getElem?_zip_eq_some.mp h2).1
    rw [ht] at this
    rw [Option.some.inj this]
  have er : PySem.W.EachIs (fun v (z : Addr × KV2) => ∃ ads, Reads (h'.push { cls := .type "list", data := .seq (as.map Value.ref).toArray }) v (pairV z.2.2).dat ads ∧ h'.objs.size ∉ ads) (as.map Value.ref) (as.zip ps) := each_ix (by rw [List.length_map, lz]) fun j v z h1 h2 => by
    rw [List.getElem?_map] at h1
    obtain ⟨t, ht, rfl⟩ := Option.map_eq_some_iff.mp h1
    obtain ⟨z1, z2⟩ := List.getElem?_zip_eq_some.mp h2
    obtain ⟨e, he, hg, r1, r2⟩ := tup j t z.2 ht z2
    obtain ⟨d1, d2, _⟩ := hdp z.2 (List.mem_of_getElem? z2)
    obtain ⟨as1, rd1⟩ := Dp.reads I _ _ e.key d1 r1
    obtain ⟨as2, rd2⟩ := Dp.reads I _ _ e.val d2 r2
    refine ⟨as1 ++ (as2 ++ []), ?_, fun m => ?_⟩
    · have : (pairV z.2.2).dat = .tuple [z.2.2.1.dat, z.2.2.2.dat] := pair_dat _
      rw [this]
      exact .tuple (Heap.get?_push_of_some _ hg) rfl rfl (.cons (Reads.keeps old rd1) (.cons (Reads.keeps old rd2) .nil))
    · have lt1 : ∀ b ∈ as1, b < s.heap.objs.size := reads_lt rd1
      have lt2 : ∀ b ∈ as2, b < s.heap.objs.size := reads_lt rd2
      rcases List.mem_append.mp m with m | m
      · exact absurd (lt1 _ m) (Nat.not_lt.mpr (Nat.le_of_lt hlt))
      · rw [List.append_nil] at m; exact absurd (lt2 _ m) (Nat.not_lt.mpr (Nat.le_of_lt hlt))
  have eal : (as.zip ps).map (fun z => (pairV z.2.2).dat) = ps.map fun q => (pairV q.2).dat := by
    have : ps = (as.zip ps).map (·.2) := (List.map_snd_zip (by omega)).symm
    conv => rhs; rw [this]
    rw [List.map_map]; rfl
  refine list_sort_f (A := X.A.in1) (enc := fun z : Addr × KV2 => (pairV z.2.2).dat) (s := { s with heap := h'.push { cls := .type "list", data := .seq (as.map Value.ref).toArray }, toks := tk }) hob eR er (by rw [eal]; exact hal) (.inl fun d hd => ?_) (by rw [lz]; omega) (fun z hz => ?_) fun out hout e3 => ?_
  · obtain ⟨z, _, rfl⟩ := List.mem_map.mp hd
    exact ⟨z.2.2.1.dat, [z.2.2.2.dat], pair_dat _⟩
  · have hz2 : z.2 ∈ ps := (List.of_mem_zip hz).2
    have := (hdp z.2 hz2).2.2
    rw [PV.dat_dep]
    have : X.A.in1.units = X.A.units + 1 := rfl
    omega
  · obtain ⟨n, hat⟩ := sortedHeap_at (vs := as.map Value.ref) (out := out.toArray) hob
    have keep : ∀ b o, b ≠ h'.objs.size → (h'.push { cls := .type "list", data := .seq (as.map Value.ref).toArray }).get? b = some o → (sortedHeap (h'.push { cls := .type "list", data := .seq (as.map Value.ref).toArray }) h'.objs.size (as.map Value.ref) out.toArray).get? b = some o := fun b o hb e => (sortedHeap_old hb (Heap.lt_size e)).trans e
    have I1 : L2.Inv X pins σ H { s with heap := sortedHeap (h'.push { cls := .type "list", data := .seq (as.map Value.ref).toArray }) h'.objs.size (as.map Value.ref) out.toArray, toks := tk } := I.kept (t' := tk) fun b o e => keep b o (fun z => by rw [z] at e; exact absurd (Heap.lt_size e) (Nat.not_lt.mpr (Nat.le_of_lt hlt))) (old b o e)
    have lm : ((as.zip ps).map fun z => ((z.1, [z.2.1.1, z.2.1.2]) : Addr × List V)).map (·.1) = as := by
      rw [List.map_map]
      exact List.map_fst_zip (by omega)
    have I2 := lays_inv I ((as.zip ps).map fun z => (z.1, [z.2.1.1, z.2.1.2])) H I1 (by rw [lm]; exact nd) fun w hw => by
      obtain ⟨z, hz, rfl⟩ := List.mem_map.mp hw
      obtain ⟨j, hj⟩ := List.mem_iff_getElem?.mp hz
      obtain ⟨z1, z2⟩ := List.getElem?_zip_eq_some.mp hj
      have ht := List.mem_of_getElem? z1
      obtain ⟨e, he, hg, r1, r2⟩ := tup j z.1 z.2 z1 z2
      refine ⟨big _ ht, fr _ ht, fun H2 => ⟨by show 2 ≤ sizeLine; decide, [e.key, e.val], .cons r1 (.cons r2 .nil), ⟨_, keep _ _ (fun q => lnot (by rw [← q]; exact ht)) (Heap.get?_push_of_some _ hg), rfl, _, rfl⟩⟩⟩
    have hl2 : lays H ((as.zip ps).map fun z => (z.1, [z.2.1.1, z.2.1.2])) h'.objs.size = none := by rw [lays_ne (by rw [lm]; exact lnot)]; exact hln
    have rv : Vals (((as.zip ps).mergeSort fun x y => !PySem.W.dataLt (pairV y.2.2).dat (pairV x.2.2).dat).map fun z => V.ref z.1) out := by
      have key : ∀ {us : List Value} {zs : List (Addr × KV2)}, PySem.W.EachIs (fun v (z : Addr × KV2) => v = Value.ref z.1) us zs → Vals (zs.map fun z => V.ref z.1) us := by
        intro us zs e
        induction e with
        | nil => exact .nil
        | cons h _ ih => exact .cons h ih
      exact key e3
    have I3 : L2.Inv X pins σ (upd (lays H ((as.zip ps).map fun z => (z.1, [z.2.1.1, z.2.1.2]))) h'.objs.size (.lst (((as.zip ps).mergeSort fun x y => !PySem.W.dataLt (pairV y.2.2).dat (pairV x.2.2).dat).map fun z => V.ref z.1))) { s with heap := sortedHeap (h'.push { cls := .type "list", data := .seq (as.map Value.ref).toArray }) h'.objs.size (as.map Value.ref) out.toArray, toks := tk } := I2.take (h' := sortedHeap (h'.push { cls := .type "list", data := .seq (as.map Value.ref).toArray }) h'.objs.size (as.map Value.ref) out.toArray) (t' := tk) (fun b ob _ e => e) (I.fpOk (Nat.le_of_lt hlt) hl2) ⟨by rw [List.length_map, List.length_mergeSort, lz]; omega, out, n, rv, by simpa using hat⟩
    exact ⟨.ref h'.objs.size, _, I3, rfl, q _ as (by omega) nd fr hln lnot⟩
/-- o.items() -/
def tIt (C : Ctx) (F : FS) (eo : E) : TE := fun σ H Q => ∃ ρ M Z Q', SR C H M Z ∧ EnvR C H M Z ρ σ ∧ wpE F eo ρ M Q' ∧ ∀ d x H1 M1 Z1, Ext H M Z H1 M1 Z1 → SR C H1 M1 Z1 → Rep C H1 M1 Z1 d x → Q' d M1 →
  ∃ a kvs t, d = .ref a ∧ M1 a = some (.dct kvs t) ∧ ∀ p, H1 p = none → Q (.ref p) (upd H1 p (L2.DX.itemsO p a))
theorem pe_items {o : Expr} {eo : E} {apos cpos : Pos} (ho : PE X o (rd (ctx X ga) F eo)) (hbase : attributeBase o "items" X.env (eval o X.env) = eval o X.env) (hline : (apos.endLine == cpos.line) = true) :
    PE X (.Call (.Attribute o "items" apos) [] [] cpos) (tIt (ctx X ga) F eo) := ⟨fun pins s σ H Q I ⟨ρ, M, Z, Q', r, e, h, c⟩ => by
  refine wpAny_Call_method0_late hbase hline (thn (ho.run pins s σ H (fun x H1 => ∃ a kvs t M1 Z1, x = .ref a ∧ M1 a = some (.dct kvs t) ∧ SR (ctx X ga) H1 M1 Z1 ∧ ∀ p, H1 p = none → Q (.ref p) (upd H1 p (L2.DX.itemsO p a))) I
    ⟨ρ, M, Z, _, r, e, h, fun v x H1 M1 Z1 x1 r1 rv h1 => ?_⟩) fun u s1 ⟨x, H1, I1, rx, a, kvs, t, M1, Z1, ex, m, r1, q⟩ => ?_)
  · obtain ⟨a, kvs, t, rfl, m, q⟩ := c v x H1 M1 Z1 x1 r1 rv h1
    obtain ⟨rfl, _⟩ := rv.ref_inv
    exact ⟨a, kvs, t, M1, Z1, rfl, m, r1, q⟩
  · subst ex
    cases rx
    obtain ⟨xs, dd, kr, ns, mu⟩ := dict_at I1 r1 m
    obtain ⟨t1, t2⟩ := dict_ty dd
    refine ⟨"dict", "dict.items", PySem.F.plainAttrs_dict, PySem.F.slot_dict_items, PySem.F.type_dict_items, t1, t2, Calls.callWith_builtin rfl (PySem.evalArgs_none ?_)⟩
    obtain ⟨ob, es, ep, h1, h2, h3, _⟩ := dd
    refine DT.callItems (es := es) (ep := ep) ns ⟨ob, h1, h2, h3⟩ ?_
    have hf : H1 s1.heap.objs.size = none := I1.hok.fresh (Nat.le_refl _)
    exact ⟨.ref s1.heap.objs.size, upd H1 s1.heap.objs.size (L2.DX.itemsO s1.heap.objs.size a), I1.laid (t' := s1.toks) (fun b u e => Heap.get?_push_of_some _ e) (Nat.le_refl _) (L2.DX.itemsO_ok (Heap.get?_push_size _ rfl)), rfl, q _ hf⟩⟩
theorem kvr_ps {C : Ctx} {H : Hp} {M : Sto} {Z : Addr → Prop} : ∀ {kvs : List (PV × PV)} {xs : List (NestedKey × Addr × Value)}, KVR C H M Z kvs xs → ∃ ps : List KV2, ps.map (·.2) = kvs ∧ ps.length = xs.length ∧
    (∀ (j : Nat) y q, xs[j]? = some y → ps[j]? = some q → q.1.1 = .ref y.2.1 ∧ RelV q.1.2 y.2.2) ∧ ∀ q ∈ ps, Rep C H M Z q.2.1 q.1.1 ∧ Rep C H M Z q.2.2 q.1.2
  | _, _, .nil => ⟨[], rfl, rfl, fun j y q h => by simp at h, fun q h => by cases h⟩
  | _, _, @KVR.cons _ _ _ _ k v n b u x kvs es h1 h2 h3 h4 h5 h6 => by
    obtain ⟨ps, e1, e2, e3, e4⟩ := kvr_ps h6
    refine ⟨((.ref b, x), (k, v)) :: ps, by rw [List.map_cons, e1], by rw [List.length_cons, List.length_cons, e2], fun j y q hy hq => ?_, fun q hq => ?_⟩
    · cases j with
      | zero =>
        simp only [List.getElem?_cons_zero, Option.some.injEq] at hy hq
        subst hy hq
        exact ⟨rfl, h4⟩
      | succ j => exact e3 j y q (by simpa using hy) (by simpa using hq)
    · rcases List.mem_cons.mp hq with e | e
      · subst e; exact ⟨h3, h5⟩
      · exact e4 q e
theorem ps_ditems {mt : Bool} {p pos apos cpos : Pos} {o : Expr} {eo : E} (hc : X.calm = true) (hu : X.A.units + 65 < cLine) (hg : Gl X "sorted") (hm : X.mg "sorted" = none) (ho : PE X o (rd (ctx X ga) F eo)) (hbase : attributeBase o "items" X.env (eval o X.env) = eval o X.env) (hline : (apos.endLine == cpos.line) = true) :
    PE X (.Call (.Name "sorted" p) [.Call (.Attribute o "items" apos) [] [] cpos] [] pos) (rd (ctx X ga) F (.ditems mt eo)) := by
  refine PE.imp (pe_callB (cr_sitems hc hu) hg hm (by decide +kernel) (pa_cons (pe_items ho hbase hline) pa_nil rfl) (by decide) (by decide) rfl rfl) fun σ H Q ⟨ρ, M, Z, Q', r, e, h, c⟩ => ?_
  refine ⟨ρ, M, Z, _, r, e, h, fun d x H1 M1 Z1 x1 r1 rv h1 => ?_⟩
  obtain ⟨kvs, hd, hsz, hpl, hal, q⟩ := h1
  obtain ⟨a, t, rfl, m⟩ := dO_inv hd
  refine ⟨a, kvs, t, rfl, m, fun p' hp' => ?_⟩
  have r2 : SR (ctx X ga) (upd H1 p' (L2.DX.itemsO p' a)) M1 Z1 := r1.new hp'
  have x2 : Ext H1 M1 Z1 (upd H1 p' (L2.DX.itemsO p' a)) M1 Z1 := Ext.new hp'
  obtain ⟨ob, hh, b⟩ := r2.sto a _ m
  obtain ⟨xs, rfl, ns, he, nd, kv⟩ := b
  obtain ⟨ps, e1, e2, e3, e4⟩ := kvr_ps kv
  have hlen : kvs.length = ps.length := by rw [← e1, List.length_map]
  have hes : t.1.size = xs.length := size_of_entries he
  refine ⟨p', a, t.1, t.2, ps, rfl, upd_same, hh, by omega, by omega, fun j en z h1 h2 => ?_, fun z hz => ?_, ⟨fun d1 hd1 d2 hd2 => ?_, fun d1 hd1 => ?_⟩, fun l as hla nda fr hl hnl => ?_⟩
  · rw [entry_at he] at h1
    obtain ⟨y, hy, rfl⟩ := Option.map_eq_some_iff.mp h1
    obtain ⟨q1, q2⟩ := e3 j y z hy h2
    exact ⟨by rw [q1]; rfl, q2⟩
  · have mem : pairV z.2 ∈ kvs.map pairV := List.mem_map.mpr ⟨z.2, by rw [← e1]; exact List.mem_map.mpr ⟨z, hz, rfl⟩, rfl⟩
    obtain ⟨g1, g2⟩ := hpl _ mem
    have g1' : z.2.1.pl = true ∧ z.2.2.pl = true := by
      unfold pairV at g1
      simpa [PV.pl, PV.pls] using g1
    exact ⟨(e4 z hz).1.dp g1'.1, (e4 z hz).2.dp g1'.2, g2⟩
  · obtain ⟨z1, hz1, rfl⟩ := List.mem_map.mp hd1
    obtain ⟨z2, hz2, rfl⟩ := List.mem_map.mp hd2
    exact hal _ (List.mem_map.mpr ⟨z1.2, by rw [← e1]; exact List.mem_map.mpr ⟨z1, hz1, rfl⟩, rfl⟩) _ (List.mem_map.mpr ⟨z2.2, by rw [← e1]; exact List.mem_map.mpr ⟨z2, hz2, rfl⟩, rfl⟩)
  · obtain ⟨z1, hz1, rfl⟩ := List.mem_map.mp hd1
    exact PV.dat_lay _ (hpl _ (List.mem_map.mpr ⟨z1.2, by rw [← e1]; exact List.mem_map.mpr ⟨z1, hz1, rfl⟩, rfl⟩)).1
  · have lm : ((as.zip ps).map fun z => ((z.1, [z.2.1.1, z.2.1.2]) : Addr × List V)).map (·.1) = as := by
      rw [List.map_map]
      exact List.map_fst_zip (by omega)
    obtain ⟨r3, x3⟩ := lays_sr ((as.zip ps).map fun z => (z.1, [z.2.1.1, z.2.1.2])) _ r2 (by rw [lm]; exact nda) fun w hw => by
      obtain ⟨z, hz, rfl⟩ := List.mem_map.mp hw
      exact fr _ (List.of_mem_zip hz).1
    have hl3 : lays (upd H1 p' (L2.DX.itemsO p' a)) ((as.zip ps).map fun z => (z.1, [z.2.1.1, z.2.1.2])) l = none := by rw [lays_ne (by rw [lm]; exact hnl)]; exact hl
    have es : ((as.zip ps).mergeSort fun x y => !PySem.W.dataLt (pairV y.2.2).dat (pairV x.2.2).dat).map (fun z => pairV z.2.2) = psort (kvs.map pairV) := by
      unfold psort
      have ek : kvs.map pairV = (as.zip ps).map fun z => pairV z.2.2 := by
        have : ps = (as.zip ps).map (·.2) := (List.map_snd_zip (by omega)).symm
        rw [← e1, List.map_map]
        conv => lhs; rw [this]
        rw [List.map_map]; rfl
      rw [ek]
      exact List.map_mergeSort (f := fun z : Addr × KV2 => pairV z.2.2) (r := fun x y => !PySem.W.dataLt (pairV y.2.2).dat (pairV x.2.2).dat) (s := fun a b => !PySem.W.dataLt b.dat a.dat) fun a _ b _ => rfl
    have rl : RepL (ctx X ga) (lays (upd H1 p' (L2.DX.itemsO p' a)) ((as.zip ps).map fun z => (z.1, [z.2.1.1, z.2.1.2]))) M1 Z1 (psort (kvs.map pairV)) (((as.zip ps).mergeSort fun x y => !PySem.W.dataLt (pairV y.2.2).dat (pairV x.2.2).dat).map fun z => V.ref z.1) := by
      rw [← es]
      have key : ∀ zs : List (Addr × KV2), (∀ z ∈ zs, z ∈ as.zip ps) → RepL (ctx X ga) (lays (upd H1 p' (L2.DX.itemsO p' a)) ((as.zip ps).map fun z => (z.1, [z.2.1.1, z.2.1.2]))) M1 Z1 (zs.map fun z => pairV z.2.2) (zs.map fun z => V.ref z.1) := by
        intro zs
        induction zs with
        | nil => intro _; exact .nil
        | cons z zs ih =>
          intro hz
          have hz0 := hz z List.mem_cons_self
          have at0 := lays_at (H := upd H1 p' (L2.DX.itemsO p' a)) (L := (as.zip ps).map fun z => (z.1, [z.2.1.1, z.2.1.2])) (q := (z.1, [z.2.1.1, z.2.1.2])) (by rw [lm]; exact nda) (List.mem_map.mpr ⟨z, hz0, rfl⟩)
          obtain ⟨g1, g2⟩ := e4 z.2 (List.of_mem_zip hz0).2
          exact .cons (.tup (.inl (.inl at0)) (.cons (g1.mono r2 x3) (.cons (g2.mono r2 x3) .nil))) (ih fun w hw => hz w (List.mem_cons_of_mem _ hw))
      exact key _ fun z hz => List.mem_mergeSort.mp hz
    exact Clo.newL (mt := mt) (fun v x H' M' Z' y => c v x H' M' Z' (((x1.trans x2).trans x3).trans y)) r3 rl q hl3
end
end SG
namespace SG
open PySem PySem.Spec PyProof.Rows L2
section
variable {X : Cx} {ga : Str → Option Addr} {F : FS}
structure CloS (C : Ctx) (H : Hp) (M : Sto) (Z : Addr → Prop) (D' : SG.Ends) (D : L2.Ends) : Prop where
  nx : ∀ ρ σ H' M' Z', Ext H M Z H' M' Z' → SR C H' M' Z' → EnvR C H' M' Z' ρ σ → D'.nx ρ M' → D.nx σ H'
  rt : ∀ v x H' M' Z', Ext H M Z H' M' Z' → SR C H' M' Z' → Rep C H' M' Z' v x → D'.rt v M' → D.rt x H'
  bk : ∀ ρ σ H' M' Z', Ext H M Z H' M' Z' → SR C H' M' Z' → EnvR C H' M' Z' ρ σ → D'.bk ρ M' → D.bk σ H'
  ct : ∀ ρ σ H' M' Z', Ext H M Z H' M' Z' → SR C H' M' Z' → EnvR C H' M' Z' ρ σ → D'.ct ρ M' → D.ct σ H'
theorem CloS.ext {C : Ctx} {H H1 : Hp} {M M1 : Sto} {Z Z1 : Addr → Prop} {D' : SG.Ends} {D : L2.Ends} (c : CloS C H M Z D' D) (x : Ext H M Z H1 M1 Z1) : CloS C H1 M1 Z1 D' D :=
  ⟨fun ρ σ H' M' Z' y => c.nx ρ σ H' M' Z' (x.trans y), fun v u H' M' Z' y => c.rt v u H' M' Z' (x.trans y), fun ρ σ H' M' Z' y => c.bk ρ σ H' M' Z' (x.trans y), fun ρ σ H' M' Z' y => c.ct ρ σ H' M' Z' (x.trans y)⟩
def rdS (C : Ctx) (F : FS) (s : S) : TS := fun D σ H => ∃ ρ M Z D', SR C H M Z ∧ EnvR C H M Z ρ σ ∧ wpS F s ρ M D' ∧ CloS C H M Z D' D
def rdSs (C : Ctx) (F : FS) (s : List S) : TS := fun D σ H => ∃ ρ M Z D', SR C H M Z ∧ EnvR C H M Z ρ σ ∧ wpSs F s ρ M D' ∧ CloS C H M Z D' D
theorem PS.imp {st : Stmt} {t t' : TS} (h : PS X st t) (i : ∀ D σ H, t' D σ H → t D σ H) : PS X st t' := ⟨fun pins s σ H D I q => h.run pins s σ H D I (i D σ H q)⟩
theorem PSs.imp {st : List Stmt} {t t' : TS} (h : PSs X st t) (i : ∀ D σ H, t' D σ H → t D σ H) : PSs X st t' := ⟨fun pins s σ H D I q => h.run pins s σ H D I (i D σ H q)⟩
theorem ss_nil : PSs X [] (rdSs (ctx X ga) F []) := PSs.imp pss_nil fun D σ H ⟨ρ, M, Z, D', r, e, h, c⟩ => c.nx ρ σ H M Z Ext.refl r e h
theorem ss_cons {st : Stmt} {rest : List Stmt} {s : S} {ss : List S} (h1 : PS X st (rdS (ctx X ga) F s)) (h2 : PSs X rest (rdSs (ctx X ga) F ss)) : PSs X (st :: rest) (rdSs (ctx X ga) F (s :: ss)) :=
  PSs.imp (pss_cons h1 h2) fun D σ H ⟨ρ, M, Z, D', r, e, h, c⟩ => by
    refine ⟨ρ, M, Z, _, r, e, h, ⟨fun ρ' σ' H' M' Z' x r' e' h' => ?_, c.rt, c.bk, c.ct⟩⟩
    exact ⟨ρ', M', Z', D', r', e', h', c.ext x⟩
theorem s_pass {pos : Pos} : PS X (.Pass pos) (rdS (ctx X ga) F .pass) := PS.imp ps_pass fun D σ H ⟨ρ, M, Z, D', r, e, h, c⟩ => c.nx ρ σ H M Z Ext.refl r e h
theorem s_brk {pos : Pos} : PS X (.Break pos) (rdS (ctx X ga) F .brk) := PS.imp ps_break fun D σ H ⟨ρ, M, Z, D', r, e, h, c⟩ => c.bk ρ σ H M Z Ext.refl r e h
theorem s_cont {pos : Pos} : PS X (.Continue pos) (rdS (ctx X ga) F .cont) := PS.imp ps_continue fun D σ H ⟨ρ, M, Z, D', r, e, h, c⟩ => c.ct ρ σ H M Z Ext.refl r e h
theorem s_never {st : Stmt} : PS X st (rdS (ctx X ga) F .never) := PS.imp ps_never fun D σ H ⟨ρ, M, Z, D', r, e, h, c⟩ => h
theorem s_expr {a : Expr} {ea : E} {pos : Pos} (ha : PE X a (rd (ctx X ga) F ea)) (hs : swapsWith a none pos.line X.env = pure false) : PS X (.Expr a pos) (rdS (ctx X ga) F (.expr ea)) :=
  PS.imp (L2.ps_expr ha hs) fun D σ H ⟨ρ, M, Z, D', r, e, h, c⟩ => ⟨ρ, M, Z, _, r, e, h, fun v x H' M' Z' x1 r1 rv h1 => c.nx ρ σ H' M' Z' x1 r1 (e.mono r x1) h1⟩
theorem s_ret {a : Expr} {ea : E} {pos : Pos} (ha : PE X a (rd (ctx X ga) F ea)) : PS X (.Return (some a) pos) (rdS (ctx X ga) F (.ret ea)) :=
  PS.imp (L2.ps_ret ha) fun D σ H ⟨ρ, M, Z, D', r, e, h, c⟩ => ⟨ρ, M, Z, _, r, e, h, fun v x H' M' Z' x1 r1 rv h1 => c.rt v x H' M' Z' x1 r1 rv h1⟩
theorem s_ret0 {pos : Pos} : PS X (.Return none pos) (rdS (ctx X ga) F .ret0) := PS.imp ps_retN fun D σ H ⟨ρ, M, Z, D', r, e, h, c⟩ => c.rt .non .non H M Z Ext.refl r .non h
theorem s_ite {t : Expr} {et : E} {a b : List Stmt} {sa sb : List S} {pos : Pos} (ht : PT X t (rdT (ctx X ga) F et)) (ha : PSs X a (rdSs (ctx X ga) F sa)) (hb : PSs X b (rdSs (ctx X ga) F sb)) : PS X (.If t a b pos) (rdS (ctx X ga) F (.ite et sa sb)) :=
  PS.imp (L2.ps_if ht ha hb) fun D σ H ⟨ρ, M, Z, D', r, e, h, c⟩ => by
    refine ⟨ρ, M, Z, _, r, e, h, fun k H1 M1 Z1 x1 r1 q => ?_⟩
    cases k with
    | true =>
      rw [if_pos rfl] at q ⊢
      exact ⟨ρ, M1, Z1, D', r1, e.mono r x1, q, c.ext x1⟩
    | false =>
      rw [if_neg Bool.false_ne_true] at q ⊢
      exact ⟨ρ, M1, Z1, D', r1, e.mono r x1, q, c.ext x1⟩
/-- target = value -/
theorem rd_asg {g : Tg} {ea : E} {D : L2.Ends} {σ : L2.St} {H : Hp} (h : rdS (ctx X ga) F (.asg g ea) D σ H) : tAsg (rd (ctx X ga) F ea) (gT (ctx X ga) g) D σ H := by
  obtain ⟨ρ, M, Z, D', r, e, h, c⟩ := h
  refine ⟨ρ, M, Z, _, r, e, h, fun v x H' M' Z' x1 r1 rv ⟨ρ', h1, q⟩ => ?_⟩
  exact gT_of r1 (e.mono r x1).x rv h1 fun σ' e' _ => c.nx ρ' σ' H' M' Z' x1 r1 e' q
theorem s_asg {g : Tg} {tg a : Expr} {ea : E} {pos : Pos} (ha : PE X a (rd (ctx X ga) F ea)) (hg : PG X tg (gT (ctx X ga) g)) (hs : swapsWithSole [tg] a pos.line X.env = pure false) (hw : swappedStores [tg] a X.env = pure none)
    (h1 : (assignEach [tg] X.env).map (·.2) = [assign tg X.env]) : PS X (.Assign [tg] a pos) (rdS (ctx X ga) F (.asg g ea)) :=
  PS.imp (L2.ps_asg ha hg hs hw h1) fun D σ H h => rd_asg h
/-- name = [.. for ..] on one line -/
theorem s_setLc {i : Nat} {y : Str} {py : Pos} {mt : Bool} {g : Tg} {it : It} {oc : Option E} {ee : E} {elt tg iter : Expr} {ifs : List Expr} {scope : Scope} {own : List (Str × Nat)} {pos spos : Pos} (hc : X.calm = true) (hN : X.N.Nodup) (hy : X.N[i]? = some y) (hyl : X.env.scope.names.lookup y = some .local)
    (hsw : swapsWith (.ListComp elt [⟨tg, iter, ifs, 0⟩] scope pos) (some (.Name y py)) spos.line X.env = pure true) (hi : PI X tg iter (rdI (ctx X ga) F it)) (ok : BlkOk X.N X.env.scope scope own) (hown : own.map (·.2) = g.ixs)
    (hg : ∀ (s : Shared) (H : Hp) (C : Addr) (cl : List (Str × Addr)) (fp : List Addr), PG (X.blk s H scope (compEnvC scope cl C X.env) fp) tg (gT (ctx X ga) g))
    (ht : ∀ (s : Shared) (H : Hp) (C : Addr) (cl : List (Str × Addr)) (fp : List Addr), PTs (X.blk s H scope (compEnvC scope cl C X.env) fp) ifs (rdC (ctx X ga) F oc))
    (he : ∀ (s : Shared) (H : Hp) (C : Addr) (cl : List (Str × Addr)) (fp : List Addr), PE (X.blk s H scope (compEnvC scope cl C X.env) fp) elt (rd (ctx X ga) F ee)) (hs : ∀ x, foldedSetIterable iter X.env x = pure x) :
    PS X (.Assign [.Name y py] (.ListComp elt [⟨tg, iter, ifs, 0⟩] scope pos) spos) (rdS (ctx X ga) F (.asg (.nm i) (.comp mt g it oc ee))) :=
  PS.imp (L2.ps_setLc hc hN hy hyl hsw hi ok hg ht he hs) fun D σ H ⟨ρ, M, Z, D', r, e, h, c⟩ => by
    refine rd_comp (mt := mt) hown ⟨ρ, M, Z, _, r, e, h, fun v x H' M' Z' x1 r1 rv ⟨ρ', h1, q⟩ => ?_⟩
    have h1' : ρ.set i (some v) = ρ' := Option.some.inj h1
    subst h1'
    exact c.nx _ _ H' M' Z' x1 r1 ((e.mono r x1).set rv i) q
/-- o[i] = value -/
theorem s_six {o i a : Expr} {eo ei ea : E} {p pos : Pos} (ho : PE X o (rd (ctx X ga) F eo)) (hi : PE X i (rd (ctx X ga) F ei)) (ha : PE X a (rd (ctx X ga) F ea)) (has : ∀ v, assign (.Subscript o i p) X.env v = (do
      let ov ← holding [v] (eval o X.env)
      let iv ← holding [v, ov] (eval i X.env)
      standAt p
      holding [v, ov, iv] (setItem ov iv v)
      release [v, ov, iv] [])) (hs : swapsWithSole [.Subscript o i p] a pos.line X.env = pure false) : PS X (.Assign [.Subscript o i p] a pos) (rdS (ctx X ga) F (.six eo ei ea)) :=
  PS.imp (L2.ps_asg ha (pg_sub ho hi (set_ok (ga := ga)) has) hs rfl rfl) fun D σ H ⟨ρ, M, Z, D', r, e, h, c⟩ => by
    refine ⟨ρ, M, Z, _, r, e, h, fun v x H1 M1 Z1 x1 r1 rv h1 => ?_⟩
    refine ⟨ρ, M1, Z1, _, r1, e.mono r x1, h1, fun w y H2 M2 Z2 x2 r2 rw h2 => ?_⟩
    refine ⟨ρ, M2, Z2, _, r2, e.mono r (x1.trans x2), h2, fun z u H3 M3 Z3 x3 r3 rz h3 => ?_⟩
    refine ⟨w, z, v, M3, Z3, _, r3, rw.mono r2 x3, rz, rv.mono r1 (x2.trans x3), h3, fun H4 M4 Z4 x4 r4 h4 => ?_⟩
    have x := ((x1.trans x2).trans x3).trans x4
    exact c.nx ρ σ H4 M4 Z4 x r4 (e.mono r x) h4
/-- d[k] = value -/
theorem s_dset {o i a : Expr} {eo ei ea : E} {p pos : Pos} (hu : X.A.units + 65 < cLine) (ho : PE X o (rd (ctx X ga) F eo)) (hi : PE X i (rd (ctx X ga) F ei)) (ha : PE X a (rd (ctx X ga) F ea)) (has : ∀ v, assign (.Subscript o i p) X.env v = (do
      let ov ← holding [v] (eval o X.env)
      let iv ← holding [v, ov] (eval i X.env)
      standAt p
      holding [v, ov, iv] (setItem ov iv v)
      release [v, ov, iv] [])) (hs : swapsWithSole [.Subscript o i p] a pos.line X.env = pure false) : PS X (.Assign [.Subscript o i p] a pos) (rdS (ctx X ga) F (.dset eo ei ea)) :=
  PS.imp (L2.ps_asg ha (pg_sub ho hi (dset_ok (ga := ga) hu) has) hs rfl rfl) fun D σ H ⟨ρ, M, Z, D', r, e, h, c⟩ => by
    refine ⟨ρ, M, Z, _, r, e, h, fun v x H1 M1 Z1 x1 r1 rv h1 => ?_⟩
    refine ⟨ρ, M1, Z1, _, r1, e.mono r x1, h1, fun w y H2 M2 Z2 x2 r2 rw h2 => ?_⟩
    refine ⟨ρ, M2, Z2, _, r2, e.mono r (x1.trans x2), h2, fun z u H3 M3 Z3 x3 r3 rz h3 => ?_⟩
    refine ⟨w, z, v, M3, Z3, _, r3, rw.mono r2 x3, rz, rv.mono r1 (x2.trans x3), h3, fun H4 M4 Z4 x4 r4 h4 => ?_⟩
    have x := ((x1.trans x2).trans x3).trans x4
    exact c.nx ρ σ H4 M4 Z4 x r4 (e.mono r x) h4
/-- name op= value -/
def opA : Op → Operator
  | .add => .Add
  | .sub => .Sub
  | _ => .Mult
def rAug (C : Ctx) (op : Op) : V → V → Hp → VK → Prop := fun x y H Q => ∃ a b M Z Q', SR C H M Z ∧ Rep C H M Z a x ∧ Rep C H M Z b y ∧ augS op a b M Q' ∧ Clo C H M Z Q' Q
theorem aug_ok {op : Op} : PIp X (opA op) (rAug (ctx X ga) op) := by
  intro pins s σ H x y v u Q I rx ry h
  obtain ⟨a, b, M, Z, Q', r, ra, rb, f, c⟩ := h
  cases op <;> cases a <;> cases b <;> first | exact f.elim | skip
  · obtain rfl := ra.int_inv
    obtain rfl := rb.int_inv
    exact ip_add pins s σ H _ _ v u Q I rx ry ⟨_, _, rfl, rfl, c _ _ _ _ _ Ext.refl r (.int _) f⟩
  · obtain rfl := ra.str_inv
    obtain rfl := rb.str_inv
    exact iop_add_str pins s σ H _ _ v u Q I rx ry ⟨_, _, rfl, rfl, f.1, c _ _ _ _ _ Ext.refl r (.str _) f.2⟩
  · obtain rfl := ra.int_inv
    obtain rfl := rb.int_inv
    exact ip_sub pins s σ H _ _ v u Q I rx ry ⟨_, _, rfl, rfl, c _ _ _ _ _ Ext.refl r (.int _) f⟩
theorem s_aug {i : Nat} {x : Str} {op : Op} {a : Expr} {ea : E} {p pos : Pos} (hN : X.N.Nodup) (hi : X.N[i]? = some x) (hx : Sto1 X x) (ha : PE X a (rd (ctx X ga) F ea)) : PS X (.AugAssign (.Name x p) (opA op) a pos) (rdS (ctx X ga) F (.aug i op ea)) :=
  PS.imp (L2.ps_aug hN hi hx.1 ha (aug_ok (ga := ga) (op := op)) hx.2) fun D σ H ⟨ρ, M, Z, D', r, e, ⟨v, hv, h⟩, c⟩ => by
    obtain ⟨y, hy, ry⟩ := e.2 i v hv
    refine ⟨y, hy, ρ, M, Z, _, r, e, h, fun w u H1 M1 Z1 x1 r1 rw h1 => ?_⟩
    refine ⟨v, w, M1, Z1, _, r1, ry.mono r x1, rw, h1, fun z t H2 M2 Z2 x2 r2 rz h2 => ?_⟩
    exact c.nx _ _ H2 M2 Z2 (x1.trans x2) r2 ((e.mono r (x1.trans x2)).set rz i) h2
/-- o[i] op= value -/
theorem getM_ok : PGet X (r2 (ctx X ga) ixM) := by
  intro pins s σ H x y v u Q I rx ry h
  obtain ⟨a, b, M, Z, Q', r, ra, rb, f, c⟩ := h
  cases a <;> cases b <;> first | exact f.elim | skip
  rename_i p i
  obtain ⟨xs, w, m, h0, hw, q⟩ := f
  obtain ⟨rfl, _⟩ := ra.ref_inv
  obtain rfl := rb.int_inv
  obtain ⟨o, hh, ws, rfl, l2⟩ := r.sto p _ m
  cases rx
  obtain ⟨t, rfl⟩ := ry
  obtain ⟨its, rv, pl, hz⟩ := I.list (.inl (.inl hh))
  obtain ⟨z, hz1, rz⟩ := l2.get hw
  obtain ⟨k, hk, rk⟩ := rv.get hz1
  have hl := rv.length
  have hlt : i.toNat < ws.length := (List.getElem?_eq_some_iff.mp hz1).1
  have hn := line63
  exact wpAny_getItem_list pl.isList h0 (by omega) (by simpa using hk) ⟨z, H, I, rk, c _ _ _ _ _ Ext.refl r rz q⟩
theorem s_augx {op : Op} {o i a : Expr} {eo ei ea : E} {p pos : Pos} (ho : PE X o (rd (ctx X ga) F eo)) (hi : PE X i (rd (ctx X ga) F ei)) (ha : PE X a (rd (ctx X ga) F ea))
    (hs : ∀ ov iv new, augStore i ov iv new = (do holding [new, ov, iv] (setItem ov iv new); release [new, ov, iv] []; pure .next)) : PS X (.AugAssign (.Subscript o i p) (opA op) a pos) (rdS (ctx X ga) F (.augx eo ei op ea)) :=
  PS.imp (L2.ps_augS ho hi (getM_ok (ga := ga)) ha (aug_ok (ga := ga) (op := op)) (set_ok (ga := ga)) hs) fun D σ H ⟨ρ, M, Z, D', r, e, h, c⟩ => by
    refine ⟨ρ, M, Z, _, r, e, h, fun v x H1 M1 Z1 x1 r1 rv h1 => ?_⟩
    refine ⟨ρ, M1, Z1, _, r1, e.mono r x1, h1, fun w y H2 M2 Z2 x2 r2 rw h2 => ?_⟩
    refine ⟨v, w, M2, Z2, _, r2, rv.mono r1 x2, rw, h2, fun t tx H3 M3 Z3 x3 r3 rt h3 => ?_⟩
    refine ⟨ρ, M3, Z3, _, r3, e.mono r (x1.trans (x2.trans x3)), h3, fun b bx H4 M4 Z4 x4 r4 rb h4 => ?_⟩
    refine ⟨t, b, M4, Z4, _, r4, rt.mono r3 x4, rb, h4, fun z zx H5 M5 Z5 x5 r5 rz h5 => ?_⟩
    refine ⟨v, w, z, M5, Z5, _, r5, rv.mono r1 (x2.trans (x3.trans (x4.trans x5))), rw.mono r2 (x3.trans (x4.trans x5)), rz, h5, fun H6 M6 Z6 x6 r6 h6 => ?_⟩
    have x := x1.trans (x2.trans (x3.trans (x4.trans (x5.trans x6))))
    exact c.nx ρ σ H6 M6 Z6 x r6 (e.mono r x) h6
/-- for -/
theorem s_for {g : Tg} {it : It} {tg iter : Expr} {body : List Stmt} {sb : List S} {pos : Pos} (hp : PassesOwn (model X.prog X.w) X.A X.env X.xe) (hc : X.calm = true) (hi : PI X tg iter (rdI (ctx X ga) F it)) (hg : PG X tg (gT (ctx X ga) g)) (hb : PSs X body (rdSs (ctx X ga) F sb))
    (hs : ∀ x, foldedSetIterable iter X.env x = pure x) : PS X (.For tg iter body [] pos) (rdS (ctx X ga) F (.for_ g it sb)) :=
  PS.imp (L2.ps_for hp hc hi hg hb hs) fun D σ H ⟨ρ, M, Z, D', r, e, h, c⟩ => by
    refine ⟨ρ, M, Z, _, r, e, h, fun J H1 M1 Z1 items keep x1 r1 iok k1 h1 => ?_⟩
    have e1 := e.mono r x1
    refine ⟨fun i m σ' H2 => ∃ ρ' M2 Z2, SR (ctx X ga) H2 M2 Z2 ∧ Ext H1 M1 Z1 H2 M2 Z2 ∧ EnvR (ctx X ga) H2 M2 Z2 ρ' σ' ∧ keep M2 ∧ i + m = items.length ∧ forL (fun x ρ1 M' k => ∃ ρ', bindT M' g x ρ1 = some ρ' ∧ wpSs F sb ρ' M' ⟨k, D'.rt, D'.nx, k⟩) keep D'.nx (items.drop i) ρ' M2,
      ⟨items.length, ρ, M1, Z1, r1, Ext.refl, e1, k1, Nat.zero_add _, h1⟩, ?_⟩
    rintro i m σ2 H2 ⟨ρ2, M2, Z2, r2, x2, e2, k2, him, hf⟩
    obtain ⟨go, stop⟩ := iok i H2 M2 Z2 x2 r2 k2
    by_cases hi : i < items.length
    · obtain ⟨v, hv⟩ : ∃ v, items[i]? = some v := ⟨items[i], List.getElem?_eq_getElem hi⟩
      obtain ⟨g1, g2⟩ := go v hv
      have hd : items.drop i = v :: items.drop (i + 1) := by
        rw [List.drop_eq_getElem_cons hi]
        rw [List.getElem?_eq_getElem hi] at hv
        rw [Option.some.inj hv]
      rw [hd] at hf
      obtain ⟨ρ', hb, hf⟩ := hf
      refine .inr ⟨g1, fun σ' H' => ∃ ρ' M2 Z2, SR (ctx X ga) H' M2 Z2 ∧ Ext H1 M1 Z1 H' M2 Z2 ∧ EnvR (ctx X ga) H' M2 Z2 ρ' σ' ∧ keep M2 ∧ (i + 1) + (m - 1) = items.length ∧ forL (fun x ρ1 M' k => ∃ ρ', bindT M' g x ρ1 = some ρ' ∧ wpSs F sb ρ' M' ⟨k, D'.rt, D'.nx, k⟩) keep D'.nx (items.drop (i + 1)) ρ' M2,
        fun σ' H' w => ⟨m - 1, by omega, w⟩, fun x H3 hy => ?_⟩
      obtain ⟨x3, r3, rv⟩ := g2 x H3 hy
      refine gT_of r3 (e2.mono r2 x3).x rv hb fun σ' e4 _ => ?_
      have x13 := x2.trans x3
      refine ⟨ρ', M2, Z2, _, r3, e4, hf, ⟨fun ρ5 σ5 H5 M5 Z5 x5 r5 e5 ⟨k5, h5⟩ => ?_, fun v u H5 M5 Z5 x5 r5 rv5 h5 => c.rt v u H5 M5 Z5 (x1.trans (x13.trans x5)) r5 rv5 h5,
        fun ρ5 σ5 H5 M5 Z5 x5 r5 e5 h5 => c.nx ρ5 σ5 H5 M5 Z5 (x1.trans (x13.trans x5)) r5 e5 h5, fun ρ5 σ5 H5 M5 Z5 x5 r5 e5 ⟨k5, h5⟩ => ?_⟩⟩
      · exact ⟨ρ5, M5, Z5, r5, x13.trans x5, e5, k5, by omega, h5⟩
      · exact ⟨ρ5, M5, Z5, r5, x13.trans x5, e5, k5, by omega, h5⟩
    · have hd : items.drop i = [] := List.drop_eq_nil_of_le (by omega)
      rw [hd] at hf
      exact .inl ⟨stop (by omega), c.nx ρ2 σ2 H2 M2 Z2 (x1.trans x2) r2 e2 hf⟩
/-- while -/
theorem s_while {t : Expr} {et : E} {body : List Stmt} {sb : List S} {pos : Pos} (hp : PassesOwn (model X.prog X.w) X.A X.env X.xe) (ht : PT X t (rdT (ctx X ga) F et)) (hb : PSs X body (rdSs (ctx X ga) F sb)) : PS X (.While t body [] pos) (rdS (ctx X ga) F (.while_ et sb)) :=
  PS.imp (L2.ps_while hp ht hb) fun D σ H ⟨ρ, M, Z, D', r, e, ⟨n, h⟩, c⟩ => by
    refine ⟨fun m σ' H2 => ∃ ρ' M2 Z2, SR (ctx X ga) H2 M2 Z2 ∧ Ext H M Z H2 M2 Z2 ∧ EnvR (ctx X ga) H2 M2 Z2 ρ' σ' ∧ whileN (fun ρ1 M1 k => wpE F et ρ1 M1 fun x M2 => ∃ b, truS M2 x = some b ∧ if b = true then wpSs F sb ρ1 M2 ⟨k, D'.rt, D'.nx, k⟩ else D'.nx ρ1 M2) m ρ' M2,
      ⟨n, ρ, M, Z, r, Ext.refl, e, h⟩, ?_⟩
    rintro m σ2 H2 ⟨ρ2, M2, Z2, r2, x2, e2, hf⟩
    cases m with
    | zero => exact False.elim hf
    | succ m =>
      refine ⟨ρ2, M2, Z2, _, r2, e2, hf, fun b H3 M3 Z3 x3 r3 q => ?_⟩
      have x13 := x2.trans x3
      cases b with
      | false =>
        dsimp only at q ⊢
        rw [if_neg Bool.false_ne_true] at q ⊢
        exact c.nx ρ2 σ2 H3 M3 Z3 x13 r3 (e2.mono r2 x3) q
      | true =>
        dsimp only at q ⊢
        rw [if_pos rfl] at q ⊢
        refine ⟨fun σ' H2 => ∃ ρ' M2 Z2, SR (ctx X ga) H2 M2 Z2 ∧ Ext H M Z H2 M2 Z2 ∧ EnvR (ctx X ga) H2 M2 Z2 ρ' σ' ∧ whileN (fun ρ1 M1 k => wpE F et ρ1 M1 fun x M2 => ∃ b, truS M2 x = some b ∧ if b = true then wpSs F sb ρ1 M2 ⟨k, D'.rt, D'.nx, k⟩ else D'.nx ρ1 M2) m ρ' M2,
          fun σ' H' w => ⟨m, Nat.lt_succ_self m, w⟩, ρ2, M3, Z3, _, r3, e2.mono r2 x3, q, ⟨fun ρ5 σ5 H5 M5 Z5 x5 r5 e5 h5 => ⟨ρ5, M5, Z5, r5, x13.trans x5, e5, h5⟩, fun v u H5 M5 Z5 x5 r5 rv5 h5 => c.rt v u H5 M5 Z5 (x13.trans x5) r5 rv5 h5,
          fun ρ5 σ5 H5 M5 Z5 x5 r5 e5 h5 => c.nx ρ5 σ5 H5 M5 Z5 (x13.trans x5) r5 e5 h5, fun ρ5 σ5 H5 M5 Z5 x5 r5 e5 h5 => ⟨ρ5, M5, Z5, r5, x13.trans x5, e5, h5⟩⟩⟩
/-- a, b = x, y; a, b, c = x, y, z: plain local names -/
theorem s_par2 (hF : FMono F) {i j : Nat} {x y : Str} {a b : Expr} {ea eb : E} {px py pt pos : Pos} {kt k2 : Nat} {pt2 : Pos} (hc : X.calm = true) (hN : X.N.Nodup) (hi : X.N[i]? = some x) (hj : X.N[j]? = some y) (hij : i ≠ j)
    (hx : X.env.scope.names.lookup x = some .local) (hy : X.env.scope.names.lookup y = some .local) (ha : PA X [a, b] (rdL (ctx X ga) F [ea, eb]))
    (hw : swappedStores [.Tuple [.Name x px, .Name y py] kt pt] (.Tuple [a, b] k2 pt2) X.env = pure (some [x, y])) (hs : swapsWithSole [.Tuple [.Name x px, .Name y py] kt pt] (.Tuple [a, b] k2 pt2) pos.line X.env = pure false) :
    PS X (.Assign [.Tuple [.Name x px, .Name y py] kt pt] (.Tuple [a, b] k2 pt2) pos) (rdS (ctx X ga) F (.asg (.tp [.nm i, .nm j]) (.tup [ea, eb]))) :=
  PS.imp (L2.ps_par hc hN hi hj hij hx hy ha hw hs) fun D σ H ⟨ρ, M, Z, D', r, e, h, c⟩ => by
    have h : wpL F [ea, eb] ρ M (fun vs M1 => ∃ ρ', bindT M1 (.tp [.nm i, .nm j]) (.tup vs) ρ = some ρ' ∧ D'.nx ρ' M1) := h
    refine ⟨ρ, M, Z, _, r, e, wpL_len hF _ _ _ _ h, fun vs xs H1 M1 Z1 x1 r1 rvs ⟨hl, ρ', h1, q⟩ => ?_⟩
    match vs, hl, rvs, h1 with
    | [v, w], _, rvs, h1 =>
      obtain ⟨u1, u2, rfl, ru1, ru2⟩ := rvs.two
      have h1' : (ρ.set i (some v)).set j (some w) = ρ' := Option.some.inj h1
      subst h1'
      exact ⟨u1, u2, rfl, c.nx _ _ _ _ _ x1 r1 (((e.mono r x1).set ru1 i).set ru2 j) q⟩
theorem s_par3 (hF : FMono F) {i j l : Nat} {x y z : Str} {a b d : Expr} {ea eb ed : E} {px py pz pt pos : Pos} {kt k2 : Nat} {pt2 : Pos} (hc : X.calm = true) (hN : X.N.Nodup) (hi : X.N[i]? = some x) (hj : X.N[j]? = some y) (hl : X.N[l]? = some z) (hij : i ≠ j) (hil : i ≠ l) (hjl : j ≠ l)
    (hx : X.env.scope.names.lookup x = some .local) (hy : X.env.scope.names.lookup y = some .local) (hz : X.env.scope.names.lookup z = some .local) (ha : PA X [a, b, d] (rdL (ctx X ga) F [ea, eb, ed]))
    (hw : swappedStores [.Tuple [.Name x px, .Name y py, .Name z pz] kt pt] (.Tuple [a, b, d] k2 pt2) X.env = pure (some [x, y, z])) (hs : swapsWithSole [.Tuple [.Name x px, .Name y py, .Name z pz] kt pt] (.Tuple [a, b, d] k2 pt2) pos.line X.env = pure false) :
    PS X (.Assign [.Tuple [.Name x px, .Name y py, .Name z pz] kt pt] (.Tuple [a, b, d] k2 pt2) pos) (rdS (ctx X ga) F (.asg (.tp [.nm i, .nm j, .nm l]) (.tup [ea, eb, ed]))) :=
  PS.imp (L2.ps_par3 hc hN hi hj hl hij hil hjl hx hy hz ha hw hs) fun D σ H ⟨ρ, M, Z, D', r, e, h, c⟩ => by
    have h : wpL F [ea, eb, ed] ρ M (fun vs M1 => ∃ ρ', bindT M1 (.tp [.nm i, .nm j, .nm l]) (.tup vs) ρ = some ρ' ∧ D'.nx ρ' M1) := h
    refine ⟨ρ, M, Z, _, r, e, wpL_len hF _ _ _ _ h, fun vs xs H1 M1 Z1 x1 r1 rvs ⟨hl, ρ', h1, q⟩ => ?_⟩
    match vs, hl, rvs, h1 with
    | [v, w, t], _, .cons ru1 (.cons ru2 (.cons ru3 .nil)), h1 =>
      have h1' : ((ρ.set i (some v)).set j (some w)).set l (some t) = ρ' := Option.some.inj h1
      subst h1'
      exact ⟨_, _, _, rfl, c.nx _ _ _ _ _ x1 r1 ((((e.mono r x1).set ru1 i).set ru2 j).set ru3 l) q⟩
end
end SG
/-! dict comprehensions with tuple keys -/
namespace SG
open PySem PySem.Spec PyProof.Rows L2
section
variable {C : Ctx} {H H1 : Hp} {M M1 : Sto} {Z Z1 : Addr → Prop}
/-- a dict under way at D, that no value tells -/
theorem Kp.hidD {D : Addr} {P : Heap → Prop} {o : HO} (h : H D = some (.ext P)) (nz : ¬ Z D) : Kp H M Z (upd H D o) M Z :=
  ⟨fun a us e => by rw [upd_ne (fun q => by subst q; rw [h] at e; cases e)]; exact e,
   fun a o u e => by rw [upd_ne (fun q => by subst q; rw [h] at e; cases e)]; exact e,
   fun a z => upd_ne (fun q => by subst q; exact nz z), fun _ h => h, fun _ h => h⟩
theorem SR.hidD (r : SR C H M Z) {D : Addr} {P : Heap → Prop} {o : HO} (h : H D = some (.ext P)) (nz : ¬ Z D) (nm : M D = none) : SR C (upd H D o) M Z := by
  refine ⟨fun a so e => ?_, fun a z => ?_⟩
  · obtain ⟨u, hu, b⟩ := r.sto a so e
    exact ⟨u, by rw [upd_ne (fun q => by subst q; rw [nm] at e; cases e)]; exact hu, b.kp (Kp.hidD h nz)⟩
  · rw [upd_ne (fun q => by subst q; exact nz z)]; exact r.frz a z
theorem Ext.hidD {D : Addr} {o : HO} (x : Ext H M Z H1 M1 Z1) (h : H D = none) : Ext H M Z (upd H1 D o) M1 Z1 :=
  ⟨fun a u e m => by rw [upd_ne (ne_of_none e h)]; exact x.unm a u e m, x.dom, x.zz, fun a q => upd_some (x.hd a q), x.zn⟩
end
section
variable {X : Cx} {ga : Str → Option Addr} {F : FS}
/-- one more pair -/
def DSt (C : Ctx) (D : Addr) (y z : V) (H : Hp) (Nx : Hp → Prop) : Prop :=
  ∃ M Z kvs t k v, SR C H M Z ∧ M D = none ∧ ¬ Z D ∧ SOk C H M Z D (.dct kvs t) ∧ Rep C H M Z k y ∧ Rep C H M Z v z ∧ keyOk k ∧ kvs.length < sizeLine ∧ ∀ tt, SBody C (upd H D (dHO D tt.1 tt.2)) M Z D (.dct (dstore kvs k v) tt) (dHO D tt.1 tt.2) → Nx (upd H D (dHO D tt.1 tt.2))
theorem hid_set {pins : List (Addr × Obj)} {s : Shared} {σ : L2.St} {H : Hp} {D : Addr} {y z : V} {u w : Value} {Nx : Hp → Prop} {Q : Unit → Shared → Prop} {E : Value → Shared → Prop} (hu : X.A.units + 65 < cLine) (I : L2.Inv X pins σ H s) (ry : RelV y u) (rz : RelV z w)
    (h : DSt (ctx X ga) D y z H Nx) (hq : ∀ s' H', L2.Inv X pins σ H' s' → Nx H' → Q () s') : wpAny (model X.prog X.w) X.A (dictSet D u w) Q E s := by
  obtain ⟨M, Z, kvs, t, k, v, r, nm, nz, ⟨o, hh, b⟩, rk, rv, ⟨⟨ys, rfl⟩, hp, n, hk, hd⟩, hz, q⟩ := h
  obtain ⟨xs, rfl, ns, he, nd, kv⟩ := b
  obtain ⟨c, ws, rfl, _⟩ := rk.tup_inv
  cases ry
  obtain ⟨ob, hob, hex, hdt⟩ := (I.hok D _ hh).1
  have dd : s.heap.DictOfH (nk X) D xs := ⟨ob, t.1, t.2, hob, hex, hdt, he, kvr_is I kv, nd⟩
  refine wpAny_dictSet_heap (knd := nk X) (by show X.A.units + 8 < cLine; omega) (key_is I rk hp hk hd) dd (fun h' d' sb => ?_) (by rw [← kvr_len kv]; omega)
  obtain ⟨o2, es2, ep2, h1, h2, h3, h4, _, h6⟩ := d'
  refine hq _ (upd H D (dHO D es2 ep2)) (d_write I (by rw [hh]; exact True.intro) sb ⟨o2, h1⟩ (dHO_ok ⟨o2, h1, h2, h3⟩)) ?_
  exact q (es2, ep2) ⟨_, rfl, ns, h4, h6, (kvr_store hk ⟨hd, hp⟩ rk rz rv kv).kp (Kp.hidD hh nz)⟩
/-- {k: v for target in iter if ..} -/
def tDn (C : Ctx) (wi : TI) (g : TG) (tt : TT) (tk tv : TE) (vs : List Nat) : TE := fun σ H Q => wi σ H fun J H1 => ∀ D, H1 D = none → (D == sysModules) = false →
  ∃ W : Nat → Nat → Hp → Prop, (∃ m, W 0 m (upd H1 D (dHO D #[] 0))) ∧ ∀ i m H, W i m H →
    (J.stop i H ∧ Q (.ref D) H) ∨ (J.go i H ∧ ∃ Nx : Hp → Prop, (∀ H', Nx H' → ∃ m', m' < m ∧ W (i + 1) m' H') ∧ ∀ x H', J.yld i H x H' →
      g x (wipe σ vs) H' fun σ2 H2 => wipe σ2 vs = wipe σ vs ∧ tt σ2 H2 fun b H3 => if b = true then tk σ2 H3 fun y H4 => tv σ2 H4 fun z H5 => DSt C D y z H5 Nx else Nx H3)
abbrev Blk (X : Cx) (scope : Scope) (P : Cx → Prop) : Prop := ∀ (s : Shared) (H : Hp) (C : Addr) (cl : List (Str × Addr)) (fp : List Addr), P (X.blk s H scope (compEnvC scope cl C X.env) fp)
theorem dn_core {pins : List (Addr × Obj)} {s : Shared} {σ : L2.St} {H : Hp} {Q : VK} {kx vx tg iter : Expr} {ifs : List Expr} {scope : Scope} {own : List (Str × Nat)} {pos pos' : Pos} {wi : TI} {g : TG} {tt : TT} {tk tv : TE} {use : Option (Value → Sem Unit)} {Qf : Value → Shared → Prop}
    (hu : X.A.units + 65 < cLine) (hc : X.calm = true) (hN : X.N.Nodup) (I : L2.Inv X pins σ H s) (hi : PI X tg iter wi) (ok : BlkOk X.N X.env.scope scope own)
    (hg : Blk X scope fun Y => PG Y tg g) (ht : Blk X scope fun Y => PTs Y ifs tt) (hk : Blk X scope fun Y => PE Y kx tk) (he : Blk X scope fun Y => PE Y vx tv) (hs : ∀ x, foldedSetIterable iter X.env x = pure x)
    (h : tDn (ctx X ga) wi g tt tk tv (own.map (·.2)) σ H Q)
    (hR : ∀ D C s' m H', L2.Inv X pins σ H' s' → Q (.ref D) H' → s'.heap.Ns C m → FpOk X pins H' C → compPost (model X.prog X.w) X.A X.xe use Qf (.ref D) C (.ok .next) s') :
    wpAny (model X.prog X.w) X.A (comprehension (.DictComp kx vx [⟨tg, iter, ifs, 0⟩] scope pos) scope X.env pos' newDict false (eval iter X.env) use) Qf X.xe s := by
  have cells : ∀ y ∈ scope.names, y.2 = .free → ∃ c, X.env.cells.lookup y.1 = some c := fun y hy e =>
    (ok.free y hy e).elim (fun k => I.ok.has _ (.inl k)) fun k => I.ok.has _ (.inr k)
  refine wpAny_comprehension_free (use := use) rfl hs (closure_ok cells) ok.kind (fun y hy e => by rw [ok.uniq y hy, e]) ?_
  refine thn (hi.run pins s σ H _ I h) fun xv s1 hx => thn hx fun itv s2 ⟨it, fp, tn, J, H2, e, I2, T, st2, f2, q⟩ => ?_
  subst e
  refine wpAny_newObj_type (newEnv_comp ?_)
  have hDn : H2 s2.heap.objs.size = none := I2.hok.fresh (Nat.le_refl _)
  have ns : (s2.heap.objs.size == sysModules) = false := by
    have := I2.big
    simpa using Nat.ne_of_gt (Nat.lt_of_lt_of_le (by decide) this)
  obtain ⟨W, ⟨m0, w0⟩, turn⟩ := q _ hDn ns
  have lt2 : ∀ b ∈ fp, b < s2.heap.objs.size := fun b hb => let ⟨o, e, _⟩ := T.obj _ _ st2 b hb; Heap.lt_size e
  generalize hs3 : ({ s2 with heap := s2.heap.push { cls := .type "dict", data := .dict #[] } } : Shared) = s3
  have h3 : s3.heap = s2.heap.push { cls := .type "dict", data := .dict #[] } := by rw [← hs3]
  have I3 : L2.Inv X pins σ (upd H2 s2.heap.objs.size (dHO s2.heap.objs.size #[] 0)) s3 := by
    rw [← hs3]
    exact I2.laid (t' := s2.toks) (fun b o e => Heap.get?_push_of_some _ e) (Nat.le_refl _) (dHO_ok ⟨_, Heap.get?_push_size _ rfl, ⟨rfl, rfl, rfl⟩, rfl⟩)
  generalize s2.heap.objs.size = D at *
  have f3 : ∀ b ∈ fp, FpOk X pins (upd H2 D (dHO D #[] 0)) b ∧ b < s3.heap.objs.size := fun b hb => by
    have hlt := lt2 b hb
    refine ⟨⟨?_, (f2 b hb).2⟩, ?_⟩
    · rw [upd_ne (Nat.ne_of_lt hlt)]; exact (f2 b hb).1
    · obtain ⟨o, e, _⟩ := T.obj _ _ st2 b hb
      exact Heap.lt_size (by rw [h3]; exact Heap.get?_push_of_some _ e)
  have st3 : tn 0 s3.heap := T.keep _ _ _ st2 fun b _ o e => by
    rw [h3]; exact Heap.get?_push_of_some _ e
  have I4 := block_start I3 ok hN f3
  have nfp : ∀ b ∈ fp, (upd H2 D (dHO D #[] 0)) b = none := fun b hb => (f3 b hb).1.1
  generalize hcl : cellsFrom (s3.heap.objs.size + 1) scope.names (cloFrom X.env.cells scope.names []) = cl at I4 ⊢
  have pg := hg s3 (upd H2 D (dHO D #[] 0)) s3.heap.objs.size cl fp
  have pt := ht s3 (upd H2 D (dHO D #[] 0)) s3.heap.objs.size cl fp
  have pk := hk s3 (upd H2 D (dHO D #[] 0)) s3.heap.objs.size cl fp
  have pe := he s3 (upd H2 D (dHO D #[] 0)) s3.heap.objs.size cl fp
  generalize hce : compEnvC scope cl s3.heap.objs.size X.env = ce at I4 pg pt pk pe
  have cL : ce.locals = s3.heap.objs.size := by subst hce; rfl
  show codeAny _ _ (.compStart (.DictComp kx vx [⟨tg, iter, ifs, 0⟩] scope pos) 0 (.ref it) (.ref D) (compEnvC scope cl s3.heap.objs.size X.env)) (compPost (model X.prog X.w) X.A X.xe use Qf (.ref D) s3.heap.objs.size)
    { s3 with heap := pushCells (s3.heap.push { cls := .type "dict", data := .dict #[] }) scope.names }
  rw [hce]
  generalize hs4 : ({ s3 with heap := pushCells (s3.heap.push { cls := .type "dict", data := .dict #[] }) scope.names } : Shared) = s4 at I4 ⊢
  have st4 : tn 0 s4.heap := T.keep _ _ _ st3 fun b _ o e => by
    rw [← hs4]; exact pushCells_keeps _ _ _ _ (Heap.get?_push_of_some _ e)
  generalize upd H2 D (dHO D #[] 0) = H3 at *
  have own_ok : ∀ {σ' : L2.St} {H' : Hp} {s' : Shared}, L2.Inv (X.blk s3 H3 scope ce fp) [] σ' H' s' → (∀ b ∈ fp, H' b = none) → ∀ b ∈ fp, FpOk (X.blk s3 H3 scope ce fp) [] H' b :=
    fun {σ' H' s'} J' hn b hb => ⟨hn b hb, (J'.ok.exf b hb).1, J'.ok.exfs b hb, .inl hb, fun x c e => (J'.ok.exf b hb).2 x c e, fun p hp => absurd (show p ∈ ([] : List (Addr × Obj)) ++ [] from hp) (by simp)⟩
  have loop : codeAny (model X.prog X.w) X.A (.compLoop (.DictComp kx vx [⟨tg, iter, ifs, 0⟩] scope pos) 0 (.ref it) (.ref D) ce) (compPost (model X.prog X.w) X.A X.xe use Qf (.ref D) s3.heap.objs.size) s4 := by
    refine compLoop_anyD (fun n t => ∃ i K, L2.Inv (X.blk s3 H3 scope ce fp) [] (wipe σ (own.map (·.2))) K t ∧ tn i t.heap ∧ (∀ b ∈ fp, K b = none) ∧ W i n K) ?_ m0 ⟨0, H3, I4, st4, nfp, w0⟩
    rintro n s5 ⟨i, H5, I5, st5, n5, w5⟩
    rcases turn i n H5 w5 with ⟨stop, qq⟩ | ⟨go, Nx, hNx, step⟩
    · refine thnF (T.done (X.blk s3 H3 scope ce fp) rfl rfl rfl hc i [] s5 _ H5 (fun _ _ => False) I5 (own_ok I5 n5) st5 stop) fun r s6 ⟨hr, I6⟩ => ?_
      subst hr
      have back : L2.Inv X pins σ H5 s6 := I3.call' (ch := fp) I6.os I6.base I6.hok I6.bare fun b hb =>
        ⟨(f3 b hb).1.2.2.2.1, (f3 b hb).1.2.1, (f3 b hb).1.2.2.2.2.1, (f3 b hb).1.2.2.2.2.2⟩
      have nC : H5 s3.heap.objs.size = none := by rw [← cL]; exact I6.free
      obtain ⟨m, hn, _⟩ := I6.loc
      have hn : s6.heap.Ns s3.heap.objs.size m := by rw [← cL]; exact hn
      exact hR D s3.heap.objs.size s6 m H5 back qq hn (I3.fpOk (Nat.le_refl _) nC)
    · refine thnF (T.item (X.blk s3 H3 scope ce fp) rfl rfl rfl hc i [] s5 _ H5 (fun _ _ => False) I5 (own_ok I5 n5) st5 go) fun r s6 ⟨u, hr, h6⟩ => ?_
      subst hr
      refine thnF h6 fun _ s7 ⟨x, H7, I7, r7, y7, st7, n7⟩ => ?_
      have I7' := I7.pinned (own_ok I7 n7) (T.obj _ _ st7)
      refine thnF (pg.run _ s7 _ H7 x u _ I7' r7 (step x H7 y7)) fun _ s8 ⟨σ8, H8, I8, hw8, q8⟩ => ?_
      refine thnF (pt.run _ s8 σ8 H8 _ I8 q8) fun b s9 ⟨H9, I9, q9⟩ => ?_
      have fin : ∀ (t : Shared) (K : Hp), L2.Inv (X.blk s3 H3 scope ce fp) ([] ++ pinsAt fp s7.heap) σ8 K t → Nx K →
          ∃ m, m < n ∧ ∃ i K, L2.Inv (X.blk s3 H3 scope ce fp) [] (wipe σ (own.map (·.2))) K t ∧ tn i t.heap ∧ (∀ b ∈ fp, K b = none) ∧ W i m K := fun t K I' nx => by
        obtain ⟨m', hm, w'⟩ := hNx K nx
        have pin : ∀ b ∈ fp, ∀ o, s7.heap.get? b = some o → t.heap.get? b = some o ∧ K b = none := fun b hb o e =>
          have z := I'.pin (b, o) (List.mem_append_right _ (List.mem_append_right _ (mem_pinsAt hb e)))
          ⟨z.1, z.2.1⟩
        refine ⟨m', hm, i + 1, K, (I'.unpinned (pins := [])).weak (by rw [← hw8, wipe_length]) (fun j v e => ?_), T.keep _ _ _ st7 fun b hb o e => (pin b hb o e).1, fun b hb => ?_, w'⟩
        · rw [← hw8] at e
          exact (wipe_some e).1
        · obtain ⟨o, e, _⟩ := T.obj _ _ st7 b hb
          exact (pin b hb o e).2
      cases b with
      | false =>
        simp only [Bool.false_eq_true, if_false] at q9 ⊢
        exact fin _ _ I9 q9
      | true =>
        simp only [if_true] at q9 ⊢
        refine thnF (pk.run _ s9 σ8 H9 _ I9 q9) fun a s10 ⟨yk, H10, I10, r10, q10⟩ => ?_
        refine thnF (pe.run _ s10 σ8 H10 _ I10 q10) fun c s11 ⟨yv, H11, I11, r11, q11⟩ => ?_
        exact hid_set (X := X.blk s3 H3 scope ce fp) (ga := ga) hu I11 r10 r11 q11 fun t K I' nx => fin t K I' nx
  exact codeAny_compStart_dict loop (T.self X.A 0 _ _ _ st4 loop)
/-- as a value -/
theorem pe_dn {kx vx tg iter : Expr} {ifs : List Expr} {scope : Scope} {own : List (Str × Nat)} {pos : Pos} {wi : TI} {g : TG} {tt : TT} {tk tv : TE} (hu : X.A.units + 65 < cLine) (hc : X.calm = true) (hN : X.N.Nodup) (hi : PI X tg iter wi) (ok : BlkOk X.N X.env.scope scope own)
    (hg : Blk X scope fun Y => PG Y tg g) (ht : Blk X scope fun Y => PTs Y ifs tt) (hk : Blk X scope fun Y => PE Y kx tk) (he : Blk X scope fun Y => PE Y vx tv) (hs : ∀ x, foldedSetIterable iter X.env x = pure x) :
    PE X (.DictComp kx vx [⟨tg, iter, ifs, 0⟩] scope pos) (tDn (ctx X ga) wi g tt tk tv (own.map (·.2))) := ⟨fun pins s σ H Q I h => by
  rw [arm_eval_DictComp]
  refine dn_core (ga := ga) hu hc hN I hi ok hg ht hk he hs h fun D C s' m H' I' q hn ⟨f0, f1, f2, f3, f4, f5⟩ => ⟨m, hn, fun h'' sb => ?_⟩
  exact ⟨.ref D, H', I'.turned (t' := s'.toks) (fun b o hb e => (sb.2 b hb).trans e) f0 f1 f3 f4 f5, rfl, q⟩⟩
theorem dstore_len (kvs : List (PV × PV)) (k v : PV) : (dstore kvs k v).length ≤ kvs.length + 1 := by
  unfold dstore
  split <;> simp
/-- what holds between two turns -/
def DCW (C : Ctx) (step : PV → Sto → (Option (PV × PV) → Sto → Prop) → Prop) (keep : Sto → Prop) (Qc : List (PV × PV) → Sto → Prop) (items : List PV) (σ : L2.St) (ρ : Rho) (H1 : Hp) (M1 : Sto) (Z1 : Addr → Prop) (D : Addr) (i m : Nat) (H : Hp) : Prop :=
  ∃ M Z acc t, SR C H M Z ∧ Ext H1 M1 Z1 H M Z ∧ EnvR C H M Z ρ σ ∧ SOk C H M Z D (.dct acc t) ∧ ¬ Z D ∧ M D = none ∧ keep M ∧ i + m = items.length ∧ acc.length ≤ i ∧ dcompL step keep (items.drop i) acc M Qc
theorem rd_dcomp {g : Tg} {it : It} {oc : Option E} {ek ev : E} {vs : List Nat} (hv : vs = g.ixs) {σ : L2.St} {H : Hp} {Q : VK} (h : rd (ctx X ga) F (.dcomp g it oc ek ev) σ H Q) :
    tDn (ctx X ga) (rdI (ctx X ga) F it) (gT (ctx X ga) g) (rdC (ctx X ga) F oc) (rd (ctx X ga) F ek) (rd (ctx X ga) F ev) vs σ H Q := by
  obtain ⟨ρ, M, Z, Q', r, e, h, c⟩ := h
  subst hv
  refine ⟨ρ, M, Z, _, r, e, h, fun J H1 M1 Z1 items keep x1 r1 iok k1 ⟨hz, h1⟩ D hD ns => ?_⟩
  have e1 := e.mono r x1
  have hid0 : SOk (ctx X ga) (upd H1 D (dHO D #[] 0)) M1 Z1 D (.dct [] (#[], 0)) := ⟨_, upd_same, [], rfl, ns, rfl, by simp, .nil⟩
  refine ⟨DCW (ctx X ga) _ keep _ items σ ρ H1 M1 Z1 D, ⟨items.length, M1, Z1, [], _, r1.new hD, Ext.new hD, e1.mono r1 (Ext.new hD), hid0, r1.nz hD, r1.fresh hD, k1, Nat.zero_add _, Nat.le_refl _, h1⟩, ?_⟩
  rintro i m H2 ⟨M2, Z2, acc, ta, r2, x2, e2, ⟨o2, hD2, b2⟩, nz, nm, k2, him, hacc, hcl⟩
  obtain ⟨go, stop⟩ := iok i H2 M2 Z2 x2 r2 k2
  by_cases hi : i < items.length
  · obtain ⟨v, hv⟩ : ∃ v, items[i]? = some v := ⟨items[i], List.getElem?_eq_getElem hi⟩
    obtain ⟨g1, g2⟩ := go v hv
    have hd : items.drop i = v :: items.drop (i + 1) := by
      rw [List.drop_eq_getElem_cons hi]
      rw [List.getElem?_eq_getElem hi] at hv
      rw [Option.some.inj hv]
    rw [hd] at hcl
    obtain ⟨ρ', hb, hcl⟩ := hcl
    refine .inr ⟨g1, DCW (ctx X ga) _ keep _ items σ ρ H1 M1 Z1 D (i + 1) (m - 1), fun H' w => ⟨m - 1, by omega, w⟩, fun x H3 hy => ?_⟩
    obtain ⟨x3, r3, rv⟩ := g2 x H3 hy
    have e3 := e2.mono r2 x3
    refine gT_of r3 e3.wiped rv hb fun σ' e4 hw => ⟨(hw _ fun i hi => hi).trans (wipe_wipe _ _), ?_⟩
    refine ⟨ρ', M2, Z2, _, r3, e4, hcl, fun b H4 M4 Z4 x4 r4 h4 => ?_⟩
    have hD3 : H3 D = some o2 := (x3.unm _ _ hD2 nm).1
    obtain ⟨hD4, nm4⟩ := x4.unm _ _ hD3 nm
    have nz4 : ¬ Z4 D := fun z => by
      rcases x4.zn D z with q | q
      · exact nz q
      · rw [hD3] at q; cases q
    have x14 := (x2.trans x3).trans x4
    have b4 : SBody (ctx X ga) H4 M4 Z4 D (.dct acc ta) o2 := b2.mono r2 (x3.trans x4)
    cases b with
    | false =>
      dsimp only at h4 ⊢
      rw [if_neg Bool.false_ne_true] at h4 ⊢
      obtain ⟨k4, h4⟩ := h4
      exact ⟨M4, Z4, acc, ta, r4, x14, e1.mono r1 x14, ⟨o2, hD4, b4⟩, nz4, nm4, k4, by omega, by omega, h4⟩
    | true =>
      dsimp only at h4 ⊢
      rw [if_pos rfl] at h4 ⊢
      refine ⟨ρ', M4, Z4, _, r4, e4.mono r3 x4, h4, fun kv y H5 M5 Z5 x5 r5 rk5 h5 => ?_⟩
      obtain ⟨hD5, nm5⟩ := x5.unm _ _ hD4 nm4
      have nz5 : ¬ Z5 D := fun z => by
        rcases x5.zn D z with q | q
        · exact nz4 q
        · rw [hD4] at q; cases q
      refine ⟨ρ', M5, Z5, _, r5, (e4.mono r3 x4).mono r4 x5, h5, fun vv z H6 M6 Z6 x6 r6 rv6 ⟨kok, k6, h6⟩ => ?_⟩
      obtain ⟨hD6, nm6⟩ := x6.unm _ _ hD5 nm5
      have nz6 : ¬ Z6 D := fun z => by
        rcases x6.zn D z with q | q
        · exact nz5 q
        · rw [hD5] at q; cases q
      have x16 := (x14.trans x5).trans x6
      have b6 : SBody (ctx X ga) H6 M6 Z6 D (.dct acc ta) o2 := (b4.mono r4 x5).mono r5 x6
      obtain ⟨xs, rfl, rest⟩ := id b6
      refine ⟨M6, Z6, acc, ta, kv, vv, r6, nm6, nz6, ⟨_, hD6, b6⟩, rk5.mono r5 x6, rv6, kok, by omega, fun P bP => ?_⟩
      have x17 := Ext.hidD (o := dHO D P.1 P.2) x16 hD
      have r7 := r6.hidD (o := dHO D P.1 P.2) hD6 nz6 nm6
      exact ⟨M6, Z6, dstore acc kv vv, _, r7, x17, e1.mono r1 x17, ⟨_, upd_same, bP⟩, nz6, nm6, k6, by omega, by have := dstore_len acc kv vv; omega, h6⟩
  · have hd : items.drop i = [] := List.drop_eq_nil_of_le (by omega)
    rw [hd] at hcl
    refine .inl ⟨stop (by omega), ?_⟩
    have hcl : ∀ p t, M2 p = none → Q' (.ref p) (M2.put p (.dct acc t)) := hcl
    have x3 : Ext H1 M1 Z1 H2 (M2.put D (.dct acc ta)) Z2 :=
      ⟨fun a o h mm => by
        have q : a ≠ D := fun z => by subst z; rw [hD] at h; cases h
        rw [Sto.put_ne q]; exact x2.unm a o h mm, fun a h => by
        by_cases q : a = D
        · subst q; rw [Sto.put_same]; rfl
        · rw [Sto.put_ne q]; exact x2.dom a h, x2.zz, x2.hd, x2.zn⟩
    have kp : Kp H2 M2 Z2 H2 (M2.put D (.dct acc ta)) Z2 := ⟨fun _ _ h => h, fun _ _ _ h => h, fun _ _ => rfl, fun a h => by
      by_cases q : a = D
      · subst q; rw [Sto.put_same]; rfl
      · rw [Sto.put_ne q]; exact h, fun _ h => h⟩
    have r3 : SR (ctx X ga) H2 (M2.put D (.dct acc ta)) Z2 := by
      refine ⟨fun a o ee => ?_, fun a z => ?_⟩
      · by_cases q : a = D
        · subst q
          rw [Sto.put_same] at ee; cases ee
          exact ⟨_, hD2, b2.kp kp⟩
        · rw [Sto.put_ne q] at ee
          obtain ⟨u, hu, b⟩ := r2.sto a o ee
          exact ⟨u, hu, b.kp kp⟩
      · have q : a ≠ D := fun e => by subst e; exact nz z
        rw [Sto.put_ne q]; exact r2.frz a z
    exact c _ _ _ _ _ (x1.trans x3) r3 (.ref (by rw [Sto.put_same]; rfl)) (hcl D ta nm)
/-- {k: v for ..} -/
theorem ps_dcomp {g : Tg} {it : It} {oc : Option E} {ek ev : E} {kx vx tg iter : Expr} {ifs : List Expr} {scope : Scope} {own : List (Str × Nat)} {pos : Pos} (hu : X.A.units + 65 < cLine) (hc : X.calm = true) (hN : X.N.Nodup) (hi : PI X tg iter (rdI (ctx X ga) F it)) (ok : BlkOk X.N X.env.scope scope own) (hown : own.map (·.2) = g.ixs)
    (hg : Blk X scope fun Y => PG Y tg (gT (ctx X ga) g)) (ht : Blk X scope fun Y => PTs Y ifs (rdC (ctx X ga) F oc)) (hk : Blk X scope fun Y => PE Y kx (rd (ctx X ga) F ek)) (he : Blk X scope fun Y => PE Y vx (rd (ctx X ga) F ev)) (hs : ∀ x, foldedSetIterable iter X.env x = pure x) :
    PE X (.DictComp kx vx [⟨tg, iter, ifs, 0⟩] scope pos) (rd (ctx X ga) F (.dcomp g it oc ek ev)) :=
  PE.imp (pe_dn (ga := ga) hu hc hN hi ok hg ht hk he hs) fun σ H Q h => rd_dcomp hown h
end
end SG
/-! walks over dicts with tuple keys; list(range(..)) -/
namespace SG
open PySem PySem.Spec PyProof.Rows L2
/-- the keys of the dict at d -/
def ItkR (d : Addr) (es : Array DictEntry) (ep : Nat) : L2.It :=
  ⟨fun i H => H d = some (dHO d es ep) ∧ i < es.size, fun i H x H' => H' = H ∧ ∃ e, es[i]? = some e ∧ RelV x e.key, fun i H => H d = some (dHO d es ep) ∧ es.size ≤ i⟩
/-- the pairs, each a new tuple -/
def ItiR (d : Addr) (es : Array DictEntry) (ep : Nat) : L2.It :=
  ⟨fun i H => H d = some (dHO d es ep) ∧ i < es.size ∧ ∀ e, es[i]? = some e → (∃ x, RelV x e.key) ∧ ∃ x, RelV x e.val, fun i H x H' => ∃ T k v e, es[i]? = some e ∧ RelV k e.key ∧ RelV v e.val ∧ x = .ref T ∧ H T = none ∧ H' = upd H T (.tup [k, v]), fun i H => H d = some (dHO d es ep) ∧ es.size ≤ i⟩
theorem raw_of {X : Cx} {pins : List (Addr × Obj)} {σ : L2.St} {H : Hp} {s : Shared} {d : Addr} {es : Array DictEntry} {ep : Nat} (I : L2.Inv X pins σ H s) (h : H d = some (dHO d es ep)) : s.heap.DictRaw d es ep := (I.hok d _ h).1
section
variable {P : Program} {w : World} {K : PySem.W.Frag} {tg : Expr} {d : Addr} {es : Array DictEntry} {ep : Nat}
theorem turn_keysR (it : Addr) (hx : ∀ (i : Nat) e, es[i]? = some e → ∃ x, RelV x e.key) : Turn P w K tg (ItkR d es ep) [it] it (fun i h => h.IsKeyIter it d i es.size ep) where
  mem := by simp
  obj := fun i h st b hb => by
    have e : b = it := by simpa using hb
    subst e
    obtain ⟨oi, e, c, dd⟩ := st
    exact ⟨oi, e, fun v z => by rw [dd] at z; cases z⟩
  keep := fun i h h' st k => st.at fun oi e => k it (by simp) oi e
  item := by
    intro X hP hw hK hc i pins s σ H E I hf st hg
    subst hP hw hK
    obtain ⟨hd, hi⟩ := hg
    obtain ⟨f0, f1, f2, f3, f4, f5⟩ := hf it (by simp)
    refine wpAny_pyNext_keys_item_raw st (raw_of I hd) hi fun h' st' sb => ?_
    have I1 : L2.Inv X pins σ H { s with heap := h' } := I.turned (t' := s.toks) (fun b ob hb e => (sb.2 b hb).trans e) f0 f1 f3 f4 f5
    obtain ⟨oi, e, c, dd⟩ := id st'
    have hen : es[i]? = some es[i] := Array.getElem?_eq_getElem hi
    obtain ⟨x, rx⟩ := hx i _ hen
    exact ⟨es[i].key, rfl, go_of (s := { s with heap := h' }) e c dd (by decide) ⟨x, H, I1, rx, ⟨rfl, es[i], hen, rx⟩, st', fun b hb => (hf b hb).1⟩⟩
  done := by
    intro X hP hw hK hc i pins s σ H E I hf st hg
    subst hP hw hK
    obtain ⟨hd, hi⟩ := hg
    obtain ⟨f0, f1, f2, f3, f4, f5⟩ := hf it (by simp)
    exact wpAny_pyNext_keys_end_raw (I.ok.hd hc) st (raw_of I hd) hi fun h' eb => ⟨rfl, I.turned (t' := s.toks) (fun b ob hb e => eb b ob hb e) f0 f1 f3 f4 f5⟩
  self := fun A i s Q E st h => by
    refine wpAny_pyIter_slot st.typeIs PySem.F.slot_dict_keyiterator_iter (wpAny_call_entry PySem.F.slot_dict_keyiterator_iter st.typeIs PySem.F.entry_dict_keyiterator_iter ?_ (PySem.F.args_dict_keyiterator_iter_1 _))
    show wpAny _ _ (ret (.ref it)) _ _ s
    exact wpAny_pure ⟨_, rfl, "dict_keyiterator", _, st.typeIs, PySem.F.slot_dict_keyiterator_next.lookup, h⟩
theorem turn_itemsR {elts : List Expr} {kk : Nat} {tpos : Pos} (it : Addr) :
    Turn P w K (.Tuple elts kk tpos) (ItiR d es ep) [it] it (fun i h => ∃ ok ov, IsItemIter h it d i es.size ep ok ov) where
  mem := by simp
  obj := fun i h st b hb => by
    have e : b = it := by simpa using hb
    subst e
    obtain ⟨ok, ov, e⟩ := st
    exact ⟨_, e, fun v z => nomatch z⟩
  keep := fun i h h' st k => let ⟨ok, ov, e⟩ := st; ⟨ok, ov, k it (by simp) _ e⟩
  item := by
    intro X hP hw hK hc i pins s σ H E I hf st hg
    subst hP hw hK
    obtain ⟨hd, hi, hkv⟩ := hg
    have hen : es[i]? = some es[i] := Array.getElem?_eq_getElem hi
    obtain ⟨⟨k, rk⟩, v, ru⟩ := hkv _ hen
    obtain ⟨ok, ov, he⟩ := st
    have hlt : it < s.heap.objs.size := Heap.lt_size he
    refine wpAny_pyNext_items_item_raw he (raw_of I hd) hi fun h' ho hT hz hk => ?_
    refine ⟨_, rfl, wpAny_letOwnedTupleGo_items (s := { s with heap := h' }) ho fun h'' he' sb => ?_⟩
    have hT2 : h''.get? s.heap.objs.size = some { cls := .type "tuple", data := .seq #[es[i].key, es[i].val] } := (sb.2 _ (Nat.ne_of_gt hlt)).trans hT
    have new : ObjOk X.prog X.w (upd H s.heap.objs.size (.tup [k, v])) h'' s.heap.objs.size (.tup [k, v]) :=
      ⟨by show 2 ≤ sizeLine; decide, [es[i].key, es[i].val], .cons rk (.cons ru .nil), ⟨_, hT2, rfl, _, rfl⟩⟩
    have I1 : L2.Inv X pins σ (upd H s.heap.objs.size (.tup [k, v])) { s with heap := h'' } :=
      I.turnedNew (t' := s.toks) (ch := [it]) (fun b ob hb e => (sb.2 b (by simpa using hb)).trans (hk b ob (by simpa using hb) e)) hf (Nat.le_refl _) new
    refine ⟨.ref s.heap.objs.size, _, I1, rfl, ⟨_, k, v, es[i], hen, rk, ru, rfl, I.hok.fresh (Nat.le_refl _), rfl⟩, ⟨_, _, he'⟩, fun b hb => ?_⟩
    have e : b = it := by simpa using hb
    rw [e, upd_ne (Nat.ne_of_lt hlt)]
    exact (hf it (by simp)).1
  done := by
    intro X hP hw hK hc i pins s σ H E I hf st hg
    subst hP hw hK
    obtain ⟨hd, hi⟩ := hg
    obtain ⟨f0, f1, f2, f3, f4, f5⟩ := hf it (by simp)
    obtain ⟨ok, ov, he⟩ := st
    exact wpAny_pyNext_items_end_raw (I.ok.hd hc) he (raw_of I hd) hi fun h' eb => ⟨rfl, I.turned (t' := s.toks) (fun b ob hb e => eb b ob hb e) f0 f1 f3 f4 f5⟩
  self := fun A i s Q E st h => let ⟨_, _, e⟩ := st; PySem.W.kcp_self e h
end
section
variable {X : Cx} {ga : Str → Option Addr} {F : FS}
theorem kvr_get {C : Ctx} {H : Hp} {M : Sto} {Z : Addr → Prop} : ∀ {kvs : List (PV × PV)} {xs : List (NestedKey × Addr × Value)}, KVR C H M Z kvs xs → ∀ (i : Nat) y, xs[i]? = some y → ∃ p x, kvs[i]? = some p ∧ Rep C H M Z p.1 (.ref y.2.1) ∧ RelV x y.2.2 ∧ Rep C H M Z p.2 x
  | _, _, .nil, i, y, h => by simp at h
  | _, _, .cons h1 h2 h3 h4 h5 h6, 0, y, h => by
    simp only [List.getElem?_cons_zero, Option.some.injEq] at h
    subst h
    exact ⟨_, _, rfl, h3, h4, h5⟩
  | _, _, .cons h1 h2 h3 h4 h5 h6, i + 1, y, h => by
    obtain ⟨p, x, a, b⟩ := kvr_get h6 i y (by simpa using h)
    exact ⟨p, x, by simpa using a, b⟩
/-- the tag of a dict of the store -/
def tagS (M : Sto) (a : Addr) : Option (Array DictEntry × Nat) := match M a with
  | some (.dct _ t) => some t
  | some (.dks _ t) => some t
  | _ => none
theorem ksr_get {C : Ctx} {H : Hp} {M : Sto} {Z : Addr → Prop} : ∀ {kvs : List (Key × PV)} {vs : List (Key × Value)}, KSR C H M Z kvs vs → ∀ (i : Nat) y, vs[i]? = some y → ∃ p x, kvs[i]? = some p ∧ p.1 = y.1 ∧ RelV x y.2 ∧ Rep C H M Z p.2 x
  | _, _, .nil, i, y, h => by simp at h
  | _, _, .cons h1 h2 h3, 0, y, h => by
    simp only [List.getElem?_cons_zero, Option.some.injEq] at h
    subst h
    exact ⟨_, _, rfl, rfl, h1, h2⟩
  | _, _, .cons h1 h2 h3, i + 1, y, h => by
    obtain ⟨p, x, a, b⟩ := ksr_get h3 i y (by simpa using h)
    exact ⟨p, x, by simpa using a, b⟩
/-- the entries of a dict of the store -/
theorem dct_ents {C : Ctx} {H : Hp} {M : Sto} {Z : Addr → Prop} {a : Addr} {kvs : List (PV × PV)} (r : SR C H M Z) (m : entsS M a = some kvs) :
    ∃ t, tagS M a = some t ∧ H a = some (dHO a t.1 t.2) ∧ t.1.size = kvs.length ∧ (a == sysModules) = false ∧ ∀ (i : Nat) e, t.1[i]? = some e → ∃ p k x, kvs[i]? = some p ∧ RelV k e.key ∧ Rep C H M Z p.1 k ∧ RelV x e.val ∧ Rep C H M Z p.2 x := by
  unfold entsS at m
  split at m
  · rename_i kvs' t m'
    cases m
    obtain ⟨o, hh, xs, rfl, ns, he, nd, kv⟩ := r.sto a _ m'
    refine ⟨t, by simp [tagS, m'], hh, by rw [size_of_entries he, kvr_len kv], ns, fun i e h => ?_⟩
    rw [entry_at he] at h
    obtain ⟨y, hy, rfl⟩ := Option.map_eq_some_iff.mp h
    obtain ⟨p, x, h1, h2, h3, h4⟩ := kvr_get kv i y hy
    exact ⟨p, .ref y.2.1, x, h1, rfl, h2, h3, h4⟩
  · rename_i kvs' t m'
    cases m
    obtain ⟨o, hh, vs, rfl, ns, k1, k2, nd, kv⟩ := r.sto a _ m'
    have hl : t.1.size = vs.length := by rw [← k2.length]; simp
    refine ⟨t, by simp [tagS, m'], hh, by rw [hl, List.length_map, ksr_len kv], ns, fun i e h => ?_⟩
    have il := (Array.getElem?_eq_some_iff.mp h).1
    obtain ⟨y, hy⟩ : ∃ y, vs[i]? = some y := ⟨vs[i]'(by omega), List.getElem?_eq_getElem (by omega)⟩
    obtain ⟨p, x, h1, h2, h3, h4⟩ := ksr_get kv i y hy
    obtain ⟨g1, g2⟩ := k2.get? (e := e) (by rw [Array.getElem?_toList]; exact h) (show vs[i]? = some (y.1, y.2) from hy)
    refine ⟨(kPV p.1, p.2), kV y.1, x, by rw [List.getElem?_map, h1]; rfl, keyIs_rel g1, ?_, by rw [g2]; exact h3, h4⟩
    rw [h2]; exact kPV_rep _
  · cases m
theorem ents_same {M M' : Sto} {a : Addr} (e : M' a = M a) : entsS M' a = entsS M a ∧ tagS M' a = tagS M a := by
  unfold entsS tagS
  rw [e]
  exact ⟨rfl, rfl⟩
theorem itok_keysR {C : Ctx} {a : Addr} {kvs : List (PV × PV)} {t : Array DictEntry × Nat} {H1 : Hp} {M1 : Sto} {Z1 : Addr → Prop} (m : entsS M1 a = some kvs) (mt : tagS M1 a = some t) : ItOk C (ItkR a t.1 t.2) (kvs.map (·.1)) (fun M' => M' a = M1 a) H1 M1 Z1 := by
  intro i H M Z x r hk
  obtain ⟨s1, s2⟩ := ents_same hk
  obtain ⟨t', ht, h1, h2, _, h3⟩ := dct_ents r (s1.trans m)
  rw [s2, mt] at ht
  cases ht
  refine ⟨fun v hv => ?_, fun hi => ⟨h1, by rw [List.length_map] at hi; omega⟩⟩
  rw [List.getElem?_map] at hv
  obtain ⟨p, hp, rfl⟩ := Option.map_eq_some_iff.mp hv
  have lt := (List.getElem?_eq_some_iff.mp hp).1
  refine ⟨⟨h1, by omega⟩, fun y H' ⟨e1, e, he, rx⟩ => ?_⟩
  subst e1
  obtain ⟨p', k, u, g1, g2, g3, _⟩ := h3 i e he
  rw [hp] at g1
  cases g1
  rw [RelV.inj rx g2]
  exact ⟨Ext.refl, r, g3⟩
theorem itok_itemsR {C : Ctx} {a : Addr} {kvs : List (PV × PV)} {t : Array DictEntry × Nat} {H1 : Hp} {M1 : Sto} {Z1 : Addr → Prop} (m : entsS M1 a = some kvs) (mt : tagS M1 a = some t) : ItOk C (ItiR a t.1 t.2) (kvs.map pairV) (fun M' => M' a = M1 a) H1 M1 Z1 := by
  intro i H M Z x r hk
  obtain ⟨s1, s2⟩ := ents_same hk
  obtain ⟨t', ht, h1, h2, _, h3⟩ := dct_ents r (s1.trans m)
  rw [s2, mt] at ht
  cases ht
  refine ⟨fun v hv => ?_, fun hi => ⟨h1, by rw [List.length_map] at hi; omega⟩⟩
  rw [List.getElem?_map] at hv
  obtain ⟨p, hp, rfl⟩ := Option.map_eq_some_iff.mp hv
  have lt := (List.getElem?_eq_some_iff.mp hp).1
  refine ⟨⟨h1, by omega, fun e he => ?_⟩, fun y H' ⟨T, k, v, e, he, rk, rv, e1, e2, e3⟩ => ?_⟩
  · obtain ⟨p', k, u, g1, g2, g3, g4, _⟩ := h3 i e he
    exact ⟨⟨_, g2⟩, _, g4⟩
  · obtain ⟨p', k', u, g1, g2, g3, g4, g5⟩ := h3 i e he
    rw [hp] at g1
    cases g1
    rw [RelV.inj rk g2, RelV.inj rv g4] at e3
    subst e1 e3
    exact pair_rep r e2 (.cons g3 (.cons g5 .nil))
theorem pi_dkeys {tg l : Expr} {el : E} (hl : PE X l (rd (ctx X ga) F el)) : PI X tg l (rdI (ctx X ga) F (.dkeys el)) := by
  refine ⟨fun pins s σ H R I ⟨ρ, M, Z, Q', r, e, h, c⟩ => ?_⟩
  refine thn (hl.run pins s σ H (fun x H1 => ∃ a kvs t M1 Z1, x = .ref a ∧ entsS M1 a = some kvs ∧ tagS M1 a = some t ∧ SR (ctx X ga) H1 M1 Z1 ∧ R (ItkR a t.1 t.2) H1) I
    ⟨ρ, M, Z, _, r, e, h, fun v x H1 M1 Z1 x1 r1 rv ⟨a, kvs, e1, m, q⟩ => ?_⟩) fun u s1 ⟨x, H1, I1, rx, a, kvs, t, M1, Z1, ex, m, mt, r1, q⟩ => ?_
  · subst e1
    obtain ⟨rfl, _⟩ := rv.ref_inv
    obtain ⟨t, ht, _⟩ := dct_ents r1 m
    exact ⟨a, kvs, t, M1, Z1, rfl, m, ht, r1, c _ _ _ _ _ _ x1 r1 (itok_keysR m ht) rfl q⟩
  · subst ex
    cases rx
    obtain ⟨t', ht, h1, h2, ns, h3⟩ := dct_ents r1 m
    rw [mt] at ht
    cases ht
    exact wpAny_pyIter_dict_raw ns (raw_of I1 h1) (pi_one (tk := s1.toks) I1 _ (turn_keysR _ fun i e he => let ⟨_, k, _, _, g, _⟩ := h3 i e he; ⟨k, g⟩) ⟨_, Heap.get?_push_size _ rfl, rfl, rfl⟩ q)
theorem pi_dits {o : Expr} {eo : E} {apos cpos : Pos} {elts : List Expr} {kk : Nat} {tpos : Pos} (ho : PE X o (rd (ctx X ga) F eo)) (hbase : attributeBase o "items" X.env (eval o X.env) = eval o X.env) (hline : (apos.endLine == cpos.line) = true) :
    PI X (.Tuple elts kk tpos) (.Call (.Attribute o "items" apos) [] [] cpos) (rdI (ctx X ga) F (.dits eo)) := by
  refine ⟨fun pins s σ H R I ⟨ρ, M, Z, Q', r, e, h, c⟩ => ?_⟩
  have pe : wpAny (model X.prog X.w) X.A (eval (.Call (.Attribute o "items" apos) [] [] cpos) X.env) (EP X pins σ (fun x H1 => ∃ a kvs t p M1 Z1, x = .ref p ∧ H1 p = some (L2.DX.itemsO p a) ∧ entsS M1 a = some kvs ∧ tagS M1 a = some t ∧ SR (ctx X ga) H1 M1 Z1 ∧ R (ItiR a t.1 t.2) H1)) X.xe s := by
    refine wpAny_Call_method0_late hbase hline (thn (ho.run pins s σ H (fun x H1 => ∃ a kvs t M1 Z1, x = .ref a ∧ entsS M1 a = some kvs ∧ tagS M1 a = some t ∧ SR (ctx X ga) H1 M1 Z1 ∧ ∀ p, H1 p = none → R (ItiR a t.1 t.2) (upd H1 p (L2.DX.itemsO p a))) I
      ⟨ρ, M, Z, _, r, e, h, fun v x H1 M1 Z1 x1 r1 rv ⟨a, kvs, e1, m, q⟩ => ?_⟩) fun u s1 ⟨x, H1, I1, rx, a, kvs, t, M1, Z1, ex, m, mt, r1, q⟩ => ?_)
    · subst e1
      obtain ⟨rfl, _⟩ := rv.ref_inv
      obtain ⟨t, ht, _⟩ := dct_ents r1 m
      exact ⟨a, kvs, t, M1, Z1, rfl, m, ht, r1, fun p hp => c _ _ _ _ _ _ (x1.trans (Ext.new hp)) (r1.new hp) (itok_itemsR m ht) rfl q⟩
    · subst ex
      cases rx
      obtain ⟨t', ht, h1, h2, ns, h3⟩ := dct_ents r1 m
      rw [mt] at ht
      cases ht
      have raw := raw_of I1 h1
      obtain ⟨ob, g1, g2, g3⟩ := id raw
      refine ⟨"dict", "dict.items", PySem.F.plainAttrs_dict, PySem.F.slot_dict_items, PySem.F.type_dict_items, raw.typeIs, fun b e => by cases e; exact ⟨ob, g1, g2.2.1⟩, Calls.callWith_builtin rfl (PySem.evalArgs_none ?_)⟩
      refine DT.callItems (es := t.1) (ep := t.2) ns ⟨ob, g1, g2, g3⟩ ?_
      have hf : H1 s1.heap.objs.size = none := I1.hok.fresh (Nat.le_refl _)
      exact ⟨.ref s1.heap.objs.size, upd H1 s1.heap.objs.size (L2.DX.itemsO s1.heap.objs.size a), I1.laid (t' := s1.toks) (fun b u e => Heap.get?_push_of_some _ e) (Nat.le_refl _) (L2.DX.itemsO_ok (Heap.get?_push_size _ rfl)), rfl, a, kvs, t, _, M1, Z1, rfl, upd_same, m, mt, r1.new hf, q _ hf⟩
  refine thn pe fun u s1 ⟨x, H1, I1, rx, a, kvs, t, p, M1, Z1, ex, hp, m, mt, r1, q⟩ => ?_
  subst ex
  cases rx
  obtain ⟨t', ht, h1, h2, ns, h3⟩ := dct_ents r1 m
  rw [mt] at ht
  cases ht
  have hv : s1.heap.IsItemsView p a := (I1.hok p _ hp).1
  exact wpAny_pyIter_items_raw hv (raw_of I1 h1) (pi_one (tk := s1.toks) I1 _ (turn_itemsR _) ⟨.none, .none, Heap.get?_push_size _ rfl⟩ q)
/-! {k: v, ..} with plain keys -/
theorem rd_pairs {C : Ctx} : ∀ (ps : List (E × E)) {σ : L2.St} {H : Hp} {ρ : Rho} {M : Sto} {Z : Addr → Prop} {Q' : List PV → Sto → Prop} {Q : List (V × V) → Hp → Prop}, SR C H M Z → EnvR C H M Z ρ σ → wpL F (ps.flatMap fun p => [p.1, p.2]) ρ M Q' →
    (∀ us qs H1 M1 Z1, Ext H M Z H1 M1 Z1 → SR C H1 M1 Z1 → RepL C H1 M1 Z1 us (qs.flatMap fun q => [q.1, q.2]) → Q' us M1 → Q qs H1) → tPairs (ps.map fun p => (rd C F p.1, rd C F p.2)) σ H Q
  | [], σ, H, ρ, M, Z, Q', Q, r, e, h, c => c [] [] H M Z Ext.refl r .nil h
  | p :: ps, σ, H, ρ, M, Z, Q', Q, r, e, h, c => by
    refine ⟨ρ, M, Z, _, r, e, h, fun v x H1 M1 Z1 x1 r1 rv h1 => ?_⟩
    refine ⟨ρ, M1, Z1, _, r1, e.mono r x1, h1, fun w y H2 M2 Z2 x2 r2 rw h2 => ?_⟩
    refine rd_pairs ps r2 (e.mono r (x1.trans x2)) h2 fun us qs H3 M3 Z3 x3 r3 l h3 => ?_
    exact c _ ((x, y) :: qs) H3 M3 Z3 ((x1.trans x2).trans x3) r3 (.cons ((rv.mono r1 x2).mono r2 x3) (.cons (rw.mono r2 x3) l)) h3
/-- what is evaluated, as keys and values -/
theorem pairs_kv {C : Ctx} {H : Hp} {M : Sto} {Z : Addr → Prop} : ∀ {us : List PV} {qs : List (V × V)} {kvs : List (Key × PV)}, RepL C H M Z us (qs.flatMap fun q => [q.1, q.2]) → pairK us = some kvs → ∃ es : List (Key × V), qs = es.map (fun kv => (kV kv.1, kv.2)) ∧ es.length = kvs.length ∧ ∀ ws : List (Key × Value), KV es ws → KSR C H M Z kvs ws
  | [], [], kvs, _, h => by
    cases h
    exact ⟨[], rfl, rfl, fun ws h => by cases h; exact .nil⟩
  | [], _ :: _, _, l, _ => by
    have := l.length
    simp at this
  | [_], _, _, _, h => by cases h
  | k :: v :: us, [], _, l, _ => by
    have := l.length
    simp at this
  | k :: v :: us, q :: qs, kvs, l, h => by
    unfold pairK at h
    split at h
    · rename_i n kvs' h1 h2
      cases h
      cases l with
      | cons a l =>
        cases l with
        | cons b l =>
          obtain ⟨es, e1, e2, e3⟩ := pairs_kv l h2
          have ek := pk_rep h1 a
          refine ⟨(n, q.2) :: es, ?_, by simp [e2], fun ws hw => ?_⟩
          · rw [List.map_cons, ← e1, ← ek]
          · cases hw with
            | cons h t =>
              rename_i p' t'
              obtain ⟨pk, pu⟩ := p'
              obtain ⟨h0, h1'⟩ := h
              cases h0
              exact .cons h1' b (e3 _ t)
    · cases h
theorem ksr_merge {C : Ctx} {H : Hp} {M : Sto} {Z : Addr → Prop} {kvs : List (Key × PV)} {ws : List (Key × Value)} (h : KSR C H M Z kvs ws) : ∀ {acc : List (Key × PV)} {ac : List (Key × Value)}, KSR C H M Z acc ac → KSR C H M Z (kvs.foldl (fun acc p => kput acc p.1 p.2) acc) (merged ac ws) := by
  induction h with
  | nil => intro acc ac q; exact q
  | cons h1 h2 h3 ih => intro acc ac q; exact ih (ksr_put _ h1 h2 q)
theorem kmerge_len : ∀ (kvs acc : List (Key × PV)), (kvs.foldl (fun acc p => kput acc p.1 p.2) acc).length ≤ acc.length + kvs.length
  | [], acc => by simp
  | p :: r, acc => by
    have := kmerge_len r (kput acc p.1 p.2)
    have h2 : (kput acc p.1 p.2).length ≤ acc.length + 1 := by unfold kput; split <;> simp
    rw [List.foldl_cons, List.length_cons]
    omega
theorem ps_klit {keys : List (Option Expr)} {values : List Expr} {ps : List (E × E)} {pos : Pos} (h : PPs X pos keys values (ps.map fun p => (rd (ctx X ga) F p.1, rd (ctx X ga) F p.2))) (hall : keys.all (·.isSome) = true) (hl : keys.length = values.length) (h0 : keys ≠ [])
    (h15 : keys.length ≤ 15) : PE X (.Dict keys values pos) (rd (ctx X ga) F (.klit (ps.flatMap fun p => [p.1, p.2]))) := by
  refine ⟨fun pins s σ H Q I ⟨ρ, M, Z, Q', r, e, hw, c⟩ => ?_⟩
  have hn := I.hok.fresh (Nat.le_refl s.heap.objs.size)
  generalize hp : s.heap.objs.size = p at hn
  have I1 := I.laid (a := p) (o := dHO p #[] 0) (h' := s.heap.push { cls := .type "dict", data := .dict #[] }) (t' := s.toks) (fun _ _ q => Heap.get?_push_of_some _ q) (by rw [hp]; exact Nat.le_refl _) (dHO_ok ⟨_, by rw [← hp]; exact Heap.get?_push_size _ rfl, ⟨rfl, rfl, rfl⟩, rfl⟩)
  have ns : (p == sysModules) = false := by
    have := I.big
    rw [hp] at this
    exact beq_eq_false_iff_ne.mpr (Nat.ne_of_gt this)
  refine wpAny_Dict_walk (knd := mixKind X.prog X.w) hall hl h0 h15 (thn (h.run pins _ σ _ (fun qs H2 => ∃ us kvs M2 Z2, Ext (upd H p (dHO p #[] 0)) M Z H2 M2 Z2 ∧ SR (ctx X ga) H2 M2 Z2 ∧ RepL (ctx X ga) H2 M2 Z2 us (qs.flatMap fun q => [q.1, q.2]) ∧ pairK us = some kvs ∧ ∀ q t, M2 q = none → Q' (.ref q) (M2.put q (.dks (kmerge kvs) t))) I1
    (rd_pairs ps (r.new hn) (e.mono r (Ext.new hn)) hw fun us qs H2 M2 Z2 x2 r2 l ⟨kvs, h1, h2⟩ => ⟨us, kvs, M2, Z2, x2, r2, l, h1, h2⟩)) fun ws s2 ⟨qs, H2, I2, rel, us, kvs, M2, Z2, x2, r2, l, hk, q2⟩ => ?_)
  obtain ⟨es, e1, e2, e3⟩ := pairs_kv l hk
  subst e1
  obtain ⟨rs, cr, rk⟩ := carries_of (P := X.prog) (w := X.w) rel
  obtain ⟨hH, hM⟩ := x2.unm p _ upd_same (r.fresh hn)
  obtain ⟨ob, g1, g2, g3⟩ := (I2.hok p _ hH).1
  rw [hp]
  refine ⟨rs, cr, ⟨ob, #[], 0, g1, g2, g3, fun e he => by simp at he, .nil, by simp⟩, fun h' dd' hs => ?_⟩
  obtain ⟨o2, es2, ep2, k1, k2, k3, k4, k5, k6⟩ := dd'
  have kk := ksr_merge (e3 rs rk) (KSR.nil (C := ctx X ga) (H := H2) (M := M2) (Z := Z2))
  have nz : ¬ Z2 p := fun z => by
    rcases x2.zn p z with q | q
    · exact r.nz hn q
    · rw [upd_same] at q; cases q
  have r2' : SR (ctx X ga) (upd H2 p (dHO p es2 ep2)) M2 Z2 := r2.hidD hH nz hM
  have kp0 : Kp H2 M2 Z2 (upd H2 p (dHO p es2 ep2)) M2 Z2 := Kp.hidD hH nz
  have kp : Kp (upd H2 p (dHO p es2 ep2)) M2 Z2 (upd H2 p (dHO p es2 ep2)) (M2.put p (.dks (kmerge kvs) (es2, ep2))) Z2 := ⟨fun _ _ h => h, fun _ _ _ h => h, fun _ _ => rfl, fun a h => by
    by_cases q : a = p
    · subst q; rw [Sto.put_same]; rfl
    · rw [Sto.put_ne q]; exact h, fun _ h => h⟩
  have x3 : Ext H M Z (upd H2 p (dHO p es2 ep2)) (M2.put p (.dks (kmerge kvs) (es2, ep2))) Z2 := by
    have x0 := (Ext.new (o := dHO p #[] 0) (M := M) (Z := Z) hn).trans x2
    refine ⟨fun a o h mm => ?_, fun a h => ?_, x0.zz, fun a h => upd_some (x0.hd a h), x0.zn⟩
    · have q : a ≠ p := fun z => by subst z; rw [hn] at h; cases h
      rw [Sto.put_ne q, upd_ne q]
      exact x0.unm a o h mm
    · by_cases q : a = p
      · subst q; rw [Sto.put_same]; rfl
      · rw [Sto.put_ne q]; exact x0.dom a h
  have r3 : SR (ctx X ga) (upd H2 p (dHO p es2 ep2)) (M2.put p (.dks (kmerge kvs) (es2, ep2))) Z2 := by
    refine ⟨fun a o ee => ?_, fun a z => ?_⟩
    · by_cases q : a = p
      · subst q
        rw [Sto.put_same] at ee; cases ee
        exact ⟨_, upd_same, _, rfl, ns, k4, k5, k6, (kk.kp kp0).kp kp⟩
      · rw [Sto.put_ne q] at ee
        obtain ⟨u, hu, b⟩ := r2'.sto a o ee
        exact ⟨u, hu, b.kp kp⟩
    · have q : a ≠ p := fun e => by subst e; exact nz z
      rw [Sto.put_ne q]; exact r2'.frz a z
  exact ⟨.ref p, _, d_write I2 (by rw [hH]; exact True.intro) hs ⟨o2, k1⟩ (dHO_ok ⟨o2, k1, k2, k3⟩), rfl, c _ _ _ _ _ x3 r3 (.ref (by rw [Sto.put_same]; rfl)) (q2 p (es2, ep2) hM)⟩
theorem rg_rep {C : Ctx} {H : Hp} {M : Sto} {Z : Addr → Prop} (i j : Int) : RepL C H M Z (rngL i j) (rgV i j) := by
  unfold rngL rgV
  generalize List.range (j - i).toNat = ns
  induction ns with
  | nil => exact .nil
  | cons n r ih => exact .cons (.int _) ih
theorem lr_end {i j : Int} {H1 : Hp} {M1 : Sto} {Z1 : Addr → Prop} {Q : VK} {Q' : Q1} (r1 : SR (ctx X ga) H1 M1 Z1) (h : -(2 ^ 62) ≤ i ∧ i < 2 ^ 62 ∧ -(2 ^ 62) ≤ j ∧ j < 2 ^ 62 ∧ j - i ≤ 1000000) (q : Q' (.lst (rngL i j)) M1) (c : Clo (ctx X ga) H1 M1 Z1 Q' Q) :
    RgOk i j ∧ ∀ q, H1 q = none → Q (.ref q) (upd H1 q (.lst (rgV i j))) :=
  ⟨⟨h.1, h.2.1, h.2.2.1, h.2.2.2.1, by omega⟩, fun p hp => c.newL (mt := false) r1 (rg_rep i j) q hp⟩
theorem ps_lrange2 {a b : Expr} {ea eb : E} {p q pos pos2 : Pos} (hc : X.calm = true) (hl : Gl X "list") (hml : X.mg "list" = none) (hg : Gl X "range") (hm : X.mg "range" = none) (ha : PE X a (rd (ctx X ga) F ea)) (hb : PE X b (rd (ctx X ga) F eb))
    (na : starEach [a, b] X.env = (false, eval a X.env) :: starEach [b] X.env) (nb : starEach [b] X.env = (false, eval b X.env) :: starEach [] X.env) (hp : (backTo pos (starEach [b] X.env)).any (·.1) = false) :
    PE X (.Call (.Name "list" p) [.Call (.Name "range" q) [a, b] [] pos] [] pos2) (rd (ctx X ga) F (.lrange ea eb)) :=
  PE.imp (pe_listRg hc hl hml (prg_2 hg hm ha hb na nb hp) rfl) fun σ H Q ⟨ρ, M, Z, Q', r, e, h, c⟩ => by
    refine ⟨ρ, M, Z, _, r, e, h, fun v x H1 M1 Z1 x1 r1 rv h1 => ?_⟩
    refine ⟨ρ, M1, Z1, _, r1, e.mono r x1, h1, fun w y H2 M2 Z2 x2 r2 rw ⟨i, j, e1, e2, h2, h3, h4, h5, h6, q⟩ => ?_⟩
    subst e1 e2
    obtain rfl := rv.int_inv
    obtain rfl := rw.int_inv
    exact ⟨i, j, rfl, rfl, lr_end r2 ⟨h2, h3, h4, h5, h6⟩ q fun z u H3 M3 Z3 x3 r3 rz h3 => c _ _ _ _ _ ((x1.trans x2).trans x3) r3 rz h3⟩
theorem ps_lrange1 {b : Expr} {eb : E} {p q pos pos2 : Pos} (hc : X.calm = true) (hl : Gl X "list") (hml : X.mg "list" = none) (hg : Gl X "range") (hm : X.mg "range" = none) (hb : PE X b (rd (ctx X ga) F eb))
    (nb : starEach [b] X.env = (false, eval b X.env) :: starEach [] X.env) :
    PE X (.Call (.Name "list" p) [.Call (.Name "range" q) [b] [] pos] [] pos2) (rd (ctx X ga) F (.lrange (.cst (.int 0)) eb)) :=
  PE.imp (pe_listRg hc hl hml (prg_1 hg hm hb nb) rfl) fun σ H Q ⟨ρ, M, Z, Q', r, e, h, c⟩ => by
    refine ⟨ρ, M, Z, _, r, e, h, fun w y H2 M2 Z2 x2 r2 rw ⟨i, j, e1, e2, h2, h3, h4, h5, h6, q⟩ => ?_⟩
    subst e2
    cases e1
    obtain rfl := rw.int_inv
    exact ⟨j, rfl, lr_end r2 ⟨h2, h3, h4, h5, h6⟩ q fun z u H3 M3 Z3 x3 r3 rz h3 => c _ _ _ _ _ (x2.trans x3) r3 rz h3⟩
end
end SG
namespace SG
open PySem PySem.Spec PyProof.Rows L2

/-! ### defs -/
structure Rm (k : Nat) (A : Around) : Prop where
  room : Room k A
  gd : A.guards = some []
/-- the def at f does what g says, where there is room for k calls -/
structure FnG (P : Program) (w : World) (K : PySem.W.Frag) (mg : Str → Option Value) (base : Heap) (ga : Str → Option Addr) (k : Nat) (f : Addr) (g : List PV → Sto → Q1 → Prop) : Prop where
  kp : PySem.W.keepIn K (.ref f) = true
  run : ∀ (A : Around) (outer : List Env) (s : Shared) (H : Hp) (us : List Value) (vs : List V) (Q : VK), Rm k A → Env0 P w K mg base A outer s H → Vals vs us → rc ⟨P, w, K, ga⟩ g vs H Q →
    codeAny (model P w) A (.call (.ref f) ⟨us, []⟩) (CR CX0 outer P w H s Q E0) s
section
variable {X : Cx} {ga : Str → Option Addr} {F : FS}
theorem FnG.callR {k : Nat} {f : Addr} {g : List PV → Sto → Q1 → Prop} (h : FnG X.prog X.w X.K X.mg X.base ga k f g) (hr : Rm k X.A) : CallR X (.ref f) (rc (ctx X ga) g) := by
  intro pins s σ H vs us Q I rv q
  refine wpAny_call (codeAny_mono (h.run X.A X.stack s H us vs Q hr I.env0 rv q) fun r s' hq => ?_)
  cases r with
  | error e => exact hq.elim
  | ok fl =>
    cases fl with
    | ret u => exact I.after hq
    | next => exact False.elim hq
    | brk => exact False.elim hq
    | cont => exact False.elim hq
/-- what the text is made of: its defs, its constants -/
structure Nfo where
  fns : List Str
  cns : List (Str × PV)
def bltNames : List Str := ["len", "abs", "max", "min", "sum", "all", "any", "int", "str", "repr", "tuple", "list", "sorted", "isinstance", "bool", "range", "zip", "enumerate", "set", "dict", "reversed"]
structure Gd (n : Nfo) (F : FS) (ga : Str → Option Addr) (k : Nat) (sc : Scope) (N : List Str) (X : Cx) : Prop where
  hN : X.N = N
  hsc : X.env.scope = sc
  kind : sc.kind = .function
  calm : X.calm = true
  nd : X.N.Nodup
  xe : X.xe = fun _ _ => False
  rm : Rm k X.A
  fns : ∀ f ∈ n.fns, ∃ a, ga f = some a ∧ X.mg f = some (.ref a) ∧ FnG X.prog X.w X.K X.mg X.base ga k a (F f)
  dom : ∀ f vs M Q, F f vs M Q → f ∈ n.fns
  known : ∀ f a, ga f = some a → f ∈ n.fns
  cns : ∀ c v, n.cns.lookup c = some v → ∃ x u, X.mg c = some u ∧ RelV x u ∧ ∀ H M Z, Rep (ctx X ga) H M Z v x
  blt : ∀ b ∈ bltNames, X.mg b = none
  mono : FMono F
  sys : ∃ o, X.K.lookup sysModules = some o ∧ o.cls = .type "dict"
variable {n : Nfo} {k : Nat} {sc : Scope} {N : List Str}
theorem Gd.hu (g : Gd n F ga k sc N X) : X.A.units + 65 < cLine := by have := g.rm.room.un; omega
theorem Gd.blk (g : Gd n F ga k sc N X) {scope : Scope} (hk : scope.kind = .function) (s : Shared) (H : Hp) (C : Addr) (cl : List (Str × Addr)) (fp : List Addr) : Gd n F ga k (relS scope sc) N (X.blk s H scope (compEnvC scope cl C X.env) fp) :=
  ⟨g.hN, by rw [← g.hsc]; rfl, hk, g.calm, g.nd, rfl, g.rm, g.fns, g.dom, g.known, g.cns, g.blt, g.mono, g.sys⟩
theorem Gd.passes (g : Gd n F ga k sc N X) : PassesOwn (model X.prog X.w) X.A X.env X.xe := by rw [g.xe]; exact PassesOwn.never
end

/-! ### the look -/
mutual
def PV.same : PV → PV → Bool
  | .non, .non => true
  | .bl a, .bl b => a == b
  | .int i, .int j => i == j
  | .str x, .str y => x == y
  | .tup xs, .tup ys => PV.sames xs ys
  | _, _ => false
def PV.sames : List PV → List PV → Bool
  | [], [] => true
  | x :: r, y :: t => PV.same x y && PV.sames r t
  | _, _ => false
end
mutual
theorem PV.same_eq : ∀ {v w : PV}, PV.same v w = true → v = w
  | .non, w, h => by cases w <;> first | rfl | cases h
  | .bl a, w, h => by
    cases w with
    | bl b => unfold PV.same at h; rw [beq_iff_eq.mp h]
    | _ => cases h
  | .int a, w, h => by
    cases w with
    | int b => unfold PV.same at h; rw [beq_iff_eq.mp h]
    | _ => cases h
  | .str a, w, h => by
    cases w with
    | str b => unfold PV.same at h; rw [beq_iff_eq.mp h]
    | _ => cases h
  | .tup a, w, h => by
    cases w with
    | tup b => unfold PV.same at h; rw [PV.sames_eq h]
    | _ => cases h
  | .lst _, w, h => by cases w <;> cases h
  | .ref _, w, h => by cases w <;> cases h
  | .fn _, w, h => by cases w <;> cases h
  | .emp, w, h => by cases w <;> cases h
theorem PV.sames_eq : ∀ {v w : List PV}, PV.sames v w = true → v = w
  | [], [], _ => rfl
  | [], _ :: _, h => by cases h
  | _ :: _, [], h => by cases h
  | x :: r, y :: t, h => by
    unfold PV.sames at h
    obtain ⟨h1, h2⟩ := Bool.and_eq_true_iff.mp h
    rw [PV.same_eq h1, PV.sames_eq h2]
end
def visB (sc : Scope) (x : Str) : Bool := match sc.names.lookup x with
  | some .local => true
  | some .cell => true
  | some .free => true
  | _ => false
def locB (sc : Scope) (x : Str) : Bool := match sc.names.lookup x with
  | some .local => true
  | some .cell => true
  | _ => false
def glB (sc : Scope) (x : Str) : Bool := match sc.names.lookup x with
  | some .globalImplicit => true
  | _ => false
def nmB (x : Str) : Bool := !(x == ("__debug__" : Str)) && !(x == ("__classdict__" : Str))
def noStar : Expr → Bool
  | .Starred .. => false
  | _ => true
def noSlice : Expr → Bool
  | .Slice .. => false
  | _ => true
def noComp : Expr → Bool
  | .ListComp .. => false
  | .SetComp .. => false
  | .DictComp .. => false
  | _ => true
def noSet : Expr → Bool
  | .Set .. => false
  | _ => true
def noCall : Expr → Bool
  | .Call _ [] [] _ => false
  | _ => true
def all2 {α β : Type} (f : α → β → Bool) : List α → List β → Bool
  | [], [] => true
  | x :: r, y :: t => f x y && all2 f r t
  | _, _ => false
mutual
def tgB (N : List Str) (sc : Scope) : Tg → Expr → Bool
  | .nm i, e => (match e with
    | .Name x _ => locB sc x && decide (N[i]? = some x)
    | _ => false)
  | .tp gs, e => (match e with
    | .Tuple es _ _ => tgBs N sc gs es
    | _ => false)
def tgBs (N : List Str) (sc : Scope) : List Tg → List Expr → Bool
  | [], es => (match es with
    | [] => true
    | _ => false)
  | g :: gs, es => (match es with
    | e :: r => tgB N sc g e && tgBs N sc gs r
    | [] => false)
end
mutual
def tgOwn : Tg → Expr → List (Str × Nat)
  | .nm i, e => (match e with
    | .Name x _ => [(x, i)]
    | _ => [])
  | .tp gs, e => (match e with
    | .Tuple es _ _ => tgOwns gs es
    | _ => [])
def tgOwns : List Tg → List Expr → List (Str × Nat)
  | [], _ => []
  | g :: gs, es => (match es with
    | e :: r => tgOwn g e ++ tgOwns gs r
    | [] => [])
end
def isTuple : Expr → Bool
  | .Tuple .. => true
  | _ => false
def chkI (f : Expr → E → Bool) (sc : Scope) (tg iter : Expr) : It → Bool
  | .val ev => f iter ev
  | .rng ev => (match iter with
    | .Call (.Name r _) [y] [] _ => r == ("range" : Str) && glB sc r && noStar y && f y ev
    | _ => false)
  | .rng2 ea eb => (match iter with
    | .Call (.Name r _) [y, z] [] _ => r == ("range" : Str) && glB sc r && noStar y && noStar z && f y ea && f z eb
    | _ => false)
  | .zip [ea, eb] => (match iter with
    | .Call (.Name r _) [y, z] [] _ => r == ("zip" : Str) && isTuple tg && glB sc r && noStar y && noStar z && f y ea && f z eb
    | _ => false)
  | .zip [ea, eb, ec] => (match iter with
    | .Call (.Name r _) [y, z, u] [] _ => r == ("zip" : Str) && isTuple tg && glB sc r && noStar y && noStar z && noStar u && f y ea && f z eb && f u ec
    | _ => false)
  | .zip _ => false
  | .dits ev => (match iter with
    | .Call (.Attribute d a apos) [] [] cpos => a == ("items" : Str) && isTuple tg && noCall d && apos.endLine == cpos.line && f d ev
    | _ => false)
  | .dkeys ev => f iter ev
  | .enm ev => (match iter with
    | .Call (.Name r _) [y] [] _ => r == ("enumerate" : Str) && isTuple tg && glB sc r && noStar y && f y ev
    | _ => false)
def compB (f : Scope → Expr → E → Bool) (N : List Str) (sc : Scope) (x tg iter : Expr) (ifs : List Expr) (scope : Scope) (g : Tg) (it : It) (c : Option E) (elt : E) : Bool :=
  blkC N sc scope (tgOwn g tg) && tgB N scope g tg && noSet iter && f (relS scope sc) x elt &&
    (match ifs, c with | [], none => true | [t], some et => f (relS scope sc) t et | _, _ => false) && chkI (f sc) sc tg iter it
def kvB (f : Expr → E → Bool) : List (Option Expr) → List Expr → List E → Bool
  | [], [], [] => true
  | some k :: ks, v :: vs, a :: b :: es => f k a && f v b && kvB f ks vs es
  | _, _, _ => false
def chkE (n : Nfo) (N : List Str) : Nat → Scope → Expr → E → Bool
  | 0, _, _, _ => false
  | k + 1, sc, e, ee => match e with
    | .BoolOp _ [x] _ => chkE n N k sc x ee
    | e => match ee with
      | .var i => (match e with
        | .Name x _ => visB sc x && nmB x && decide (N[i]? = some x)
        | _ => false)
      | .cst v => (match e with
        | .Constant (.int i) _ _ => PV.same v (.int i)
        | .Constant (.bool b) _ _ => PV.same v (.bl b)
        | .Constant (.str b) _ _ => PV.same v (.str b)
        | .Constant .none _ _ => PV.same v .non
        | .Name x _ => glB sc x && nmB x && (match v with
          | .fn f => f == x && n.fns.contains x
          | v => match n.cns.lookup x with
            | some w => PV.same v w
            | none => false)
        | _ => false)
      | .bin op a b => (match e with
        | .BinOp l o r _ => decide (o = opOf op) && chkE n N k sc l a && chkE n N k sc r b
        | _ => false)
      | .neg a => (match e with
        | .UnaryOp .USub x _ => chkE n N k sc x a
        | _ => false)
      | .cmp op a b => (match e with
        | .Compare l [o] [r] _ => decide (o = cpOf op) && noSet r && chkE n N k sc l a && chkE n N k sc r b
        | _ => false)
      | .chain op op' a b c => (match e with
        | .Compare l [o, o'] [r, t] _ => decide (o = cpOf op) && decide (o' = cpOf op') && noSet t && chkE n N k sc l a && chkE n N k sc r b && chkE n N k sc t c
        | _ => false)
      | .and a b => (match e with
        | .BoolOp .And (x :: y :: rest) p => chkE n N k sc x a && chkE n N k sc (.BoolOp .And (y :: rest) p) b
        | _ => false)
      | .or a b => (match e with
        | .BoolOp .Or (x :: y :: rest) p => chkE n N k sc x a && chkE n N k sc (.BoolOp .Or (y :: rest) p) b
        | _ => false)
      | .not a => (match e with
        | .UnaryOp .Not x _ => chkE n N k sc x a
        | _ => false)
      | .ite c a b => (match e with
        | .IfExp t x y _ => chkE n N k sc t c && chkE n N k sc x a && chkE n N k sc y b
        | _ => false)
      | .tup es => (match e with
        | .Tuple xs _ _ => xs.all noStar && all2 (chkE n N k sc) xs es && decide (es.length ≤ 1000)
        | _ => false)
      | .lst _ es => (match e with
        | .List xs _ => xs.all noStar && all2 (chkE n N k sc) xs es && decide (es.length ≤ 1000)
        | _ => false)
      | .emp => match e with
        | .Dict [] [] _ => true
        | _ => false
      | .ix a b => (match e with
        | .Subscript v s _ => noSlice s && chkE n N k sc v a && chkE n N k sc s b
        | _ => false)
      | .sl a l h => (match e with
        | .Subscript v (.Slice lo hi none _) _ => chkE n N k sc v a &&
          (match lo, l with | none, none => true | some x, some y => chkE n N k sc x y | _, _ => false) && (match hi, h with | none, none => true | some x, some y => chkE n N k sc x y | _, _ => false)
        | _ => false)
      | .rev a => (match e with
        | .Subscript v (.Slice none none (some (.UnaryOp .USub (.Constant (.int i) _ _) _)) _) _ => i == 1 && chkE n N k sc v a
        | _ => false)
      | .call f es => (match e with
        | .Call (.Name x _) (y :: ys) [] _ => x == f && glB sc x && nmB x && n.fns.contains f && (y :: ys).all noStar && all2 (chkE n N k sc) (y :: ys) es
        | _ => false)
      | .callv i es => (match e with
        | .Call (.Name x _) (y :: ys) [] _ => visB sc x && nmB x && decide (N[i]? = some x) && (y :: ys).all noStar && all2 (chkE n N k sc) (y :: ys) es
        | _ => false)
      | .blt b es => (match e with
        | .Call (.Name x _) (y :: ys) [] _ => x == blNm b && glB sc x && (y :: ys).all noStar && all2 (chkE n N k sc) (y :: ys) es
        | _ => false)
      | .mth m o es => (match e with
        | .Call (.Attribute x a apos) (y :: ys) [] cpos => a == mtNm m && noCall x && apos.endLine == cpos.line && decide (ys.length < 20) && (y :: ys).all noStar && chkE n N k sc x o && all2 (chkE n N k sc) (y :: ys) es
        | _ => false)
      | .isi a t => (match e with
        | .Call (.Name x _) [y, .Name z _] [] _ => x == ("isinstance" : Str) && z == Str.ofString (tyOf t) && glB sc x && glB sc z && noStar y && chkE n N k sc y a
        | _ => false)
      | .comp _ g it c elt => (match e with
        | .ListComp x [⟨tg, iter, ifs, 0⟩] scope _ => compB (chkE n N k) N sc x tg iter ifs scope g it c elt
        | _ => false)
      | .lrange a b => (match e with
        | .Call (.Name x _) [.Call (.Name y _) [l, r] [] _] [] _ => x == ("list" : Str) && y == ("range" : Str) && glB sc x && glB sc y && noStar l && noStar r && chkE n N k sc l a && chkE n N k sc r b
        | .Call (.Name x _) [.Call (.Name y _) [r] [] _] [] _ => x == ("list" : Str) && y == ("range" : Str) && glB sc x && glB sc y && noStar r && chkE n N k sc r b && (match a with | .cst v => PV.same v (.int 0) | _ => false)
        | _ => false)
      | .sset _ a => (match e with
        | .Call (.Name x _) [.Call (.Name y _) [z] [] _] [] _ => x == ("sorted" : Str) && y == ("set" : Str) && glB sc x && glB sc y && noStar z && chkE n N k sc z a
        | _ => false)
      | .srt _ a => (match e with
        | .Call (.Name x _) [y] [] _ => x == ("sorted" : Str) && glB sc x && noStar y && chkE n N k sc y a
        | _ => false)
      | .dnew => (match e with
        | .Dict [] [] _ => true
        | _ => false)
      | .dget o kk x => (match e with
        | .Call (.Attribute d a apos) [y, z] [] cpos => a == ("get" : Str) && noCall d && apos.endLine == cpos.line && noStar y && noStar z && chkE n N k sc d o && chkE n N k sc y kk && chkE n N k sc z x
        | _ => false)
      | .dix o kk => (match e with
        | .Subscript v s _ => noSlice s && chkE n N k sc v o && chkE n N k sc s kk
        | _ => false)
      | .ditems _ o => (match e with
        | .Call (.Name x _) [.Call (.Attribute d a apos) [] [] cpos] [] _ => x == ("sorted" : Str) && a == ("items" : Str) && glB sc x && noCall d && apos.endLine == cpos.line && chkE n N k sc d o
        | _ => false)
      | .dcomp g it c kk vv => (match e with
        | .DictComp kx vx [⟨tg, iter, ifs, 0⟩] scope _ => compB (chkE n N k) N sc kx tg iter ifs scope g it c kk && chkE n N k (relS scope sc) vx vv
        | _ => false)
      | .klit es => (match e with
        | .Dict keys values _ => decide (keys.length ≤ 15) && decide (0 < keys.length) && kvB (chkE n N k sc) keys values es
        | _ => false)
      | .knew => (match e with
        | .Dict [] [] _ => true
        | _ => false)
      | .never => true

/-! ### the look is right -/
section
variable {X : Cx} {ga : Str → Option Addr} {F : FS} {n : Nfo} {k : Nat} {sc : Scope} {N : List Str}
theorem star_cons {e : Expr} {es : List Expr} {env : Env} (h : noStar e = true) : starEach (e :: es) env = (false, eval e env) :: starEach es env := by
  cases e <;> first | rfl | cases h
theorem star_any {env : Env} {pos : Pos} : ∀ {es : List Expr}, es.all noStar = true → (backTo pos (starEach es env)).any (·.1) = false
  | [], _ => rfl
  | e :: es, h => by
    rw [List.all_cons, Bool.and_eq_true_iff] at h
    rw [star_cons h.1]
    show (false || (backTo pos (starEach es env)).any (·.1)) = false
    rw [star_any h.2]; rfl
theorem star_all {env : Env} {pos : Pos} : ∀ {es : List Expr}, es.all noStar = true → (backTo pos (starEach es env)).all (fun x => !x.1) = true
  | [], _ => rfl
  | e :: es, h => by
    rw [List.all_cons, Bool.and_eq_true_iff] at h
    rw [star_cons h.1]
    show (!false && (backTo pos (starEach es env)).all (fun x => !x.1)) = true
    rw [star_all h.2]; rfl
theorem noset_marks {e : Expr} {op : CmpOp} (h : noSet e = true) : behindInMarks op e = false := by cases e <;> first | rfl | cases h
theorem noset_last {b e : Expr} {op op' : CmpOp} (h : noSet e = true) : lastMarks [op, op'] [b, e] = false := noset_marks h
theorem noset_fold {e : Expr} {env : Env} (h : noSet e = true) : ∀ x, foldedSetIterable e env x = pure x := by intro x; cases e <;> first | rfl | cases h
theorem noslice_ix {e : Expr} (h : noSlice e = true) : PlainIx e := by intro o i; cases e <;> first | rfl | cases h
theorem nocall_base {e : Expr} {a : Str} {env : Env} (h : noCall e = true) : attributeBase e a env (eval e env) = eval e env := by
  cases e with
  | Call f args kws pos =>
    cases args with
    | nil =>
      cases kws with
      | nil => cases h
      | cons _ _ => cases f <;> rfl
    | cons _ _ => cases f <;> rfl
  | _ => rfl
theorem vis_of {x : Str} (h : visB sc x = true) : Vis sc x := by
  unfold visB at h
  split at h
  · exact .inl (by assumption)
  · exact .inr (.inl (by assumption))
  · exact .inr (.inr (by assumption))
  · cases h
theorem loc_of {x : Str} (h : locB sc x = true) : Loc sc x := by
  unfold locB at h
  split at h
  · exact .inl (by assumption)
  · exact .inr (by assumption)
  · cases h
theorem gl_of {x : Str} (hs : X.env.scope = sc) (h : glB sc x = true) : Gl X x := by
  unfold glB at h
  split at h
  · show X.env.scope.names.lookup x = _
    rw [hs]; assumption
  · cases h
theorem nm_of {x : Str} (h : nmB x = true) : (x == ("__debug__" : Str)) = false ∧ (x == ("__classdict__" : Str)) = false := by
  unfold nmB at h
  rw [Bool.and_eq_true_iff] at h
  exact ⟨by simpa using h.1, by simpa using h.2⟩
theorem pa_sound {f : Expr → E → Bool} (hf : ∀ e ee, f e ee = true → PE X e (rd (ctx X ga) F ee)) : ∀ {xs : List Expr} {es : List E}, xs.all noStar = true → all2 f xs es = true → PA X xs (rdL (ctx X ga) F es)
  | [], [], _, _ => ps_nil
  | x :: xs, e :: es, h, h2 => by
    rw [List.all_cons, Bool.and_eq_true_iff] at h
    unfold all2 at h2
    rw [Bool.and_eq_true_iff] at h2
    exact ps_cons (hf x e h2.1) (pa_sound hf h.2 h2.2) (star_cons h.1)
  | [], _ :: _, _, h => by cases h
  | _ :: _, [], _, h => by cases h
theorem kv_sound {pos : Pos} {f : Expr → E → Bool} (hf : ∀ e ee, f e ee = true → PE X e (rd (ctx X ga) F ee)) : ∀ {keys : List (Option Expr)} {values : List Expr} {es : List E}, kvB f keys values es = true →
    ∃ ps : List (E × E), es = ps.flatMap (fun p => [p.1, p.2]) ∧ PPs X pos keys values (ps.map fun p => (rd (ctx X ga) F p.1, rd (ctx X ga) F p.2)) ∧ keys.all (·.isSome) = true ∧ keys.length = values.length
  | [], [], [], _ => ⟨[], rfl, pps_nil, rfl, rfl⟩
  | some k :: ks, v :: vs, a :: b :: es, h => by
    unfold kvB at h
    simp only [Bool.and_eq_true] at h
    obtain ⟨⟨h1, h2⟩, h3⟩ := h
    obtain ⟨ps, e1, e2, e3, e4⟩ := kv_sound hf h3
    refine ⟨(a, b) :: ps, by rw [e1]; rfl, pps_cons (hf _ _ h1) (hf _ _ h2) e2, ?_, by simp [e4]⟩
    rw [List.all_cons, e3]; rfl
  | [], [], _ :: _, h => by cases h
  | [], _ :: _, _, h => by cases h
  | none :: _, _, _, h => by cases h
  | some _ :: _, [], _, h => by cases h
  | some _ :: _, _ :: _, [], h => by cases h
  | some _ :: _, _ :: _, [_], h => by cases h
theorem pi_sound {f : Expr → E → Bool} (g : Gd n F ga k sc N X) (hf : ∀ e ee, f e ee = true → PE X e (rd (ctx X ga) F ee)) {tg iter : Expr} {it : It} (h : chkI f sc tg iter it = true) : PI X tg iter (rdI (ctx X ga) F it) := by
  cases it with
  | val ev => exact pi_val (hf _ _ h)
  | rng ev =>
    simp only [chkI] at h
    split at h
    · simp only [Bool.and_eq_true, beq_iff_eq] at h
      obtain ⟨⟨⟨h1, h2⟩, h3⟩, h4⟩ := h
      subst h1
      exact pi_rng (gl_of g.hsc h2) (g.blt _ (by decide)) (hf _ _ h4) (star_cons h3)
    · cases h
  | rng2 ea eb =>
    simp only [chkI] at h
    split at h
    · simp only [Bool.and_eq_true, beq_iff_eq] at h
      obtain ⟨⟨⟨⟨⟨h1, h2⟩, h3⟩, h4⟩, h5⟩, h6⟩ := h
      subst h1
      exact pi_rng2 (gl_of g.hsc h2) (g.blt _ (by decide)) (hf _ _ h5) (hf _ _ h6) (by rw [star_cons h3, star_cons h4]; rfl) (star_cons h4)
    · cases h
  | zip es =>
    match es, h with
    | [ea, eb], h =>
      simp only [chkI] at h
      split at h
      · simp only [Bool.and_eq_true, beq_iff_eq] at h
        obtain ⟨⟨⟨⟨⟨⟨h1, h0⟩, h2⟩, h3⟩, h4⟩, h5⟩, h6⟩ := h
        subst h1
        cases tg with
        | Tuple elts kk tpos => exact pi_zp g.mono (gl_of g.hsc h2) (g.blt _ (by decide)) (ps_cons (hf _ _ h5) (ps_cons (hf _ _ h6) ps_nil (star_cons h4)) (star_cons h3)) (star_cons h3) (star_any (by simp [h4]))
        | _ => cases h0
      · cases h
    | [], h => cases h
    | [_], h => cases h
    | [ea, eb, ec], h =>
      simp only [chkI] at h
      split at h
      · simp only [Bool.and_eq_true, beq_iff_eq] at h
        obtain ⟨⟨⟨⟨⟨⟨⟨⟨h1, h0⟩, h2⟩, h3⟩, h4⟩, h5⟩, h6⟩, h7⟩, h8⟩ := h
        subst h1
        cases tg with
        | Tuple elts kk tpos => exact pi_zp3 g.mono (gl_of g.hsc h2) (g.blt _ (by decide)) (ps_cons (hf _ _ h6) (ps_cons (hf _ _ h7) (ps_cons (hf _ _ h8) ps_nil (star_cons h5)) (star_cons h4)) (star_cons h3)) (star_cons h3) (star_any (by simp [h4, h5]))
        | _ => cases h0
      · cases h
    | _ :: _ :: _ :: _ :: _, h => cases h
  | dits ev =>
    simp only [chkI] at h
    split at h
    · simp only [Bool.and_eq_true, beq_iff_eq] at h
      obtain ⟨⟨⟨⟨h1, h0⟩, h2⟩, h3⟩, h4⟩ := h
      subst h1
      cases tg with
      | Tuple elts kk tpos => exact pi_dits (hf _ _ h4) (nocall_base h2) (by simpa using h3)
      | _ => cases h0
    · cases h
  | dkeys ev => exact pi_dkeys (hf _ _ h)
  | enm ev =>
    simp only [chkI] at h
    split at h
    · simp only [Bool.and_eq_true, beq_iff_eq] at h
      obtain ⟨⟨⟨⟨h1, h0⟩, h2⟩, h3⟩, h4⟩ := h
      subst h1
      cases tg with
      | Tuple elts kk tpos => exact pi_enm (gl_of g.hsc h2) (g.blt _ (by decide)) (hf _ _ h4) (star_cons h3)
      | _ => cases h0
    · cases h
theorem tg_each {sc' : Scope} {g : Tg} {e : Expr} {es : List Expr} {env : Env} (h : tgB N sc' g e = true) : assignEach (e :: es) env = (false, assign e env) :: assignEach es env := by
  cases g with
  | nm i => unfold tgB at h; cases e <;> first | rfl | cases h
  | tp gs => unfold tgB at h; cases e <;> first | rfl | cases h
mutual
theorem tg_sound' {sc' : Scope} (hc : X.calm = true) (hN : X.N.Nodup) (hs : ∀ x, locB sc' x = true → Sto1 X x) : ∀ (g : Tg) (tg : Expr) (rest : List Nat), tgB X.N sc' g tg = true → PG X tg (gT' (ctx X ga) g rest)
  | .nm i, tg, rest, h => by
    unfold tgB at h
    split at h
    · simp only [Bool.and_eq_true, decide_eq_true_eq] at h
      exact pg_nm' rest hN h.2 (hs _ h.1)
    · cases h
  | .tp gs, tg, rest, h => by
    unfold tgB at h
    split at h
    · obtain ⟨a, b, c⟩ := tgs_sound' hc hN hs gs _ rest h
      exact pg_tp' hc a b c
    · cases h
theorem tgs_sound' {sc' : Scope} (hc : X.calm = true) (hN : X.N.Nodup) (hs : ∀ x, locB sc' x = true → Sto1 X x) : ∀ (gs : List Tg) (es : List Expr) (rest : List Nat), tgBs X.N sc' gs es = true → PGs X es (gTs' (ctx X ga) gs rest) ∧ (assignEach es X.env).length = gs.length ∧ (assignEach es X.env).findIdx? (·.1) = none
  | [], es, rest, h => by
    unfold tgBs at h
    split at h
    · exact ⟨pgs_nil' rest, rfl, rfl⟩
    · cases h
  | g :: gs, es, rest, h => by
    unfold tgBs at h
    split at h
    · rename_i e r
      obtain ⟨h1, h2⟩ := Bool.and_eq_true_iff.mp h
      obtain ⟨a, b, c⟩ := tgs_sound' hc hN hs gs r rest h2
      have k := tg_each (env := X.env) (es := r) h1
      refine ⟨pgs_cons' (tg_sound' hc hN hs g e _ h1) a (by rw [k]; rfl), ?_, ?_⟩
      · rw [k, List.length_cons, List.length_cons, b]
      · rw [k, List.findIdx?_cons, c]; rfl
    · cases h
end
theorem tg_sound {sc' : Scope} (hc : X.calm = true) (hN : X.N.Nodup) (hs : ∀ x, locB sc' x = true → Sto1 X x) {tg : Expr} {g : Tg} (h : tgB X.N sc' g tg = true) : PG X tg (gT (ctx X ga) g) := tg_sound' hc hN hs g tg [] h
mutual
theorem own_ixs' {sc' : Scope} : ∀ (g : Tg) (tg : Expr), tgB N sc' g tg = true → (tgOwn g tg).map (·.2) = g.ixs
  | .nm i, tg, h => by
    unfold tgB at h
    split at h
    · rfl
    · cases h
  | .tp gs, tg, h => by
    unfold tgB at h
    split at h
    · exact own_ixsL' gs _ h
    · cases h
theorem own_ixsL' {sc' : Scope} : ∀ (gs : List Tg) (es : List Expr), tgBs N sc' gs es = true → (tgOwns gs es).map (·.2) = Tg.ixsL gs
  | [], es, h => by unfold tgOwns Tg.ixsL; rfl
  | g :: gs, es, h => by
    unfold tgBs at h
    split at h
    · rename_i e r
      obtain ⟨h1, h2⟩ := Bool.and_eq_true_iff.mp h
      unfold tgOwns Tg.ixsL
      show List.map _ (tgOwn g e ++ tgOwns gs r) = _
      rw [List.map_append, own_ixs' g e h1, own_ixsL' gs r h2]
    · cases h
end
theorem own_ixs {tg : Expr} {g : Tg} {sc' : Scope} (h : tgB N sc' g tg = true) : (tgOwn g tg).map (·.2) = g.ixs := own_ixs' g tg h
theorem pw_of_pt {op : BoolOp} {vs : List Expr} {p : Pos} {t : TT} (h : PT X (.BoolOp op vs p) t) : PW X (.BoolOp op vs p) t := ⟨fun wh pins s σ H Q I q => h.run pins s σ H Q I q⟩

theorem sto_blk {scope : Scope} (s : Shared) (H : Hp) (C : Addr) (cl : List (Str × Addr)) (fp : List Addr) (x : Str) (h : locB scope x = true) : Sto1 (X.blk s H scope (compEnvC scope cl C X.env) fp) x := by
  have key : ∀ kd, kd ≠ NameKind.free → scope.names.lookup x = some kd → (relS scope X.env.scope).names.lookup x = some kd := fun kd h1 h2 => lookup_relS_keep h1 h2
  rcases loc_of h with q | q
  · have q' := key _ (by decide) q
    exact ⟨.inl q', .inr q'⟩
  · have q' := key _ (by decide) q
    exact ⟨.inr q', .inl (by show (scope.names.lookup x == some .cell) = true; rw [q]; rfl)⟩
theorem lookup_of_contains {f : Str} {l : List Str} (h : l.contains f = true) : f ∈ l := by simpa using h
end
end SG
namespace SG
open PySem PySem.Spec PyProof.Rows L2
section
variable {ga : Str → Option Addr} {F : FS} {n : Nfo} {kk : Nat} {N : List Str}
/-- a plain test -/
theorem plain_test {X : Cx} {e : Expr} {ee : E} (h : PE X e (rd (ctx X ga) F ee)) (hp : ∀ whole, isTrue e X.env whole = (do let v ← whole; standAt e.pos; holding [v] (truthy v))) : PE X e (rd (ctx X ga) F ee) ∧ PT X e (rdT (ctx X ga) F ee) := ⟨h, pt_tru h hp⟩
theorem one_bool {X : Cx} {op : BoolOp} {x : Expr} {p : Pos} {ee : E} (h : PE X x (rd (ctx X ga) F ee) ∧ PT X x (rdT (ctx X ga) F ee)) : PE X (.BoolOp op [x] p) (rd (ctx X ga) F ee) ∧ PT X (.BoolOp op [x] p) (rdT (ctx X ga) F ee) := by
  refine ⟨pe_one h.1, ?_⟩
  cases op with
  | And => exact (pw_and1 h.2).pt
  | Or => exact (pw_or1 h.2).pt
theorem sound : ∀ (k : Nat) (sc : Scope) (X : Cx) (e : Expr) (ee : E), Gd n F ga kk sc N X → chkE n N k sc e ee = true → PE X e (rd (ctx X ga) F ee) ∧ PT X e (rdT (ctx X ga) F ee)
  | 0, _, _, _, _, _, h => by cases h
  | k + 1, sc, X, e, ee, g, h => by
    have ih := fun e ee h => sound k sc X e ee g h
    have ih1 := fun e ee h => (sound k sc X e ee g h).1
    unfold chkE at h
    split at h
    · exact one_bool (ih _ _ h)
    · rename_i e0 hnb
      split at h
      · -- var
        split at h
        · rename_i i _ x p
          simp only [Bool.and_eq_true, decide_eq_true_eq] at h
          obtain ⟨⟨h1, h2⟩, h3⟩ := h
          obtain ⟨n1, n2⟩ := nm_of h2
          exact plain_test (ps_var (by rw [g.hN]; exact h3) (by rw [g.hsc]; exact vis_of h1) n1 n2) (fun _ => rfl)
        · cases h
      · -- cst
        split at h
        · rw [PV.same_eq h]; exact plain_test (ps_cst pe_int fun _ _ _ => .int _) (fun _ => rfl)
        · rw [PV.same_eq h]; exact plain_test (ps_cst pe_bl fun _ _ _ => .bl _) (fun _ => rfl)
        · rw [PV.same_eq h]; exact plain_test (ps_cst pe_str fun _ _ _ => .str _) (fun _ => rfl)
        · rw [PV.same_eq h]; exact plain_test (ps_cst pe_non fun _ _ _ => .non) (fun _ => rfl)
        · simp only [Bool.and_eq_true] at h
          obtain ⟨⟨h1, h2⟩, h3⟩ := h
          obtain ⟨n1, n2⟩ := nm_of h2
          split at h3
          · simp only [Bool.and_eq_true, beq_iff_eq] at h3
            obtain ⟨h3, h4⟩ := h3
            subst h3
            obtain ⟨a, e1, e2, _⟩ := g.fns _ (lookup_of_contains h4)
            exact plain_test (ps_cst (pe_glob (gl_of g.hsc h1) e2 (v := .ref a) rfl n1) fun _ _ _ => .fn e1) (fun _ => rfl)
          · split at h3
            · rename_i w hw
              rw [PV.same_eq h3]
              obtain ⟨x, u, e1, e2, e3⟩ := g.cns _ _ hw
              exact plain_test (ps_cst (pe_glob (gl_of g.hsc h1) e1 e2 n1) e3) (fun _ => rfl)
            · cases h3
        · cases h
      · -- bin
        split at h
        · simp only [Bool.and_eq_true, decide_eq_true_eq] at h
          obtain ⟨⟨h1, h2⟩, h3⟩ := h
          subst h1
          exact plain_test (ps_bin (ih1 _ _ h2) (ih1 _ _ h3)) (fun _ => rfl)
        · cases h
      · -- neg
        split at h
        · exact plain_test (ps_neg (ih1 _ _ h)) (fun _ => rfl)
        · cases h
      · -- cmp
        split at h
        · simp only [Bool.and_eq_true, decide_eq_true_eq] at h
          obtain ⟨⟨⟨h1, h2⟩, h3⟩, h4⟩ := h
          subst h1
          exact ⟨ps_cmp g.hu (ih1 _ _ h3) (ih1 _ _ h4) (noset_marks h2), pt_cmp' g.hu (ih1 _ _ h3) (ih1 _ _ h4) (noset_marks h2)⟩
        · cases h
      · -- chain
        split at h
        · simp only [Bool.and_eq_true, decide_eq_true_eq] at h
          obtain ⟨⟨⟨⟨⟨h1, h2⟩, h3⟩, h4⟩, h5⟩, h6⟩ := h
          subst h1 h2
          exact ⟨ps_chain g.hu (ih1 _ _ h4) (ih1 _ _ h5) (ih1 _ _ h6) (noset_last h3), pt_chain' g.hu (ih1 _ _ h4) (ih1 _ _ h5) (ih1 _ _ h6) (noset_last h3)⟩
        · cases h
      · -- and
        split at h
        · simp only [Bool.and_eq_true] at h
          obtain ⟨h1, h2⟩ := h
          exact ⟨ps_and (ih1 _ _ h1) (ih1 _ _ h2), (pt_and' (ih _ _ h1).2 (pw_of_pt (ih _ _ h2).2)).pt⟩
        · cases h
      · -- or
        split at h
        · simp only [Bool.and_eq_true] at h
          obtain ⟨h1, h2⟩ := h
          exact ⟨ps_or (ih1 _ _ h1) (ih1 _ _ h2), (pt_or' (ih _ _ h1).2 (pw_of_pt (ih _ _ h2).2)).pt⟩
        · cases h
      · -- not
        split at h
        · exact ⟨ps_not (ih1 _ _ h), pt_not' (ih _ _ h).2⟩
        · cases h
      · -- ite
        split at h
        · simp only [Bool.and_eq_true] at h
          obtain ⟨⟨h1, h2⟩, h3⟩ := h
          exact ⟨ps_ite (ih _ _ h1).2 (ih1 _ _ h2) (ih1 _ _ h3), pt_ite' (ih _ _ h1).2 (ih _ _ h2).2 (ih _ _ h3).2⟩
        · cases h
      · -- tup
        split at h
        · simp only [Bool.and_eq_true, decide_eq_true_eq] at h
          obtain ⟨⟨h1, h2⟩, h3⟩ := h
          exact plain_test (ps_tup (pa_sound ih1 h1 h2) h3 (fun ρ M Q q => wpL_len g.mono _ _ _ _ q)) (fun _ => rfl)
        · cases h
      · -- lst
        split at h
        · simp only [Bool.and_eq_true, decide_eq_true_eq] at h
          obtain ⟨⟨h1, h2⟩, h3⟩ := h
          exact plain_test (ps_lst (pa_sound ih1 h1 h2) h3 (fun ρ M Q q => wpL_len g.mono _ _ _ _ q)) (fun _ => rfl)
        · cases h
      · -- emp
        split at h
        · exact plain_test ps_emp (fun _ => rfl)
        · cases h
      · -- ix
        split at h
        · simp only [Bool.and_eq_true] at h
          obtain ⟨⟨h1, h2⟩, h3⟩ := h
          exact plain_test (ps_ix (ih1 _ _ h2) (ih1 _ _ h3) (noslice_ix h1)) (fun _ => rfl)
        · cases h
      · -- sl
        split at h
        · simp only [Bool.and_eq_true] at h
          obtain ⟨⟨h1, h2⟩, h3⟩ := h
          refine plain_test (ps_sl (ih1 _ _ h1) ?_ ?_) (fun _ => rfl)
          · split at h2
            · exact ps_ono
            · exact ps_oso (ih1 _ _ h2)
            · cases h2
          · split at h3
            · exact ps_ono
            · exact ps_oso (ih1 _ _ h3)
            · cases h3
        · cases h
      · -- rev
        split at h
        · simp only [Bool.and_eq_true, beq_iff_eq] at h
          obtain ⟨h1, h2⟩ := h
          subst h1
          exact plain_test (ps_rev (ih1 _ _ h2)) (fun _ => rfl)
        · cases h
      · -- call
        split at h
        · simp only [Bool.and_eq_true, beq_iff_eq] at h
          obtain ⟨⟨⟨⟨⟨h1, h2⟩, h3⟩, h4⟩, h5⟩, h6⟩ := h
          subst h1
          obtain ⟨a, e1, e2, e3⟩ := g.fns _ (lookup_of_contains h4)
          have h5' := h5
          rw [List.all_cons, Bool.and_eq_true_iff] at h5'
          exact plain_test (ps_call (e3.callR g.rm) (gl_of g.hsc h2) e2 e3.kp (pa_sound ih1 h5 h6) (nm_of h3).1 (star_cons h5'.1) (star_any h5'.2)) (fun _ => rfl)
        · cases h
      · -- callv
        split at h
        · rename_i i es _ x p y ys pos
          simp only [Bool.and_eq_true, decide_eq_true_eq] at h
          obtain ⟨⟨⟨⟨h1, h2⟩, h3⟩, h5⟩, h6⟩ := h
          have h5' := h5
          rw [List.all_cons, Bool.and_eq_true_iff] at h5'
          obtain ⟨n1, n2⟩ := nm_of h2
          refine plain_test (PE.imp (pe_loc_call (i := i) (r := fun a vs H Q => ∃ f, ga f = some a ∧ f ∈ n.fns ∧ rc (ctx X ga) (F f) vs H Q) (by rw [g.hN]; exact h3) (by rw [g.hsc]; exact vis_of h1) (pa_sound ih1 h5 h6) n1 n2 (star_cons h5'.1) (star_any h5'.2)) ?_) (fun _ => rfl)
          rintro σ H Q ⟨ρ, M, Z, Q', r, e, ⟨f, hf, h⟩, c⟩
          obtain ⟨u, hu, ru⟩ := e.get i _ hf
          cases ru with
          | @fn _ a hga =>
            have known : ∀ f', ga f' = some a → f' ∈ n.fns → PySem.W.keepIn X.K (.ref a) = true ∧ CallR X (.ref a) (rc (ctx X ga) (F f')) := fun f' h1 h2 => by
              obtain ⟨a', e1, _, e3⟩ := g.fns f' h2
              rw [h1] at e1; cases e1
              exact ⟨e3.kp, e3.callR g.rm⟩
            by_cases hm : f ∈ n.fns
            · refine ⟨a, hu, (known f hga hm).1, ?_, ?_⟩
              · rintro pins s σ H vs us Q I rv ⟨f', e1, e2, q⟩
                exact (known f' e1 e2).2 pins s σ H vs us Q I rv q
              · refine ⟨ρ, M, Z, _, r, e, h, fun vs xs H1 M1 Z1 x1 r1 rvs h1 => ⟨f, hga, hm, vs, M1, Z1, Q', r1, rvs, h1, fun z u H2 M2 Z2 x2 r2 rz h2 => c _ _ _ _ _ (x1.trans x2) r2 rz h2⟩⟩
            · have key := g.known f a hga
              exact (hm key).elim
        · cases h
      · -- blt
        split at h
        · rename_i b es _ x p y ys pos
          simp only [Bool.and_eq_true, beq_iff_eq] at h
          obtain ⟨⟨⟨h1, h2⟩, h3⟩, h4⟩ := h
          subst h1
          have h3' := h3
          rw [List.all_cons, Bool.and_eq_true_iff] at h3'
          have hb : blNm b ∈ bltNames := by cases b <;> decide
          exact plain_test (ps_blt g.sys g.calm g.hu g.rm.gd (gl_of g.hsc h2) (g.blt _ hb) (pa_sound ih1 h3 h4) (star_cons h3'.1) (star_any h3'.2)) (fun _ => rfl)
        · cases h
      · -- mth
        split at h
        · rename_i m o es _ x a apos y ys cpos
          simp only [Bool.and_eq_true, beq_iff_eq, decide_eq_true_eq] at h
          obtain ⟨⟨⟨⟨⟨⟨h1, h2⟩, h3⟩, h4⟩, h5⟩, h6⟩, h7⟩ := h
          subst h1
          have h5' := h5
          rw [List.all_cons, Bool.and_eq_true_iff] at h5'
          refine plain_test (ps_mth g.hu (slot_mt m) (type_mt m) (ih1 _ _ h6) (pa_sound ih1 h5 h7) (nocall_base h2) ?_ (by simpa using h3) (star_cons h5'.1) (star_any h5'.2)) (fun _ => rfl)
          rw [star_all h5]
          simp only [List.length_cons, List.length_nil, List.isEmpty_nil, if_true]
          show (true && true && decide (ys.length + 1 + 0 + 0 < 30)) = true
          rw [decide_eq_true (by omega)]; rfl
        · cases h
      · -- isi
        split at h
        · rename_i a t _ x p y z q pos
          simp only [Bool.and_eq_true, beq_iff_eq] at h
          obtain ⟨⟨⟨⟨⟨h1, h2⟩, h3⟩, h4⟩, h5⟩, h6⟩ := h
          subst h1 h2
          have hb : Str.ofString (tyOf t) ∈ bltNames := by cases t <;> decide
          exact plain_test (ps_isi (gl_of g.hsc h3) (g.blt _ (by decide)) (gl_of g.hsc h4) (g.blt _ hb) (ih1 _ _ h6) (star_cons h5)) (fun _ => rfl)
        · cases h
      · -- comp
        split at h
        · rename_i mt gt it c elt _ x tg iter ifs scope p
          simp only [compB, Bool.and_eq_true] at h
          obtain ⟨⟨⟨⟨⟨h1, h2⟩, h3⟩, h4⟩, h5⟩, h6⟩ := h
          have ok : BlkOk X.N X.env.scope scope (tgOwn gt tg) := by rw [g.hN, g.hsc]; exact blkOk_by h1
          refine plain_test (PE.imp (ps_comp (mt := mt) g.calm g.nd (pi_sound g ih1 h6) ok (own_ixs h2) (fun s H C cl fp => ?_) (fun s H C cl fp => ?_) (fun s H C cl fp => ?_) (noset_fold h3)) fun σ H Q q => rd_comp (own_ixs h2) q) (fun _ => rfl)
          · exact tg_sound (X := X.blk s H scope (compEnvC scope cl C X.env) fp) (ga := ga) g.calm g.nd (fun x hx => sto_blk s H C cl fp x hx) (by show tgB X.N scope gt tg = true; rw [g.hN]; exact h2)
          · have gb := g.blk ok.kind s H C cl fp
            split at h5
            · exact pts_no (X := X.blk s H scope (compEnvC scope cl C X.env) fp) (ga := ga)
            · exact pts_so (X := X.blk s H scope (compEnvC scope cl C X.env) fp) (ga := ga) (sound k _ _ _ _ gb h5).2
            · cases h5
          · exact (sound k _ _ _ _ (g.blk ok.kind s H C cl fp) h4).1
        · cases h
      · -- list(range(..))
        split at h
        · simp only [Bool.and_eq_true, beq_iff_eq] at h
          obtain ⟨⟨⟨⟨⟨⟨⟨h1, h2⟩, h3⟩, h4⟩, h5⟩, h6⟩, h7⟩, h8⟩ := h
          subst h1 h2
          exact plain_test (ps_lrange2 g.calm (gl_of g.hsc h3) (g.blt _ (by decide)) (gl_of g.hsc h4) (g.blt _ (by decide)) (ih1 _ _ h7) (ih1 _ _ h8) (by rw [star_cons h5]) (by rw [star_cons h6]) (star_any (by simp [h6]))) (fun _ => rfl)
        · simp only [Bool.and_eq_true, beq_iff_eq] at h
          obtain ⟨⟨⟨⟨⟨⟨h1, h2⟩, h3⟩, h4⟩, h5⟩, h6⟩, h7⟩ := h
          subst h1 h2
          split at h7
          · obtain rfl := PV.same_eq h7
            exact plain_test (ps_lrange1 g.calm (gl_of g.hsc h3) (g.blt _ (by decide)) (gl_of g.hsc h4) (g.blt _ (by decide)) (ih1 _ _ h6) (by rw [star_cons h5])) (fun _ => rfl)
          · cases h7
        · cases h
      · -- sorted(set(..))
        split at h
        · simp only [Bool.and_eq_true, beq_iff_eq] at h
          obtain ⟨⟨⟨⟨⟨h1, h2⟩, h3⟩, h4⟩, h5⟩, h6⟩ := h
          subst h1 h2
          exact plain_test (ps_sset g.calm g.hu (gl_of g.hsc h3) (g.blt _ (by decide)) (gl_of g.hsc h4) (g.blt _ (by decide)) (ih1 _ _ h6) (star_cons h5)) (fun _ => rfl)
        · cases h
      · -- sorted
        split at h
        · simp only [Bool.and_eq_true, beq_iff_eq] at h
          obtain ⟨⟨⟨h1, h2⟩, h3⟩, h4⟩ := h
          subst h1
          exact plain_test (ps_srt g.calm g.hu (gl_of g.hsc h2) (g.blt _ (by decide)) (ih1 _ _ h4) (star_cons h3)) (fun _ => rfl)
        · cases h
      · -- {}
        split at h
        · exact plain_test ps_dnew (fun _ => rfl)
        · cases h
      · -- d.get(k, x)
        split at h
        · simp only [Bool.and_eq_true, beq_iff_eq] at h
          obtain ⟨⟨⟨⟨⟨⟨⟨h1, h2⟩, h3⟩, h4⟩, h5⟩, h6⟩, h7⟩, h8⟩ := h
          subst h1
          refine plain_test (ps_dget g.hu (ih1 _ _ h6) (ih1 _ _ h7) (ih1 _ _ h8) ⟨nocall_base h2, ?_, by simpa using h3, ?_⟩) (fun _ => rfl)
          · rw [star_cons h4, star_cons h5]; rfl
          · rw [star_cons h4, star_cons h5]; rfl
        · cases h
      · -- d[k]
        split at h
        · simp only [Bool.and_eq_true] at h
          obtain ⟨⟨h1, h2⟩, h3⟩ := h
          exact plain_test (ps_dix g.hu (ih1 _ _ h2) (ih1 _ _ h3) (noslice_ix h1)) (fun _ => rfl)
        · cases h
      · -- sorted(d.items())
        split at h
        · simp only [Bool.and_eq_true, beq_iff_eq] at h
          obtain ⟨⟨⟨⟨⟨h1, h2⟩, h3⟩, h4⟩, h5⟩, h6⟩ := h
          subst h1 h2
          exact plain_test (ps_ditems g.calm g.hu (gl_of g.hsc h3) (g.blt _ (by decide)) (ih1 _ _ h6) (nocall_base h4) (by simpa using h5)) (fun _ => rfl)
        · cases h
      · -- {k: v for ..}
        split at h
        · rename_i gt it c kk vv _ kx vx tg iter ifs scope p
          simp only [compB, Bool.and_eq_true] at h
          obtain ⟨⟨⟨⟨⟨⟨h1, h2⟩, h3⟩, h4⟩, h5⟩, h6⟩, h7⟩ := h
          have ok : BlkOk X.N X.env.scope scope (tgOwn gt tg) := by rw [g.hN, g.hsc]; exact blkOk_by h1
          refine plain_test (ps_dcomp g.hu g.calm g.nd (pi_sound g ih1 h6) ok (own_ixs h2) (fun s H C cl fp => ?_) (fun s H C cl fp => ?_) (fun s H C cl fp => ?_) (fun s H C cl fp => ?_) (noset_fold h3)) (fun _ => rfl)
          · exact tg_sound (X := X.blk s H scope (compEnvC scope cl C X.env) fp) (ga := ga) g.calm g.nd (fun x hx => sto_blk s H C cl fp x hx) (by show tgB X.N scope gt tg = true; rw [g.hN]; exact h2)
          · have gb := g.blk ok.kind s H C cl fp
            split at h5
            · exact pts_no (X := X.blk s H scope (compEnvC scope cl C X.env) fp) (ga := ga)
            · exact pts_so (X := X.blk s H scope (compEnvC scope cl C X.env) fp) (ga := ga) (sound k _ _ _ _ gb h5).2
            · cases h5
          · exact (sound k _ _ _ _ (g.blk ok.kind s H C cl fp) h4).1
          · exact (sound k _ _ _ _ (g.blk ok.kind s H C cl fp) h7).1
        · cases h
      · -- {k: v, ..}
        split at h
        · simp only [Bool.and_eq_true, decide_eq_true_eq] at h
          obtain ⟨⟨h1, h2⟩, h3⟩ := h
          rename_i keys values pos
          obtain ⟨ps, rfl, e2, e3, e4⟩ := kv_sound (X := X) (ga := ga) (F := F) (pos := pos) ih1 h3
          exact plain_test (ps_klit e2 e3 e4 (fun z => by rw [z] at h2; simp at h2) h1) (fun _ => rfl)
        · cases h
      · -- {} plain
        split at h
        · exact plain_test ps_knew (fun _ => rfl)
        · cases h
      · -- never
        exact ⟨⟨fun pins s σ H Q I ⟨ρ, M, Z, Q', r, e, h, c⟩ => h.elim⟩, ⟨fun pins s σ H Q I ⟨ρ, M, Z, Q', r, e, h, c⟩ => h.elim⟩⟩
end
end SG
namespace SG
open PySem PySem.Spec PyProof.Rows L2
def isStar : Expr → Bool
  | .Starred .. => true
  | _ => false
def nameAt (sc : Scope) (line : Nat) : Expr → Option Str
  | .Name id pos => if sc.names.lookup id == some .local && pos.line == line then some id else none
  | _ => none
def swp (sc : Scope) (ts vs : List Expr) : Option (Option (List Str)) :=
  if (!(ts.length == 2 || ts.length == 3) || vs.length != ts.length) = true then some none
  else if vs.any isStar = true then some none
  else
    let names := ts.filterMap (nameAt sc ((ts.head?.map (·.pos.line)).getD 0))
    if (names.length != ts.length || names.eraseDups.length != names.length) = true then some none
    else if vs.all (foldedForSure 8) = true then some none
    else if vs.all (constantsAlone 8) = true then none
    else some (some names)
theorem swp_ok {ts vs : List Expr} {k k2 : Nat} {p p2 : Pos} {env : Env} {r : Option (List Str)} (hk : env.scope.kind = .function) (h : swp env.scope ts vs = some r) : swappedStores [.Tuple ts k p] (.Tuple vs k2 p2) env = pure r := by
  have hb : env.blockKind = .function := by unfold Env.blockKind; rw [hk]; rfl
  have hst : (fun (e : Expr) => match e with | .Starred .. => true | _ => false) = isStar := by funext e; cases e <;> rfl
  unfold swp at h
  unfold swappedStores
  simp only [hb]
  show (if (!(ts.length == 2 || ts.length == 3) || vs.length != ts.length || (ScopeKind.function != ScopeKind.function)) = true then pure none else _) = pure r
  have e0 : (!(ts.length == 2 || ts.length == 3) || vs.length != ts.length || (ScopeKind.function != ScopeKind.function)) = (!(ts.length == 2 || ts.length == 3) || vs.length != ts.length) := by simp
  rw [e0]
  by_cases c1 : (!(ts.length == 2 || ts.length == 3) || vs.length != ts.length) = true
  · rw [if_pos c1] at h ⊢; cases h; rfl
  · rw [if_neg c1] at h ⊢
    generalize hL : (ts.head?.map (·.pos.line)).getD 0 = L at h ⊢
    have e2 : (fun (x : Expr) => match x with
        | .Name id pos => if (env.kindOf id == some .local && pos.line == L) = true then some id else none
        | _ => none) = nameAt env.scope L := by
      funext x
      cases x <;> rfl
    have e1 : (fun (x : Expr) => match x with | .Starred .. => true | _ => false) = isStar := by funext x; cases x <;> rfl
    have go : ∀ (f : Expr → Bool) (g : Expr → Option Str), f = isStar → g = nameAt env.scope L → (if vs.any f = true then pure none else
        if ((ts.filterMap g).length != ts.length || (ts.filterMap g).eraseDups.length != (ts.filterMap g).length) = true then pure none
        else if vs.all (foldedForSure 8) = true then pure none
        else if vs.all (constantsAlone 8) = true then (do let _ ← (unsupported "assign.tuple-of-constant-expressions:order-of-the-stores" : Sem PUnit); pure (some (ts.filterMap g))) else pure (some (ts.filterMap g))) = (pure r : Sem (Option (List Str))) := by
      rintro f g rfl rfl
      dsimp only at h
      by_cases d1 : vs.any isStar = true
      · rw [if_pos d1] at h ⊢; cases h; rfl
      · rw [if_neg d1] at h ⊢
        by_cases d2 : ((ts.filterMap (nameAt env.scope L)).length != ts.length || (ts.filterMap (nameAt env.scope L)).eraseDups.length != (ts.filterMap (nameAt env.scope L)).length) = true
        · rw [if_pos d2] at h ⊢; cases h; rfl
        · rw [if_neg d2] at h ⊢
          by_cases d3 : vs.all (foldedForSure 8) = true
          · rw [if_pos d3] at h ⊢; cases h; rfl
          · rw [if_neg d3] at h ⊢
            by_cases d4 : vs.all (constantsAlone 8) = true
            · rw [if_pos d4] at h; cases h
            · rw [if_neg d4] at h ⊢; cases h; rfl
    exact go _ _ (by funext x; cases x <;> rfl) (by funext x; cases x <;> rfl)
theorem swaps_lc {elt : Expr} {gs : List Comprehension} {scope : Scope} {p py : Pos} {y : Str} {l : Nat} {env : Env} (hk : env.scope.kind = .function) : swapsWith (.ListComp elt gs scope p) (some (.Name y py)) l env =
    pure (env.kindOf y == some .local && py.line == p.line && !(scope.names.any fun (n, k) => n == y && (k == .local || k == .cell))) := by
  have hb : env.blockKind = .function := by unfold Env.blockKind; rw [hk]; rfl
  unfold swapsWith
  simp only [hb]
  rfl
theorem swaps_no {v : Expr} {t : Option Expr} {l : Nat} {env : Env} (h : noComp v = true) : swapsWith v t l env = pure false := by
  cases v <;> first | rfl | cases h

def nsB (ns : List Str) : List Expr → Bool
  | [.Name x _, .Name y _] => ns == [x, y]
  | [.Name x _, .Name y _, .Name z _] => ns == [x, y, z]
  | _ => false
def lcB (n : Nfo) (N : List Str) (k : Nat) (sc : Scope) : Expr → Expr → Tg → E → Bool
  | .Name y py, .ListComp x [⟨tg, iter, ifs, 0⟩] scope p, .nm i, .comp _ g it c elt => decide (N[i]? = some y) && (sc.names.lookup y == some .local && py.line == p.line && !(scope.names.any fun (n, k) => n == y && (k == .local || k == .cell))) &&
      compB (chkE n N k) N sc x tg iter ifs scope g it c elt
  | _, _, _, _ => false
def isRaise : Stmt → Bool
  | .Raise .. => true
  | _ => false
def parB (n : Nfo) (N : List Str) (k : Nat) (sc : Scope) : List Expr → List Expr → Tg → E → Bool
  | [.Name x _, .Name y _], [a, b], .tp [.nm i, .nm j], .tup [ea, eb] => decide (N[i]? = some x) && decide (N[j]? = some y) && i != j && (sc.names.lookup x == some .local) && (sc.names.lookup y == some .local) && noStar a && noStar b && chkE n N k sc a ea && chkE n N k sc b eb
  | [.Name x _, .Name y _, .Name z _], [a, b, c], .tp [.nm i, .nm j, .nm l], .tup [ea, eb, ec] => decide (N[i]? = some x) && decide (N[j]? = some y) && decide (N[l]? = some z) && i != j && i != l && j != l && (sc.names.lookup x == some .local) && (sc.names.lookup y == some .local) && (sc.names.lookup z == some .local) &&
      noStar a && noStar b && noStar c && chkE n N k sc a ea && chkE n N k sc b eb && chkE n N k sc c ec
  | _, _, _, _ => false
def asgB (n : Nfo) (N : List Str) (k : Nat) (sc : Scope) (tg a : Expr) (g : Tg) (ee : E) : Bool :=
  match tg, a with
  | .Tuple ts _ _, .Tuple vs _ _ => (match swp sc ts vs with
    | some none => tgB N sc g tg && chkE n N k sc a ee
    | some (some ns) => nsB ns ts && parB n N k sc ts vs g ee
    | none => false)
  | .Tuple .. , a => tgB N sc g tg && chkE n N k sc a ee
  | .Name .. , a => (tgB N sc g tg && noComp a && chkE n N k sc a ee) || lcB n N k sc tg a g ee
  | _, _ => false
def chkS (n : Nfo) (N : List Str) : Nat → Scope → Stmt → S → Bool
  | 0, _, _, _ => false
  | k + 1, sc, st, s => match s with
    | .expr e => (match st with
      | .Expr a _ => noComp a && chkE n N k sc a e
      | _ => false)
    | .asg g e => (match st with
      | .Assign [tg] a _ => asgB n N k sc tg a g e
      | _ => false)
    | .par _ _ => false
    | .six o i e => (match st with
      | .Assign [.Subscript x y _] a _ => noSlice y && noComp a && chkE n N k sc x o && chkE n N k sc y i && chkE n N k sc a e
      | _ => false)
    | .dset o i e => (match st with
      | .Assign [.Subscript x y _] a _ => noSlice y && noComp a && chkE n N k sc x o && chkE n N k sc y i && chkE n N k sc a e
      | _ => false)
    | .aug i op e => (match st with
      | .AugAssign (.Name x _) o a _ => decide (o = opA op) && locB sc x && decide (N[i]? = some x) && chkE n N k sc a e
      | _ => false)
    | .augx o i op e => (match st with
      | .AugAssign (.Subscript x y _) f a _ => decide (f = opA op) && noSlice y && chkE n N k sc x o && chkE n N k sc y i && chkE n N k sc a e
      | _ => false)
    | .ret e => (match st with
      | .Return (some a) _ => chkE n N k sc a e
      | _ => false)
    | .ret0 => (match st with
      | .Return none _ => true
      | _ => false)
    | .ite c a b => (match st with
      | .If t x y _ => chkE n N k sc t c && all2 (chkS n N k sc) x a && all2 (chkS n N k sc) y b
      | _ => false)
    | .for_ g it body => (match st with
      | .For tg iter b [] _ => tgB N sc g tg && noSet iter && chkI (chkE n N k sc) sc tg iter it && all2 (chkS n N k sc) b body
      | _ => false)
    | .while_ c body => (match st with
      | .While t b [] _ => chkE n N k sc t c && all2 (chkS n N k sc) b body
      | _ => false)
    | .pass => (match st with
      | .Pass _ => true
      | _ => false)
    | .brk => (match st with
      | .Break _ => true
      | _ => false)
    | .cont => (match st with
      | .Continue _ => true
      | _ => false)
    | .never => true
section
variable {ga : Str → Option Addr} {F : FS} {n : Nfo} {kk : Nat} {N : List Str} {sc : Scope} {X : Cx}
theorem bq {α : Type} [BEq α] [LawfulBEq α] {a b : α} (h : (a == b) = true) : a = b := beq_iff_eq.mp h
theorem swaps_sole {a t : Expr} {l : Nat} {env : Env} (h : noComp a = true) : swapsWithSole [t] a l env = pure false := by
  show swapsWith a (some t) l env = pure false
  exact swaps_no h
theorem par_sound (g : Gd n F ga kk sc N X) {k : Nat} {ts vs : List Expr} {kt k2 : Nat} {pt p2 pos : Pos} {gt : Tg} {ee : E} {ns : List Str} (hs : swp sc ts vs = some (some ns)) (hn : nsB ns ts = true) (h : parB n N k sc ts vs gt ee = true) : PS X (.Assign [.Tuple ts kt pt] (.Tuple vs k2 p2) pos) (rdS (ctx X ga) F (.asg gt ee)) := by
  have hw := swp_ok (k := kt) (p := pt) (k2 := k2) (p2 := p2) (env := X.env) (by rw [g.hsc]; exact g.kind) (by rw [g.hsc]; exact hs)
  have ih1 := fun e ee h => (sound (n := n) (F := F) (ga := ga) (kk := kk) (N := N) k sc X e ee g h).1
  unfold parB at h
  split at h
  · simp only [Bool.and_eq_true, decide_eq_true_eq, bne_iff_ne, ne_eq] at h
    obtain ⟨⟨⟨⟨⟨⟨⟨⟨h1, h2⟩, h3⟩, h4⟩, h5⟩, h6⟩, h7⟩, h8⟩, h9⟩ := h
    have hn := bq hn
    subst hn
    exact s_par2 g.mono g.calm g.nd (by rw [g.hN]; exact h1) (by rw [g.hN]; exact h2) h3 (by rw [g.hsc]; exact bq h4) (by rw [g.hsc]; exact bq h5) (ps_cons (ih1 _ _ h8) (ps_cons (ih1 _ _ h9) ps_nil (star_cons h7)) (star_cons h6)) hw rfl
  · simp only [Bool.and_eq_true, decide_eq_true_eq, bne_iff_ne, ne_eq] at h
    obtain ⟨⟨⟨⟨⟨⟨⟨⟨⟨⟨⟨⟨⟨⟨h1, h2⟩, h3⟩, h4⟩, h5⟩, h6⟩, h7⟩, h8⟩, h9⟩, h10⟩, h11⟩, h12⟩, h13⟩, h14⟩, h15⟩ := h
    have hn := bq hn
    subst hn
    exact s_par3 g.mono g.calm g.nd (by rw [g.hN]; exact h1) (by rw [g.hN]; exact h2) (by rw [g.hN]; exact h3) h4 h5 h6 (by rw [g.hsc]; exact bq h7) (by rw [g.hsc]; exact bq h8) (by rw [g.hsc]; exact bq h9)
      (ps_cons (ih1 _ _ h13) (ps_cons (ih1 _ _ h14) (ps_cons (ih1 _ _ h15) ps_nil (star_cons h12)) (star_cons h11)) (star_cons h10)) hw rfl
  · cases h
/-- a def's own body: names may be stored to -/
theorem sto_def (g : Gd n F ga kk sc N X) (hf : ∀ x, X.fn x = true) (x : Str) (h : locB sc x = true) : Sto1 X x := ⟨by rw [g.hsc]; exact loc_of h, .inl (hf x)⟩
theorem assign_one {tg : Expr} {env : Env} (h : noStar tg = true) : (assignEach [tg] env).map (·.2) = [assign tg env] := by cases tg <;> first | rfl | cases h
theorem asg_sound (g : Gd n F ga kk sc N X) (hf : ∀ x, X.fn x = true) {k : Nat} {tg a : Expr} {pos : Pos} {gt : Tg} {ee : E} (h : asgB n N k sc tg a gt ee = true) : PS X (.Assign [tg] a pos) (rdS (ctx X ga) F (.asg gt ee)) := by
  have ih1 := fun e ee h => (sound (n := n) (F := F) (ga := ga) (kk := kk) (N := N) k sc X e ee g h).1
  have tgs : ∀ {tg : Expr}, tgB N sc gt tg = true → PG X tg (gT (ctx X ga) gt) := fun h => tg_sound g.calm g.nd (sto_def g hf) (by rw [g.hN]; exact h)
  unfold asgB at h
  split at h
  · split at h
    · rename_i ts kt pt vs k2 p2 hs
      rw [Bool.and_eq_true_iff] at h
      exact s_asg (ih1 _ _ h.2) (tgs h.1) rfl (swp_ok (by rw [g.hsc]; exact g.kind) (by rw [g.hsc]; exact hs)) rfl
    · rename_i ts kt pt vs k2 p2 _ ns hs
      rw [Bool.and_eq_true_iff] at h
      exact par_sound g hs h.1 h.2
    · cases h
  · rename_i ts kt pt hne
    simp only [Bool.and_eq_true] at h
    obtain ⟨h2, h3⟩ := h
    refine s_asg (ih1 _ _ h3) (tgs h2) (by cases a <;> rfl) ?_ rfl
    cases a <;> first | rfl | exact (hne _ _ _ rfl).elim
  · rename_i y py
    simp only [Bool.and_eq_true, Bool.or_eq_true] at h
    rcases h with ⟨⟨h1, h2⟩, h3⟩ | h
    · exact s_asg (ih1 _ _ h3) (tgs h1) (swaps_sole h2) rfl rfl
    · unfold lcB at h
      split at h
      · rename_i y py x tg iter ifs scope p i mt gt it c elt hq
        cases hq
        simp only [compB, Bool.and_eq_true, decide_eq_true_eq] at h
        obtain ⟨⟨h0, ⟨⟨h7, h8⟩, h9⟩⟩, ⟨⟨⟨⟨⟨h1, h2⟩, h3⟩, h4⟩, h5⟩, h6⟩⟩ := h
        have hyl : X.env.scope.names.lookup y = some .local := by rw [g.hsc]; exact bq h7
        have ok : BlkOk X.N X.env.scope scope (tgOwn gt tg) := by rw [g.hN, g.hsc]; exact blkOk_by h1
        refine s_setLc g.calm g.nd (by rw [g.hN]; exact h0) hyl ?_ (pi_sound g ih1 h6) ok (own_ixs h2) (fun s H C cl fp => ?_) (fun s H C cl fp => ?_) (fun s H C cl fp => ?_) (noset_fold h3)
        · rw [swaps_lc (by rw [g.hsc]; exact g.kind)]
          have e1 : X.env.kindOf y = some .local := hyl
          rw [e1, h8, h9]; rfl
        · exact tg_sound (X := X.blk s H scope (compEnvC scope cl C X.env) fp) (ga := ga) g.calm g.nd (fun x hx => sto_blk s H C cl fp x hx) (by show tgB X.N scope gt tg = true; rw [g.hN]; exact h2)
        · have gb := g.blk ok.kind s H C cl fp
          split at h5
          · exact pts_no (X := X.blk s H scope (compEnvC scope cl C X.env) fp) (ga := ga)
          · exact pts_so (X := X.blk s H scope (compEnvC scope cl C X.env) fp) (ga := ga) (sound k _ _ _ _ gb h5).2
          · cases h5
        · exact (sound k _ _ _ _ (g.blk ok.kind s H C cl fp) h4).1
      · cases h
  · cases h
theorem all2_ss {f : Stmt → S → Bool} (hf : ∀ st s, f st s = true → PS X st (rdS (ctx X ga) F s)) : ∀ {xs : List Stmt} {ss : List S}, all2 f xs ss = true → PSs X xs (rdSs (ctx X ga) F ss)
  | [], [], _ => ss_nil
  | x :: xs, e :: es, h2 => by
    unfold all2 at h2
    rw [Bool.and_eq_true_iff] at h2
    exact ss_cons (hf x e h2.1) (all2_ss hf h2.2)
  | [], _ :: _, h => by cases h
  | _ :: _, [], h => by cases h
theorem noslice_set {x y : Expr} {p : Pos} {env : Env} (h : noSlice y = true) : ∀ v, assign (.Subscript x y p) env v = (do
      let ov ← holding [v] (eval x env)
      let iv ← holding [v, ov] (eval y env)
      standAt p
      holding [v, ov, iv] (setItem ov iv v)
      release [v, ov, iv] []) := by
  intro v
  cases y <;> first | rfl | cases h
theorem noslice_aug {y : Expr} (h : noSlice y = true) : ∀ ov iv new, augStore y ov iv new = (do holding [new, ov, iv] (setItem ov iv new); release [new, ov, iv] []; pure .next) := by
  intro ov iv new
  cases y <;> first | rfl | cases h
theorem soundS (g : Gd n F ga kk sc N X) (hf : ∀ x, X.fn x = true) : ∀ (k : Nat) (st : Stmt) (s : S), chkS n N k sc st s = true → PS X st (rdS (ctx X ga) F s)
  | 0, _, _, h => by cases h
  | k + 1, st, s, h => by
    have ih := fun e ee h => sound (n := n) (F := F) (ga := ga) (kk := kk) (N := N) k sc X e ee g h
    have ih1 := fun e ee h => (ih e ee h).1
    have ihs := fun st s h => soundS g hf k st s h
    unfold chkS at h
    split at h
    · split at h
      · rw [Bool.and_eq_true_iff] at h
        exact s_expr (ih1 _ _ h.2) (swaps_no h.1)
      · cases h
    · split at h
      · exact asg_sound g hf h
      · cases h
    · cases h
    · split at h
      · simp only [Bool.and_eq_true] at h
        obtain ⟨⟨⟨⟨h1, h2⟩, h3⟩, h4⟩, h5⟩ := h
        refine s_six (ih1 _ _ h3) (ih1 _ _ h4) (ih1 _ _ h5) ?_ (swaps_sole h2)
        rename_i x y p a pos
        intro v
        cases y <;> first | rfl | cases h1
      · cases h
    · split at h
      · simp only [Bool.and_eq_true] at h
        obtain ⟨⟨⟨⟨h1, h2⟩, h3⟩, h4⟩, h5⟩ := h
        exact s_dset g.hu (ih1 _ _ h3) (ih1 _ _ h4) (ih1 _ _ h5) (noslice_set h1) (swaps_sole h2)
      · cases h
    · split at h
      · simp only [Bool.and_eq_true, decide_eq_true_eq] at h
        obtain ⟨⟨⟨h1, h2⟩, h3⟩, h4⟩ := h
        subst h1
        exact s_aug g.nd (by rw [g.hN]; exact h3) (sto_def g hf _ h2) (ih1 _ _ h4)
      · cases h
    · split at h
      · simp only [Bool.and_eq_true, decide_eq_true_eq] at h
        obtain ⟨⟨⟨⟨h1, h2⟩, h3⟩, h4⟩, h5⟩ := h
        subst h1
        exact s_augx (ih1 _ _ h3) (ih1 _ _ h4) (ih1 _ _ h5) (noslice_aug h2)
      · cases h
    · split at h
      · exact s_ret (ih1 _ _ h)
      · cases h
    · split at h
      · exact s_ret0
      · cases h
    · split at h
      · simp only [Bool.and_eq_true] at h
        obtain ⟨⟨h1, h2⟩, h3⟩ := h
        exact s_ite (ih _ _ h1).2 (all2_ss ihs h2) (all2_ss ihs h3)
      · cases h
    · split at h
      · simp only [Bool.and_eq_true] at h
        obtain ⟨⟨⟨h1, h2⟩, h3⟩, h4⟩ := h
        exact s_for g.passes g.calm (pi_sound g ih1 h3) (tg_sound g.calm g.nd (sto_def g hf) (by rw [g.hN]; exact h1)) (all2_ss ihs h4) (noset_fold h2)
      · cases h
    · split at h
      · simp only [Bool.and_eq_true] at h
        exact s_while g.passes (ih _ _ h.1).2 (all2_ss ihs h.2)
      · cases h
    · split at h
      · exact s_pass
      · cases h
    · split at h
      · exact s_brk
      · cases h
    · split at h
      · exact s_cont
      · cases h
    · exact s_never
end
end SG
namespace SG
open PySem PySem.Spec PyProof.Rows L2
/-! ### the defs of a text -/
structure FDef where
  ps : List Str
  N : List Str
  body : List S
def startP (N : List Str) (vs : List PV) : Rho := vs.map some ++ List.replicate (N.length - vs.length) none
def fnEnds (Q : Q1) : SG.Ends := ⟨fun _ M => Q .non M, Q, fun _ _ => False, fun _ _ => False⟩
def callN (T : List (Str × FDef)) : Nat → FS
  | 0 => fun _ _ _ _ => False
  | k + 1 => fun f vs M Q => ∃ d, T.lookup f = some d ∧ vs.length = d.ps.length ∧ wpSs (callN T k) d.body (startP d.N vs) M (fnEnds Q)
theorem callN_mono (T : List (Str × FDef)) : ∀ k, FMono (callN T k)
  | 0 => fun f vs M Q Q' _ h => h
  | k + 1 => fun f vs M Q Q' i ⟨d, h1, h2, h3⟩ => ⟨d, h1, h2, wpSs_mono (callN_mono T k) _ _ _ (fnEnds Q) (fnEnds Q') ⟨fun _ _ q => i _ _ q, fun _ _ q => i _ _ q, fun _ _ q => q, fun _ _ q => q⟩ h3⟩
theorem callN_iff {T : List (Str × FDef)} {k : Nat} {f : Str} {vs : List PV} {M : Sto} {Q : Q1} {d : FDef} (h : T.lookup f = some d) : callN T (k + 1) f vs M Q ↔ (vs.length = d.ps.length ∧ wpSs (callN T k) d.body (startP d.N vs) M (fnEnds Q)) :=
  ⟨fun ⟨d', h1, h2⟩ => by rw [h] at h1; cases h1; exact h2, fun h2 => ⟨d, h, h2⟩⟩
structure DefOk (K : PySem.W.Frag) (n : Nfo) (f : Str) (d : FDef) (a : Addr) : Prop where
  ok : ∃ (params : Arguments) (body : List Stmt) (scope : Scope) (fd : FuncData) (k : Nat), FunD K f f params body scope [] [] a fd ∧ FnScope d.N d.ps scope ∧
    (∀ (kV doc pm : Value) (an : Option Addr) (cdv ct : Value) (us : List Value), us.length = d.ps.length → bindArgs (PySem.W.fnOf f f params body scope .none kV doc pm an cdv ct) ⟨us, []⟩ = pure (d.ps.zip us)) ∧
    all2 (chkS n d.N k scope) body d.body = true
structure Tab (P : Program) (w : World) (K : PySem.W.Frag) (mg : Str → Option Value) (n : Nfo) (T : List (Str × FDef)) (ga : Str → Option Addr) : Prop where
  fns : n.fns = T.map (·.1)
  def_ : ∀ f d, T.lookup f = some d → ∃ a, ga f = some a ∧ mg f = some (.ref a) ∧ DefOk K n f d a
  known : ∀ f a, ga f = some a → f ∈ n.fns
  cns : ∀ c v, n.cns.lookup c = some v → ∃ x u, mg c = some u ∧ RelV x u ∧ ∀ H M Z, Rep ⟨P, w, K, ga⟩ H M Z v x
  blt : ∀ b ∈ bltNames, mg b = none
  sys : ∃ o, K.lookup sysModules = some o ∧ o.cls = .type "dict"
theorem lookup_has {α : Type} {f : Str} : ∀ {T : List (Str × α)}, f ∈ T.map (·.1) → ∃ d, T.lookup f = some d
  | [], h => by cases h
  | (g, d) :: r, h => by
    by_cases e : f = g
    · subst e; exact ⟨d, by simp [List.lookup]⟩
    · have h' : f ∈ r.map (·.1) := by
        rcases List.mem_cons.mp h with q | q
        · exact absurd q e
        · exact q
      obtain ⟨x, hx⟩ := lookup_has h'
      refine ⟨x, ?_⟩
      unfold List.lookup
      rw [show (f == g) = false from beq_eq_false_iff_ne.mpr e]
      exact hx
theorem lookup_in {α : Type} {f : Str} {d : α} : ∀ {T : List (Str × α)}, T.lookup f = some d → f ∈ T.map (·.1)
  | [], h => by cases h
  | (g, x) :: r, h => by
    unfold List.lookup at h
    by_cases e : f = g
    · exact List.mem_cons.mpr (.inl e)
    · rw [show (f == g) = false from beq_eq_false_iff_ne.mpr e] at h
      exact List.mem_cons.mpr (.inr (lookup_in h))
theorem env_start {C : Ctx} {H : Hp} {M : Sto} {Z : Addr → Prop} {vs : List PV} {xs : List V} (N : List Str) (r : RepL C H M Z vs xs) : EnvR C H M Z (startP N vs) (L2.start N xs) := by
  have hl : vs.length = xs.length := r.length
  refine ⟨by unfold startP L2.start; simp [hl], fun i v h => ?_⟩
  unfold startP at h
  by_cases hi : i < vs.length
  · rw [List.getElem?_append_left (by simpa using hi), List.getElem?_map] at h
    cases e : vs[i]? with
    | none => rw [e] at h; cases h
    | some y =>
      rw [e] at h; cases h
      obtain ⟨x, hx, rx⟩ := r.get e
      refine ⟨x, ?_, rx⟩
      unfold L2.start
      rw [List.getElem?_append_left (by rw [List.length_map]; omega), List.getElem?_map, hx]
      rfl
  · rw [List.getElem?_append_right (by simpa using hi), List.getElem?_replicate] at h
    split at h <;> cases h
section
variable {P : Program} {w : World} {K : PySem.W.Frag} {mg : Str → Option Value} {n : Nfo} {T : List (Str × FDef)} {ga : Str → Option Addr}
theorem all_sound {X : Cx} {F : FS} {kk k : Nat} {sc : Scope} {N : List Str} {xs : List Stmt} {ss : List S} (g : Gd n F ga kk sc N X) (hf : ∀ x, X.fn x = true) (h : all2 (chkS n N k sc) xs ss = true) : PSs X xs (rdSs (ctx X ga) F ss) :=
  all2_ss (fun st s q => soundS g hf k st s q) h
theorem Tab.fn (t : Tab P w K mg n T ga) (base : Heap) : ∀ (k : Nat) (f : Str) (a : Addr), ga f = some a → FnG P w K mg base ga k a (callN T k f)
  | 0, f, a, h => by
    have hm := t.known f a h
    rw [t.fns] at hm
    obtain ⟨d, hd⟩ := lookup_has hm
    obtain ⟨a', e1, _, D⟩ := t.def_ f d hd
    rw [h] at e1; cases e1
    obtain ⟨_, _, _, _, _, F, _⟩ := D.ok
    refine ⟨F.kp, fun A outer s H us vs Q hr e0 r q => ?_⟩
    obtain ⟨_, _, _, _, _, _, q, _⟩ := q
    exact q.elim
  | k + 1, f, a, h => by
    have hm := t.known f a h
    rw [t.fns] at hm
    obtain ⟨d, hd⟩ := lookup_has hm
    obtain ⟨a', e1, _, D⟩ := t.def_ f d hd
    rw [h] at e1; cases e1
    obtain ⟨params, body, scope, fd, kc, F, S, hbd, hck⟩ := D.ok
    refine ⟨F.kp, fun A outer s H us xs Q hr e0 r q => ?_⟩
    obtain ⟨vs, M, Z, Q', sr, rl, ⟨d', hd', hlen, hw⟩, cl⟩ := q
    rw [hd] at hd'; cases hd'
    have lv : vs.length = xs.length := rl.length
    have lu : xs.length = us.length := r.length
    obtain ⟨oc, od, dV, kV, doc, pm, an, cdv, ct, osl, rfl, lk, hcd, hD, _⟩ := F.ex
    have hdV : dV = .none := by
      rcases hD with ⟨_, z⟩ | ⟨z, _⟩
      · exact z
      · exact absurd rfl z
    subst hdV
    have KX : K.In s.heap := e0.mod.kin.keeps fun b o e => (e0.bs b o e).1
    have lim : s.heap.NoLimit := e0.mod.nolimit.keeps fun b o e => (e0.bs b o e).1
    have hb : BindsTo s (PySem.W.fnOf f f params body scope .none kV doc pm an cdv ct) ⟨us, []⟩ (d.ps.zip us) := .of_eq (hbd kV doc pm an cdv ct us (by omega))
    have kinds : ∀ y ∈ d.ps.zip us, scope.names.lookup y.1 = some .local ∨ (scope.names.lookup y.1 = some .cell ∧ ((cellsFrom (s.heap.objs.size + 1) scope.names []).lookup y.1).isSome = true) := fun y hy => by
      obtain ⟨m, v⟩ := y
      rcases S.par m (List.of_mem_zip hy).1 with z | z
      · exact .inl z
      · exact .inr ⟨z, PySem.W.cellsFrom_some _ _ _ (.inl z)⟩
    refine codeAny_call_function hr.room.depth (KX _ _ lk) rfl S.co S.gen rfl (PySem.W.codeRec_of KX hcd) (hb _ _ _ _ ?_)
    refine wpAny_newFunctionEnv_cells S.kind kinds fun env he s1 x => ?_
    subst he
    refine ⟨lim.keeps x.toInCall.keep, codeAny_func ?_⟩
    have hrd := hr.room.deeper (envOfC f scope s.heap.objs.size a cdv)
    have I : L2.Inv (cxOf CX0 P w K mg base d.N f scope a cdv A outer s H E0) [] (start d.N xs) H s1 := inv_start S hr.room.hd e0 (by omega) r x
    have gd : Gd n (callN T k) ga k scope d.N (cxOf CX0 P w K mg base d.N f scope a cdv A outer s H E0).nox := by
      refine ⟨rfl, rfl, S.kind, rfl, S.nd, rfl, ⟨hrd, hr.gd⟩, fun g hg => ?_, fun g ys M' Q'' hq => ?_, t.known, t.cns, t.blt, callN_mono T k, t.sys⟩
      · rw [t.fns] at hg
        obtain ⟨e, he⟩ := lookup_has hg
        obtain ⟨b, h1, h2, _⟩ := t.def_ g e he
        exact ⟨b, h1, h2, t.fn base k g b h1⟩
      · cases k with
        | zero => exact hq.elim
        | succ k =>
          obtain ⟨e, he, _⟩ := hq
          rw [t.fns]
          exact lookup_in he
    have hps := (all_sound gd (fun _ => rfl) hck).nox
    have hpre : rdSs ⟨P, w, K, ga⟩ (callN T k) d.body { nx := fun _ H' => Q .non H', rt := Q } (start d.N xs) H :=
      ⟨startP d.N vs, M, Z, fnEnds Q', sr, env_start d.N rl, hw, ⟨fun ρ σ H' M' Z' xx r' _ q' => cl _ _ H' M' Z' xx r' .non q', fun v y H' M' Z' xx r' rv q' => cl _ _ H' M' Z' xx r' rv q', fun _ _ _ _ _ _ _ _ q' => q'.elim, fun _ _ _ _ _ _ _ _ q' => q'.elim⟩⟩
    refine wpAny_mono (hps.run [] s1 (start d.N xs) H _ I hpre) (fun fl s' hs => ?_) fun e s' hs => hs
    cases fl with
    | ret u =>
      obtain ⟨v, σ', H', J, rv, q⟩ := hs
      exact ⟨v, H', J.os, J.bare, J.base, J.hok, rv, q⟩
    | next =>
      obtain ⟨σ', H', J, q⟩ := hs
      exact ⟨V.non, H', J.os, J.bare, J.base, J.hok, (rfl : RelV V.non Value.none), q⟩
    | brk =>
      obtain ⟨_, _, _, q⟩ := hs
      exact q.elim
    | cont =>
      obtain ⟨_, _, _, q⟩ := hs
      exact q.elim
end
/-! ### the law's call -/
theorem rep_ints {C : Ctx} {H : Hp} {M : Sto} {Z : Addr → Prop} : ∀ ns : List Int, RepL C H M Z (ns.map PV.int) (ns.map V.int)
  | [] => .nil
  | i :: r => .cons (.int i) (rep_ints r)
def noSto : Sto := fun _ => none
theorem lawCall {P : Program} {w : World} {K : PySem.W.Frag} {mg mb : Str → Option Value} {ga : Str → Option Addr} {k : Nat} {fa a : Addr} {g : List PV → Sto → Q1 → Prop} {t0 : Shared} {vs : List Value} {ns : List Int}
    (KX : K.In t0.heap) (hns : t0.heap.Ns mainGlobals mg) (hb : t0.heap.Ns builtinsNs mb) (hbb : ∀ x : Str, x ≠ "__name__" → mb x = bootBuiltins x) (hlim : t0.heap.NoLimit) (hg : t0.gens = #[])
    (ha : t0.heap.get? a = some { cls := .type "list", data := .seq vs.toArray }) (hi : IntsAre vs ns) (hl : ns.length ≤ sizeLine) (hr : Rm k callerA)
    (F : ∀ base : Heap, K.In base → base.Ns mainGlobals mg → FnG P w K mg base ga k fa g) (hsp : g [.lst (ns.map .int)] noSto (fun v _ => v = .bl true)) :
    codeAny (model P w) callerA (.call (.ref fa) ⟨[.ref a], []⟩) (fun r t => r = .ok (.ret (.bool true)) ∧ OldK t0.heap t.heap ∧ t.os = t0.os ∧ AllBare t.gens) t0 := by
  have rv := vals_ints hi
  have lenV := hi.length
  have core : ∀ G : Hp, Only G → ((∃ o, G a = some (.frz o (.lst (ns.map V.int)))) ∨ KLst K a (ns.map V.int)) → HOk P w G t0.heap → (∀ b, G b ≠ none → b = a) → (G a ≠ none → K.lookup a = none) →
      codeAny (model P w) callerA (.call (.ref fa) ⟨[.ref a], []⟩) (fun r t => r = .ok (.ret (.bool true)) ∧ OldK t0.heap t.heap ∧ t.os = t0.os ∧ AllBare t.gens) t0 := by
    intro G gO gS gok gA gK
    have at_a : ∀ {b : Addr}, G b ≠ none → b = a := fun {b} z => gA b z
    have lies : ∀ {b : Addr} {o : Obj}, t0.heap.get? b = some o → G b = none → (hidT t0.heap G).get? b = some o := fun e z => hidT_get e z
    have noDict : ∀ {b : Addr} {o : Obj} {es : Array DictEntry} {ep : Nat}, t0.heap.get? b = some o → o.data = .dict es ep → G b = none := fun {b o es ep} e dd => by
      refine Classical.byContradiction fun z => ?_
      rw [at_a z, ha] at e
      cases e
      have z' : Data.seq vs.toArray _ = Data.dict es ep := dd
      cases z'
    have nsG : ∀ {b : Addr} {m : Str → Option Value}, t0.heap.Ns b m → (hidT t0.heap G).Ns b m := fun {b m} z => by
      obtain ⟨o, es, ep, e, dd, rr⟩ := z
      exact ⟨o, es, ep, lies e (noDict e dd), dd, rr⟩
    have kG : K.In (hidT t0.heap G) := fun b o e => lies (KX b o e) (Classical.byContradiction fun z => by
      have e' := at_a z
      rw [e'] at e z
      rw [gK z] at e
      cases e)
    obtain ⟨mc, c1, c2⟩ := hlim
    have env0 : Env0 P w K mg (hidT t0.heap G) callerA [] t0 G := ⟨rfl, ⟨kG, nsG hns, ⟨mb, nsG hb, hbb⟩, ⟨mc, nsG c1, c2⟩⟩, fun b o e => of_hidT e, Nat.le_of_eq (hidT_size _ _), trivial, fun b z => absurd (show b ∈ ([] : List Addr) from z) (by simp), gok, .of_eq hg⟩
    have pre : rc ⟨P, w, K, ga⟩ g [.ref a] G (fun v _ => v = .bl true) :=
      ⟨[.lst (ns.map .int)], noSto, fun _ => False, _, ⟨fun b o z => (by cases z), fun b z => z.elim⟩, .cons (.lr gS (rep_ints ns)) .nil, hsp, fun v x H' M' Z' _ _ rv' q => by subst q; exact rv'.bl_inv⟩
    refine codeAny_mono ((F _ kG (nsG hns)).run callerA [] t0 G [.ref a] [.ref a] _ hr env0 (.cons rfl .nil) pre) fun r t h => ?_
    cases r with
    | error e => exact h.elim
    | ok fl =>
      cases fl with
      | next => exact False.elim h
      | brk => exact False.elim h
      | cont => exact False.elim h
      | ret u =>
        obtain ⟨v, G', os, bare, un, gok', r', q⟩ := h
        have q' : v = .bl true := q
        subst q'
        obtain rfl : u = Value.bool true := r'
        refine ⟨rfl, OldK.of_keep fun b o e => ?_, os, bare⟩
        by_cases z : G b = none
        · exact un.keep b o e z (fun z => absurd (show b ∈ ([] : List Addr) from z) (by simp)) (by simp)
        · rcases gO b with z1 | ⟨ob, ys, z1⟩
          · exact absurd z1 z
          · have z2 := un.frzs b ob _ z1
            have e1 := (gok b _ z1).1
            have e2 := (gok' b _ z2).1
            rw [e] at e1; cases e1
            exact e2
  by_cases hk : K.lookup a = none
  · refine core (fun b => if b = a then some (.frz { cls := .type "list", data := .seq vs.toArray } (.lst (ns.map V.int))) else none) (fun b => ?_) (.inl ⟨{ cls := .type "list", data := .seq vs.toArray }, if_pos rfl⟩) (fun b u z => ?_) (fun b z => ?_) fun _ => hk
    · by_cases e : b = a
      · exact .inr ⟨_, _, if_pos e⟩
      · exact .inl (if_neg e)
    · by_cases e : b = a
      · have z' := (if_pos e).symm.trans z
        cases z'
        subst e
        exact ⟨ha, by rw [List.length_map]; exact hl, vs, _, rv, ha⟩
      · have z' := (if_neg e).symm.trans z
        cases z'
    · exact Classical.byContradiction fun e => z (if_neg e)
  · obtain ⟨o, hk⟩ := Option.ne_none_iff_exists'.mp hk
    have e := KX a o hk
    rw [ha] at e
    cases e
    exact core (fun _ => none) (fun _ => .inl rfl) (.inr ⟨vs.toArray, _, hk, by rw [List.size_toArray, lenV]; exact hl, by simpa using rv⟩) (fun b u z => by cases z) (fun b z => absurd rfl z) fun z => absurd rfl z
theorem walkG {l : PySem.W.OpenLaw} {n k : Nat} {q : Program} {loose : List Str} {XP : (Str → Option Value) → Heap → Prop} {YP : World → Heap → Prop} {d : DefRec}
    (hn : l.most = some n) (hn2 : n ≤ sizeLine) (hdf : d.params.defaults = []) (hr : Room k callerA)
    (F : ∀ (w : World) (mg : Str → Option Value) (fa : Addr) (h : Heap), YP w h → h.Ns mainGlobals mg → mg d.name = some (.ref fa) →
      ∃ (K : PySem.W.Frag) (ga : Str → Option Addr) (g : List PV → Sto → Q1 → Prop), K.In h ∧ (∀ ns : List Int, ns.length ≤ n → g [.lst (ns.map .int)] noSto (fun v _ => v = .bl true)) ∧
        ∀ base : Heap, K.In base → base.Ns mainGlobals mg → FnG l.prog w K mg base ga k fa g) :
    PySem.W.WalkO q loose XP YP l.row.toRowW d [] (fun f vs => PySem.call f vs) := by
  refine Att.attach_call hn hdf fun w s₀ t0 mg mb fa o pm cd doc a vs ns G Y ho hd hcd hmg hobj hints hlen hg => ?_
  obtain ⟨K, ga, g, KX, hsp, hF⟩ := F w mg fa _ Y G.T.g hmg
  exact lawCall KX G.T.g G.T.b G.T.builtins G.T.nolimit hg hobj hints (Nat.le_trans hlen hn2) ⟨hr, rfl⟩ hF (hsp ns hlen)
end SG
namespace SG
open PySem PySem.Spec PyProof.Rows L2
/-- a def of the text: its row, its form in the small language -/
structure Src where
  nm : Str
  st : Stmt
  d : FDef
structure SrcOk (n : Nfo) (s : Src) : Prop where
  sc : FnScope s.d.N s.d.ps (defScope s.st)
  bd : ∀ (kV doc pm : Value) (an : Option Addr) (cdv ct : Value) (us : List Value), us.length = s.d.ps.length → bindArgs (PySem.W.fnOf s.nm s.nm (defArgs s.st) (defBody s.st) (defScope s.st) .none kV doc pm an cdv ct) ⟨us, []⟩ = pure (s.d.ps.zip us)
  ck : all2 (chkS n s.d.N 400 (defScope s.st)) (defBody s.st) s.d.body = true
def Src.dd (s : Src) : He.DefD := ⟨(s.nm, none), s.nm, s.nm, defArgs s.st, defBody s.st, defScope s.st, [], []⟩
def faC : Str × PV → He.Fa
  | (x, .int i) => .int x i
  | (x, .str z) => .str x z
  | (x, _) => .glo x
/-- a flat thing as the head tells it -/
def dvO : PV → Option He.Dv
  | .non => some .non
  | .bl b => some (.bl b)
  | .int i => some (.int i)
  | .str x => some (.str x)
  | _ => none
def dvL : List PV → Option (List He.Dv)
  | [] => some []
  | x :: r => match dvO x, dvL r with
    | some d, some ds => some (d :: ds)
    | _, _ => none
def okC : Str × PV → Bool
  | (_, .int _) => true
  | (_, .str _) => true
  | (_, .tup xs) => (dvL xs).isSome
  | _ => false
/-- the tuples among the constants -/
def tbL : List (Str × PV) → List (Str × List He.Dv)
  | [] => []
  | (x, .tup xs) :: r => (match dvL xs with
    | some ds => (x, ds) :: tbL r
    | none => tbL r)
  | _ :: r => tbL r
theorem tb_mem {x : Str} {xs : List PV} {ds : List He.Dv} (hd : dvL xs = some ds) : ∀ {l : List (Str × PV)}, (x, PV.tup xs) ∈ l → (x, ds) ∈ tbL l
  | [], h => by cases h
  | (y, v) :: r, h => by
    rcases List.mem_cons.mp h with e | h
    · cases e
      unfold tbL
      rw [hd]
      exact List.mem_cons_self
    · have ih := tb_mem hd h
      unfold tbL
      split
      · rename_i e; cases e
      · rename_i e
        cases e
        split
        · exact List.mem_cons_of_mem _ ih
        · exact ih
      · rename_i e
        cases e
        exact ih
theorem dv_rep {C : Ctx} {H : Hp} {M : Sto} {Z : Addr → Prop} {K : PySem.W.Frag} : ∀ {xs : List PV} {ds : List He.Dv}, dvL xs = some ds → RepL C H M Z xs (ds.map (He.Dv.v K))
  | [], _, e => by
    cases e
    exact .nil
  | x :: r, ds, e => by
    unfold dvL at e
    cases e1 : dvO x with
    | none => rw [e1] at e; cases e
    | some d =>
      cases e2 : dvL r with
      | none => rw [e1, e2] at e; cases e
      | some dr =>
        rw [e1, e2] at e
        cases e
        refine .cons ?_ (dv_rep e2)
        cases x <;> cases e1
        · exact .non
        · exact .bl _
        · exact .int _
        · exact .str _
/-- the head's facts, and its constant tuples -/
abbrev AlT : Type := Bool × He.AlD
/-- the dict of modules lies among what the head holds -/
def sysB (K : PySem.W.Frag) : Bool := match K.lookup sysModules with
  | some o => match o.cls with
    | .type t => t == "dict"
    | _ => false
  | none => false
theorem sysB_ok {K : PySem.W.Frag} (h : sysB K = true) : ∃ o, K.lookup sysModules = some o ∧ o.cls = .type "dict" := by
  unfold sysB at h
  cases e : K.lookup sysModules with
  | none => rw [e] at h; cases h
  | some o =>
    rw [e] at h
    refine ⟨o, rfl, ?_⟩
    dsimp only at h
    split at h
    · rename_i t q
      rw [q, beq_iff_eq.mp h]
    · cases h
def obsT (tb : List (Str × List He.Dv)) (fa : List He.Fa) (fn : List He.DefD) (K : PySem.W.Frag) : AlT := (sysB K && tb.all fun q => He.tupB K q.1 q.2, He.obsD fa fn K)
def obsTG (n : Nat) (tb : List (Str × List He.Dv)) (fa : List He.Fa) (fn : List He.DefD) (g : Addr → Option Obj) : AlT := obsT tb fa fn (He.frG g (sysModules :: He.asD g n))
def SaysT (tb : List (Str × List He.Dv)) (fa : List He.Fa) (fn : List He.DefD) (K : PySem.W.Frag) : Prop := obsT tb fa fn K = (true, He.valD fn)
def hookT (n : Nat) (tb : List (Str × List He.Dv)) (fa : List He.Fa) (fn : List He.DefD) : PySem.W.Hook where
  α := AlT
  obs := fun s => obsTG n tb fa fn s.heap.get?
  val := fun _ => (true, He.valD fn)
  says := fun _ h => ∃ K : PySem.W.Frag, K.In h ∧ SaysT tb fa fn K
  of := fun _ _ e => ⟨_, He.frG_in, e⟩
  keeps := fun _ _ _ ⟨K, hK, c⟩ k => ⟨K, PySem.W.Frag.In.keeps hK k, c⟩
theorem obsTG_eq {n : Nat} {tb : List (Str × List He.Dv)} {fa : List He.Fa} {fn : List He.DefD} {g : Addr → Option Obj} {s : Shared} (h : ∀ a, g a = s.heap.get? a) : obsTG n tb fa fn g = (hookT n tb fa fn).obs s := by
  have e : g = s.heap.get? := funext h
  rw [e]
  rfl
def tabT (L : List Src) : List (Str × FDef) := L.map fun s => (s.nm, s.d)
def faL (L : List Src) (cns : List (Str × PV)) : List He.Fa := (L.map fun s => He.Fa.glo s.nm) ++ (bltNames.map He.Fa.free ++ cns.map faC)
def fnL (L : List Src) : List He.DefD := L.map Src.dd
def gaL (L : List Src) (K : PySem.W.Frag) (f : Str) : Option Addr := if f ∈ L.map (·.nm) then some (He.ga K f) else none
theorem tab_lookup {f : Str} {d : FDef} : ∀ {L : List Src}, (tabT L).lookup f = some d → ∃ s ∈ L, s.nm = f ∧ s.d = d
  | [], h => by cases h
  | s :: r, h => by
    unfold tabT at h
    rw [List.map_cons] at h
    unfold List.lookup at h
    by_cases e : f = s.nm
    · rw [show (f == s.nm) = true from beq_iff_eq.mpr e] at h
      exact ⟨s, List.mem_cons_self .., e.symm, Option.some.inj h⟩
    · rw [show (f == s.nm) = false from beq_eq_false_iff_ne.mpr e] at h
      obtain ⟨t, h1, h2⟩ := tab_lookup (L := r) h
      exact ⟨t, List.mem_cons_of_mem _ h1, h2⟩
theorem cns_lookup {c : Str} {v : PV} : ∀ {l : List (Str × PV)}, l.lookup c = some v → (c, v) ∈ l
  | [], h => by cases h
  | (x, u) :: r, h => by
    unfold List.lookup at h
    by_cases e : c = x
    · rw [show (c == x) = true from beq_iff_eq.mpr e] at h
      cases h
      rw [e]
      exact List.mem_cons_self ..
    · rw [show (c == x) = false from beq_eq_false_iff_ne.mpr e] at h
      exact List.mem_cons_of_mem _ (cns_lookup h)
theorem says_fact {fa : List He.Fa} {fn : List He.DefD} {K : PySem.W.Frag} (c : He.SaysD fa fn K) {f : He.Fa} (h : f ∈ fa) : f.ok K = true := by
  obtain ⟨i, hi⟩ := List.mem_iff_getElem?.mp h
  exact c.fact i hi
theorem says_def {fa : List He.Fa} {fn : List He.DefD} {K : PySem.W.Frag} (c : He.SaysD fa fn K) {d : He.DefD} (h : d ∈ fn) : ∃ fd, FunD K d.name d.qual d.params d.body d.scope (d.dvs K) (d.kws K) (He.fAd K d.at_) fd := by
  obtain ⟨i, hi⟩ := List.mem_iff_getElem?.mp h
  exact c.def_ i hi
theorem tab_of {P : Program} {w : World} {K : PySem.W.Frag} {h : Heap} {mg : Str → Option Value} {L : List Src} {cns : List (Str × PV)} (X : K.In h) (G : h.Ns mainGlobals mg) (c : He.SaysD (faL L cns) (fnL L) K) (cs : sysB K = true) (ct : ∀ q ∈ tbL cns, He.tupB K q.1 q.2 = true)
    (ok : ∀ s ∈ L, SrcOk ⟨L.map (·.nm), cns⟩ s) (hc : cns.all okC = true) : Tab P w K mg ⟨L.map (·.nm), cns⟩ (tabT L) (gaL L K) where
  fns := by unfold tabT; rw [List.map_map]; rfl
  def_ := fun f d hf => by
    obtain ⟨s, hs, rfl, rfl⟩ := tab_lookup hf
    have hg : mg s.nm = some (.ref (He.ga K s.nm)) := He.glo_ok X G (says_fact c (f := .glo s.nm) (List.mem_append_left _ (List.mem_map.mpr ⟨s, hs, rfl⟩)))
    obtain ⟨fd, F⟩ := says_def c (d := s.dd) (List.mem_map.mpr ⟨s, hs, rfl⟩)
    have o := ok s hs
    exact ⟨He.ga K s.nm, if_pos (List.mem_map.mpr ⟨s, hs, rfl⟩), hg, ⟨defArgs s.st, defBody s.st, defScope s.st, fd, 400, F, o.sc, o.bd, o.ck⟩⟩
  known := fun f a hf => by
    unfold gaL at hf
    split at hf
    · assumption
    · cases hf
  cns := fun x v hx => by
    have hm := cns_lookup hx
    have hk := List.all_eq_true.mp hc _ hm
    have hf := says_fact c (f := faC (x, v)) (List.mem_append_right _ (List.mem_append_right _ (List.mem_map.mpr ⟨(x, v), hm, rfl⟩)))
    cases v with
    | int i =>
      obtain ⟨t, e⟩ := He.int_ok X G hf
      exact ⟨.int i, .int i t, e, ⟨t, rfl⟩, fun H M Z => .int i⟩
    | str z =>
      obtain ⟨t, e⟩ := He.str_ok X G hf
      exact ⟨.str z, .str z t, e, ⟨t, rfl⟩, fun H M Z => .str z⟩
    | tup xs =>
      obtain ⟨ds, hds⟩ := Option.isSome_iff_exists.mp (show (dvL xs).isSome = true from hk)
      have e : mg x = some (.ref (He.ga K x)) := He.glo_ok X G hf
      have tb := ct _ (tb_mem hds hm)
      exact ⟨.ref (He.ga K x), .ref (He.ga K x), e, rfl, fun H M Z => .tup (He.tupB_ok tb H) (dv_rep hds)⟩
    | _ => cases hk
  sys := sysB_ok cs
  blt := fun b hb => He.free_ok X G (says_fact c (f := .free b) (List.mem_append_right _ (List.mem_append_left _ (List.mem_map.mpr ⟨b, hb, rfl⟩))))
/-- the law's promise from its text -/
theorem law_of {l : PySem.W.OpenLaw} {n k : Nat} {q : Program} {loose : List Str} {XP : (Str → Option Value) → Heap → Prop} {d : DefRec} {L : List Src} {cns : List (Str × PV)} {m : Nat}
    (hn : l.most = some n) (hn2 : n ≤ sizeLine) (hdf : d.params.defaults = []) (hr : Room k callerA) (hd : d.name ∈ L.map (·.nm)) (ok : ∀ s ∈ L, SrcOk ⟨L.map (·.nm), cns⟩ s) (hc : cns.all okC = true)
    (law : ∀ ns : List Int, ns.length ≤ n → callN (tabT L) k d.name [.lst (ns.map .int)] noSto (fun v _ => v = .bl true)) :
    PySem.W.WalkO q loose XP (hookT m (tbL cns) (faL L cns) (fnL L)).says l.row.toRowW d [] (fun f vs => PySem.call f vs) := by
  refine walkG hn hn2 hdf hr fun w mg fa h Y G hmg => ?_
  obtain ⟨K, KX, cc⟩ := Y
  have c : He.SaysD (faL L cns) (fnL L) K := congrArg Prod.snd cc
  have c2 : sysB K = true ∧ ((tbL cns).all fun q => He.tupB K q.1 q.2) = true := Bool.and_eq_true_iff.mp (congrArg Prod.fst cc)
  have ct : ∀ q ∈ tbL cns, He.tupB K q.1 q.2 = true := fun q hq => List.all_eq_true.mp c2.2 q hq
  have t : Tab l.prog w K mg ⟨L.map (·.nm), cns⟩ (tabT L) (gaL L K) := tab_of KX G c c2.1 ct ok hc
  have hg : gaL L K d.name = some (He.ga K d.name) := if_pos hd
  have e : mg d.name = some (.ref (He.ga K d.name)) := by
    obtain ⟨s, hs, e⟩ := List.mem_map.mp hd
    rw [← e]
    exact He.glo_ok KX G (says_fact c (f := .glo s.nm) (List.mem_append_left _ (List.mem_map.mpr ⟨s, hs, rfl⟩)))
  rw [hmg] at e
  cases e
  exact ⟨K, gaL L K, callN (tabT L) k d.name, KX, law, fun base _ _ => t.fn base k d.name _ hg⟩
end SG
/-! laws of the small language, for the laws' own proofs -/
namespace SG
open PySem
theorem compL_map {α : Type} {f g : α → PV} {step : PV → Sto → (Option PV → Sto → Prop) → Prop} {Q : List PV → Sto → Prop} {M : Sto} : ∀ (xs : List α) (acc : List PV), (∀ x ∈ xs, ∀ k, step (f x) M k ↔ k (some (g x)) M) → (compL step (fun _ => True) (xs.map f) acc M Q ↔ Q (acc ++ xs.map g) M)
  | [], acc, _ => by simp [compL]
  | x :: r, acc, h => by
    have ih := compL_map (Q := Q) r (acc ++ [g x]) fun y hy => h y (List.mem_cons_of_mem _ hy)
    rw [List.map_cons]
    unfold compL
    rw [h x List.mem_cons_self]
    simp only [true_and]
    rw [ih]
    simp
theorem bools_map {α : Type} (p : α → Bool) : ∀ xs : List α, PV.bools (xs.map fun x => .bl (p x)) = some (xs.map p)
  | [] => rfl
  | x :: r => by
    show (PV.bools (r.map fun x => .bl (p x))).map (p x :: ·) = _
    rw [bools_map p r]; rfl
theorem ints_map {α : Type} (p : α → Int) : ∀ xs : List α, PV.ints (xs.map fun x => .int (p x)) = some (xs.map p)
  | [] => rfl
  | x :: r => by
    show (PV.ints (r.map fun x => .int (p x))).map (p x :: ·) = _
    rw [ints_map p r]; rfl
theorem pls_map {α : Type} {f : α → PV} (h : ∀ x, (f x).pl = true) : ∀ xs : List α, PV.pls (xs.map f) = true
  | [] => rfl
  | x :: r => by
    rw [List.map_cons]; unfold PV.pls
    rw [h x, pls_map h r]; rfl
theorem keys_ints : ∀ ws : List Int, PV.keys (ws.map PV.int) = some (ws.map NestedKey.num)
  | [] => rfl
  | w :: r => by
    rw [List.map_cons]; unfold PV.keys PV.key
    rw [keys_ints r]; rfl
theorem deps_ints : ∀ ws : List Int, PV.deps (ws.map PV.int) = 0
  | [] => rfl
  | w :: r => by
    rw [List.map_cons]; unfold PV.deps PV.dep
    rw [deps_ints r]; rfl
theorem kdep_nums : ∀ ws : List Int, NestedKey.depthAll (ws.map NestedKey.num) = 0
  | [] => rfl
  | w :: r => by
    rw [List.map_cons]; unfold NestedKey.depthAll NestedKey.depth
    rw [kdep_nums r]; rfl
theorem eqb_int (i j : Int) : PV.eqb (.int i) (.int j) = (i == j) := by unfold PV.eqb; rfl
theorem eqb_str (i j : Str) : PV.eqb (.str i) (.str j) = (i == j) := by unfold PV.eqb; rfl
/-! ### comparisons, places -/
theorem cmp_eq_int (i j : Int) (M : Sto) (Q : Q1) : cmpS .eq (.int i) (.int j) M Q ↔ Q (.bl (decide (i = j))) M := by
  have e : PV.eqb (.int i) (.int j) = decide (i = j) := by rw [eqb_int]; rfl
  unfold cmpS cmpOk eqS PV.now
  simp [PV.pl, PV.dep, e]
theorem cmp_ne_int (i j : Int) (M : Sto) (Q : Q1) : cmpS .ne (.int i) (.int j) M Q ↔ Q (.bl (!decide (i = j))) M := by
  have e : PV.eqb (.int i) (.int j) = decide (i = j) := by rw [eqb_int]; rfl
  unfold cmpS cmpOk eqS PV.now
  simp [PV.pl, PV.dep, e]
theorem cmp_eq_str (i j : Str) (M : Sto) (Q : Q1) : cmpS .eq (.str i) (.str j) M Q ↔ Q (.bl (decide (i = j))) M := by
  have e : PV.eqb (.str i) (.str j) = decide (i = j) := by
    rw [eqb_str]
    by_cases h : i = j
    · simp [h]
    · simp [h]
  unfold cmpS cmpOk eqS PV.now
  simp [e]
theorem cmp_ne_str (i j : Str) (M : Sto) (Q : Q1) : cmpS .ne (.str i) (.str j) M Q ↔ Q (.bl (!decide (i = j))) M := by
  have e : PV.eqb (.str i) (.str j) = decide (i = j) := by
    rw [eqb_str]
    by_cases h : i = j
    · simp [h]
    · simp [h]
  unfold cmpS cmpOk eqS PV.now
  simp [e]
theorem cmp_lt (x y : PV) (M : Sto) (Q : Q1) : cmpS .lt x y M Q ↔ ordS .lt x y M Q := Iff.rfl
theorem cmp_le (x y : PV) (M : Sto) (Q : Q1) : cmpS .le x y M Q ↔ ordS .le x y M Q := Iff.rfl
theorem cmp_gt (x y : PV) (M : Sto) (Q : Q1) : cmpS .gt x y M Q ↔ ordS .gt x y M Q := Iff.rfl
theorem cmp_ge (x y : PV) (M : Sto) (Q : Q1) : cmpS .ge x y M Q ↔ ordS .ge x y M Q := Iff.rfl
theorem cmp_is (x y : PV) (M : Sto) (Q : Q1) : cmpS .is x y M Q ↔ isS false x y M Q := Iff.rfl
theorem cmp_isnot (x y : PV) (M : Sto) (Q : Q1) : cmpS .isnot x y M Q ↔ isS true x y M Q := Iff.rfl
theorem cmp_eq_tup {xs ys : List PV} (h1 : PV.pls xs = true) (h2 : PV.pls ys = true) (h3 : PV.deps xs < 64 ∨ PV.deps ys < 64) (M : Sto) (Q : Q1) : cmpS .eq (.tup xs) (.tup ys) M Q ↔ Q (.bl (PV.eqbs xs ys)) M := by
  have e : PV.eqb (.tup xs) (.tup ys) = PV.eqbs xs ys := by rw [PV.eqb]
  have e1 : (PV.tup xs).pl = true := by rw [PV.pl]; exact h1
  have e2 : (PV.tup ys).pl = true := by rw [PV.pl]; exact h2
  have e3 : (PV.tup xs).dep ≤ 64 ∨ (PV.tup ys).dep ≤ 64 := by rw [PV.dep, PV.dep]; omega
  unfold cmpS cmpOk eqS PV.now
  simp only [e, e1, e2, e3, true_and, true_or, or_true]
theorem cmp_ne_tup {xs ys : List PV} (h1 : PV.pls xs = true) (h2 : PV.pls ys = true) (h3 : PV.deps xs < 64 ∨ PV.deps ys < 64) (M : Sto) (Q : Q1) : cmpS .ne (.tup xs) (.tup ys) M Q ↔ Q (.bl (!PV.eqbs xs ys)) M := by
  have e : PV.eqb (.tup xs) (.tup ys) = PV.eqbs xs ys := by rw [PV.eqb]
  have e1 : (PV.tup xs).pl = true := by rw [PV.pl]; exact h1
  have e2 : (PV.tup ys).pl = true := by rw [PV.pl]; exact h2
  have e3 : (PV.tup xs).dep ≤ 64 ∨ (PV.tup ys).dep ≤ 64 := by rw [PV.dep, PV.dep]; omega
  unfold cmpS cmpOk eqS PV.now
  simp only [e, e1, e2, e3, true_and, true_or, or_true]
theorem cmp_eq_nil {x : PV} {r : List PV} (h : PV.pls (x :: r) = true) (M : Sto) (Q : Q1) : cmpS .eq (.tup (x :: r)) (.tup []) M Q ↔ Q (.bl false) M := by
  rw [cmp_eq_tup h (by rfl) (.inr (by rw [PV.deps]; decide)) M Q, PV.eqbs]
  all_goals simp
theorem at_0 {α : Type} (x : α) (r : List α) : L2.atI (x :: r) 0 = some x := by
  unfold L2.atI L2.ixN
  simp
theorem at_n {α : Type} (xs : List α) (n : Nat) (h : n < xs.length) : L2.atI xs (n : Int) = xs[n]? := by
  unfold L2.atI L2.ixN
  simp [h]
theorem at_1 {α : Type} (x y : α) (r : List α) : L2.atI (x :: y :: r) 1 = some y := at_n (x :: y :: r) 1 (by simp)
theorem at_2 {α : Type} (x y z : α) (r : List α) : L2.atI (x :: y :: z :: r) 2 = some z := at_n (x :: y :: z :: r) 2 (by simp)
theorem at_3 {α : Type} (x y z u : α) (r : List α) : L2.atI (x :: y :: z :: u :: r) 3 = some u := at_n (x :: y :: z :: u :: r) 3 (by simp)
theorem at_4 {α : Type} (x y z u v : α) (r : List α) : L2.atI (x :: y :: z :: u :: v :: r) 4 = some v := at_n (x :: y :: z :: u :: v :: r) 4 (by simp)
theorem cast_0 : ((0 : Nat) : Int) = 0 := rfl
theorem cast_1 : ((1 : Nat) : Int) = 1 := rfl
theorem cast_2 : ((2 : Nat) : Int) = 2 := rfl
theorem cast_3 : ((3 : Nat) : Int) = 3 := rfl
theorem cast_4 : ((4 : Nat) : Int) = 4 := rfl
theorem cast_5 : ((5 : Nat) : Int) = 5 := rfl
theorem cast_6 : ((6 : Nat) : Int) = 6 := rfl
theorem cast_7 : ((7 : Nat) : Int) = 7 := rfl
theorem cast_8 : ((8 : Nat) : Int) = 8 := rfl
theorem cast_9 : ((9 : Nat) : Int) = 9 := rfl
/-! ### operations on values that are told -/
theorem so_tup (M : Sto) (xs : List PV) : so M (.tup xs) = some xs := rfl
theorem so_lst (M : Sto) (xs : List PV) : so M (.lst xs) = some xs := rfl
theorem lo_lst (M : Sto) (xs : List PV) : lo M (.lst xs) = some xs := rfl
theorem so_ref {M : Sto} {a : Addr} {xs : List PV} (h : M a = some (.lst xs)) : so M (.ref a) = some xs := by
  show lo M (.ref a) = _
  unfold lo
  simp only [h]
theorem lo_ref {M : Sto} {a : Addr} {xs : List PV} (h : M a = some (.lst xs)) : lo M (.ref a) = some xs := by
  unfold lo
  simp only [h]
theorem tru_non (M : Sto) : truS M .non = some false := rfl
theorem tru_bl (M : Sto) (b : Bool) : truS M (.bl b) = some b := rfl
theorem tru_int (M : Sto) (i : Int) : truS M (.int i) = some (i != 0) := rfl
theorem tru_tup (M : Sto) (xs : List PV) : truS M (.tup xs) = some (!xs.isEmpty) := rfl
theorem tru_lst (M : Sto) (xs : List PV) : truS M (.lst xs) = some (!xs.isEmpty) := rfl
theorem bin_add_int (i j : Int) (M : Sto) (Q : Q1) : binS .add (.int i) (.int j) M Q ↔ Q (.int (i + j)) M := Iff.rfl
theorem bin_add_tup (xs ys : List PV) (M : Sto) (Q : Q1) : binS .add (.tup xs) (.tup ys) M Q ↔ xs.length + ys.length ≤ sizeLine ∧ Q (.tup (xs ++ ys)) M := Iff.rfl
theorem bin_add_lst (xs ys : List PV) (M : Sto) (Q : Q1) : binS .add (.lst xs) (.lst ys) M Q ↔ xs.length + ys.length ≤ sizeLine ∧ Q (.lst (xs ++ ys)) M := by
  unfold binS addS newL
  simp [lo]
theorem bin_sub (i j : Int) (M : Sto) (Q : Q1) : binS .sub (.int i) (.int j) M Q ↔ Q (.int (i - j)) M := by
  unfold binS
  simp
theorem bin_mul (i j : Int) (M : Sto) (Q : Q1) : binS .mul (.int i) (.int j) M Q ↔ ((i.natAbs.log2 < 64 ∨ j.natAbs.log2 < 64) ∨ i.natAbs.log2 + j.natAbs.log2 < 1000000) ∧ Q (.int (i * j)) M := Iff.rfl
theorem bin_fdiv (i j : Int) (M : Sto) (Q : Q1) : binS .fdiv (.int i) (.int j) M Q ↔ 0 < j ∧ j.natAbs.log2 < 9000 ∧ Q (.int (i / j)) M := by
  unfold binS
  simp
theorem bin_mod (i j : Int) (M : Sto) (Q : Q1) : binS .mod (.int i) (.int j) M Q ↔ 0 < j ∧ Q (.int (i % j)) M := by
  unfold binS
  simp
theorem bin_pow (i j : Int) (M : Sto) (Q : Q1) : binS .pow (.int i) (.int j) M Q ↔ 0 ≤ j ∧ j ≤ 1000000 ∧ i.natAbs < 2 ^ 64 ∧ Q (.int (i ^ j.toNat)) M := by
  unfold binS
  simp
theorem ord_int (op : Cp) (i j : Int) (M : Sto) (Q : Q1) : ordS op (.int i) (.int j) M Q ↔ Q (.bl (ordI op i j)) M := Iff.rfl
theorem ordI_lt (i j : Int) : ordI .lt i j = decide (i < j) := rfl
theorem ordI_le (i j : Int) : ordI .le i j = decide (i ≤ j) := rfl
theorem ordI_gt (i j : Int) : ordI .gt i j = decide (j < i) := rfl
theorem ordI_ge (i j : Int) : ordI .ge i j = decide (j ≤ i) := rfl
theorem ix_tup (xs : List PV) (i : Int) (M : Sto) (Q : Q1) : ixS (.tup xs) (.int i) M Q ↔ ∃ v, L2.atI xs i = some v ∧ Q v M := by
  unfold ixS
  simp [so]
theorem ix_lst (xs : List PV) (i : Int) (M : Sto) (Q : Q1) : ixS (.lst xs) (.int i) M Q ↔ ∃ v, L2.atI xs i = some v ∧ Q v M := by
  unfold ixS
  simp [so, lo]
theorem ix_ref {M : Sto} {a : Addr} {xs : List PV} (h : M a = some (.lst xs)) (i : Int) (Q : Q1) : ixS (.ref a) (.int i) M Q ↔ ∃ v, L2.atI xs i = some v ∧ Q v M := by
  unfold ixS
  simp [so_ref h]
theorem sl_tup (xs : List PV) (l h : Option Int) (M : Sto) (Q : Q1) : slS (.tup xs) l h M Q ↔ Q (.tup (cutP xs l h)) M := Iff.rfl
theorem sl_lst (xs : List PV) (l h : Option Int) (M : Sto) (Q : Q1) : slS (.lst xs) l h M Q ↔ Q (.lst (cutP xs l h)) M := by
  unfold slS
  simp [lo]
def PV.isNon : PV → Bool
  | .non => true
  | _ => false
theorem is_non (neg : Bool) (x : PV) (M : Sto) (Q : Q1) : isS neg x .non M Q ↔ Q (.bl (if neg = true then !x.isNon else x.isNon)) M := by
  cases x <;> exact Iff.rfl
theorem non_non : PV.isNon .non = true := rfl
theorem non_bl (b : Bool) : PV.isNon (.bl b) = false := rfl
theorem non_int (b : Int) : PV.isNon (.int b) = false := rfl
theorem non_str (b : Str) : PV.isNon (.str b) = false := rfl
theorem non_tup (b : List PV) : PV.isNon (.tup b) = false := rfl
theorem non_lst (b : List PV) : PV.isNon (.lst b) = false := rfl
theorem non_ref (b : Addr) : PV.isNon (.ref b) = false := rfl
theorem is_bl (neg a b : Bool) (M : Sto) (Q : Q1) : isS neg (.bl a) (.bl b) M Q ↔ Q (.bl (if neg = true then !(a == b) else a == b)) M := Iff.rfl
theorem isi_int (i : Int) (M : Sto) (t : Ty) : isiS (.int i) M t = some (match t with | .int => true | _ => false) := rfl
theorem isi_bl (i : Bool) (M : Sto) (t : Ty) : isiS (.bl i) M t = some (match t with | .int => true | .bool => true | _ => false) := rfl
theorem isi_str (i : Str) (M : Sto) (t : Ty) : isiS (.str i) M t = some (match t with | .str => true | _ => false) := rfl
theorem isi_tup (i : List PV) (M : Sto) (t : Ty) : isiS (.tup i) M t = some (match t with | .tuple => true | _ => false) := rfl
theorem isi_lst (i : List PV) (M : Sto) (t : Ty) : isiS (.lst i) M t = some (match t with | .list => true | _ => false) := rfl
theorem isi_non (M : Sto) (t : Ty) : isiS .non M t = some false := rfl
theorem b_len (v : PV) (M : Sto) (Q : Q1) : bltS .len [v] M Q ↔ lenS v M Q := Iff.rfl
theorem len_tup (xs : List PV) (M : Sto) (Q : Q1) : lenS (.tup xs) M Q ↔ Q (.int xs.length) M := by
  unfold lenS
  simp [so]
theorem len_lst (xs : List PV) (M : Sto) (Q : Q1) : lenS (.lst xs) M Q ↔ Q (.int xs.length) M := by
  unfold lenS
  simp [so, lo]
theorem len_ref {M : Sto} {a : Addr} {xs : List PV} (h : M a = some (.lst xs)) (Q : Q1) : lenS (.ref a) M Q ↔ Q (.int xs.length) M := by
  unfold lenS
  simp [so_ref h]
theorem b_abs (i : Int) (M : Sto) (Q : Q1) : bltS .abs [.int i] M Q ↔ Q (.int (if i < 0 then -i else i)) M := Iff.rfl
theorem b_int (i : Int) (M : Sto) (Q : Q1) : bltS .int [.int i] M Q ↔ Q (.int i) M := Iff.rfl
theorem b_int_bl (b : Bool) (M : Sto) (Q : Q1) : bltS .int [.bl b] M Q ↔ Q (.int (if b = true then 1 else 0)) M := Iff.rfl
theorem b_max2 (i j : Int) (M : Sto) (Q : Q1) : bltS .max [.int i, .int j] M Q ↔ Q (.int (if j > i then j else i)) M := by
  unfold bltS maxS
  simp
theorem b_min2 (i j : Int) (M : Sto) (Q : Q1) : bltS .min [.int i, .int j] M Q ↔ Q (.int (if j < i then j else i)) M := by
  unfold bltS minS
  simp
theorem b_all (xs : List PV) (M : Sto) (Q : Q1) : bltS .all [.lst xs] M Q ↔ ∃ bs, PV.bools xs = some bs ∧ Q (.bl (bs.all id)) M := by
  unfold bltS one1
  simp [lo]
theorem b_any (xs : List PV) (M : Sto) (Q : Q1) : bltS .any [.lst xs] M Q ↔ ∃ bs, PV.bools xs = some bs ∧ Q (.bl (bs.any id)) M := by
  unfold bltS one1
  simp [lo]
theorem b_sum (xs : List PV) (M : Sto) (Q : Q1) : bltS .sum [.lst xs] M Q ↔ ∃ ns, PV.ints xs = some ns ∧ Q (.int ns.sum) M := by
  unfold bltS one1
  simp [so, lo]
theorem b_sumT (xs : List PV) (M : Sto) (Q : Q1) : bltS .sum [.tup xs] M Q ↔ ∃ ns, PV.ints xs = some ns ∧ Q (.int ns.sum) M := by
  unfold bltS one1
  simp [so, lo]
theorem b_tuple_lst (xs : List PV) (M : Sto) (Q : Q1) : bltS .tuple [.lst xs] M Q ↔ Q (.tup xs) M := by
  unfold bltS one1
  simp [so, lo]
theorem b_list_tup (xs : List PV) (M : Sto) (Q : Q1) : bltS .list [.tup xs] M Q ↔ Q (.lst xs) M := by
  unfold bltS one1
  simp [so, lo]
theorem b_repr (v : PV) (M : Sto) (Q : Q1) : bltS .repr [v] M Q ↔ repOk (v.now M) ∧ Q (.str (v.now M).dat.shown) M := Iff.rfl
theorem now_tup (xs : List PV) (M : Sto) : (PV.tup xs).now M = .tup xs := rfl
theorem now_lst (xs : List PV) (M : Sto) : (PV.lst xs).now M = .lst xs := rfl
theorem now_int (i : Int) (M : Sto) : (PV.int i).now M = .int i := rfl
theorem now_bl (i : Bool) (M : Sto) : (PV.bl i).now M = .bl i := rfl
theorem new_f (xs : List PV) (M : Sto) (Q : Q1) : newL false xs M Q ↔ Q (.lst xs) M := by
  unfold newL
  simp
theorem new_t (xs : List PV) (M : Sto) (Q : Q1) : newL true xs M Q ↔ ∀ p, M p = none → Q (.ref p) (M.put p (.lst xs)) := by
  unfold newL
  simp
theorem walk_tup (xs : List PV) (M : Sto) (Q : QI) : walkS (.tup xs) M Q ↔ Q xs (fun _ => True) M := Iff.rfl
theorem walk_lst (xs : List PV) (M : Sto) (Q : QI) : walkS (.lst xs) M Q ↔ Q xs (fun _ => True) M := Iff.rfl
theorem walk_ref {M : Sto} {a : Addr} {xs : List PV} (h : M a = some (.lst xs)) (Q : QI) : walkS (.ref a) M Q ↔ Q xs (fun M' => M' a = some (.lst xs)) M := by
  unfold walkS
  constructor
  · rintro ⟨ys, e, q⟩
    rw [h] at e
    cases e
    exact q
  · intro q
    exact ⟨xs, h, q⟩
theorem zip_2 (x y : PV) (M : Sto) (Q : QI) : zipS [x, y] M Q ↔ ∃ xs ys, srcS x = some xs ∧ srcS y = some ys ∧ Q (zipL xs ys) (fun _ => True) M := Iff.rfl
theorem zip_3 (x y z : PV) (M : Sto) (Q : QI) : zipS [x, y, z] M Q ↔ ∃ xs ys zs, srcS x = some xs ∧ srcS y = some ys ∧ srcS z = some zs ∧ Q (zipL3 xs ys zs) (fun _ => True) M := Iff.rfl
theorem src_tup (xs : List PV) : srcS (.tup xs) = some xs := rfl
theorem src_lst (xs : List PV) : srcS (.lst xs) = some xs := rfl
theorem rev_tup (xs : List PV) (M : Sto) (Q : Q1) : revS (.tup xs) M Q ↔ Q (.tup xs.reverse) M := Iff.rfl
theorem rev_lst (xs : List PV) (M : Sto) (Q : Q1) : revS (.lst xs) M Q ↔ Q (.lst xs.reverse) M := by
  unfold revS
  simp [lo]
theorem bind_lst (M : Sto) (gs : List Tg) (vs : List PV) (ρ : Rho) : bindT M (.tp gs) (.lst vs) ρ = bindTs M gs vs ρ := by rw [bindT]; rfl
theorem enm_tup (v : List PV) (P : List PV → Prop) : (∃ xs, (PV.tup v = .lst xs ∨ PV.tup v = .tup xs) ∧ P xs) ↔ P v := by
  constructor
  · rintro ⟨xs, e | e, h⟩
    · cases e
    · cases e; exact h
  · intro h
    exact ⟨v, .inr rfl, h⟩
theorem enm_lst (v : List PV) (P : List PV → Prop) : (∃ xs, (PV.lst v = .lst xs ∨ PV.lst v = .tup xs) ∧ P xs) ↔ P v := by
  constructor
  · rintro ⟨xs, e | e, h⟩
    · cases e; exact h
    · cases e
  · intro h
    exact ⟨v, .inl rfl, h⟩
theorem put_at (M : Sto) (a : Addr) (o : SO) : M.put a o a = some o := Sto.put_same
theorem six_ref {M : Sto} {a : Addr} {xs : List PV} (h : M a = some (.lst xs)) (k : Int) (v : PV) (Q : Sto → Prop) : setS (.ref a) (.int k) v M Q ↔ ∃ j, L2.ixN xs.length k = some j ∧ Q (M.put a (.lst (xs.set j v))) := by
  unfold setS
  constructor
  · rintro ⟨ys, j, e, e2, q⟩
    rw [h] at e
    cases e
    exact ⟨j, e2, q⟩
  · rintro ⟨j, e2, q⟩
    exact ⟨xs, j, h, e2, q⟩
theorem app_ref {M : Sto} {a : Addr} {xs : List PV} (h : M a = some (.lst xs)) (v : PV) (Q : Q1) : mthS .append (.ref a) [v] M Q ↔ xs.length < sizeLine ∧ Q .non (M.put a (.lst (xs ++ [v]))) := by
  unfold mthS
  constructor
  · rintro ⟨b, ys, e, e2, z, q⟩
    cases e
    rw [h] at e2
    cases e2
    exact ⟨z, q⟩
  · rintro ⟨z, q⟩
    exact ⟨a, xs, rfl, h, z, q⟩
theorem ext_ref {M : Sto} {a : Addr} {xs ys : List PV} (h : M a = some (.lst xs)) (Q : Q1) : mthS .extend (.ref a) [.lst ys] M Q ↔ xs.length + ys.length ≤ sizeLine ∧ Q .non (M.put a (.lst (xs ++ ys))) := by
  unfold mthS
  constructor
  · rintro ⟨b, us, zs, e, e2, e3, z, q⟩
    cases e
    rw [h] at e2
    cases e2
    cases e3
    exact ⟨z, q⟩
  · rintro ⟨z, q⟩
    exact ⟨a, xs, ys, rfl, h, rfl, z, q⟩
theorem rcv_ref {M : Sto} {a : Addr} {xs : List PV} (h : M a = some (.lst xs)) (m : Mt) : rcvS m (.ref a) M ↔ True := by
  unfold rcvS
  simp [lo_ref h]
theorem ixN_0 (n : Nat) : L2.ixN (n + 1) 0 = some 0 := by
  unfold L2.ixN
  simp
theorem ixN_lit {n k : Nat} (h : k < n) : L2.ixN n (k : Int) = some k := by
  unfold L2.ixN
  simp [h]
theorem ixN_32 : L2.ixN 3 2 = some 2 := ixN_lit (n := 3) (k := 2) (by decide)
theorem ixN_31 : L2.ixN 3 1 = some 1 := ixN_lit (n := 3) (k := 1) (by decide)
theorem ixN_30 : L2.ixN 3 0 = some 0 := ixN_0 2
theorem at_some {α : Type} (xs : List α) (j : Int) (h0 : 0 ≤ j) (h1 : j < xs.length) : ∃ x ∈ xs, L2.atI xs j = some x := by
  obtain ⟨n, rfl⟩ := Int.eq_ofNat_of_zero_le h0
  have hn : n < xs.length := by omega
  exact ⟨xs[n], List.getElem_mem hn, by rw [at_n xs n hn, List.getElem?_eq_getElem hn]⟩
theorem bind_nm (M : Sto) (i : Nat) (v : PV) (ρ : Rho) : bindT M (.nm i) v ρ = some (ρ.set i (some v)) := by rw [bindT]
theorem bind_tp (M : Sto) (gs : List Tg) (vs : List PV) (ρ : Rho) : bindT M (.tp gs) (.tup vs) ρ = bindTs M gs vs ρ := by rw [bindT]; rfl
theorem bind_ref {M : Sto} {a : Addr} {vs : List PV} (h : M a = some (.lst vs)) (gs : List Tg) (ρ : Rho) : bindT M (.tp gs) (.ref a) ρ = bindTs M gs vs ρ := by rw [bindT, so_ref h]
theorem binds_nil (M : Sto) (ρ : Rho) : bindTs M [] [] ρ = some ρ := by rw [bindTs]
theorem binds_nm (M : Sto) (i : Nat) (gs : List Tg) (v : PV) (r : List PV) (ρ : Rho) : bindTs M (.nm i :: gs) (v :: r) ρ = bindTs M gs r (ρ.set i (some v)) := by rw [bindTs]; simp only [bind_nm]
theorem binds_tp (M : Sto) (hs gs : List Tg) (us r : List PV) (ρ : Rho) : bindTs M (.tp hs :: gs) (.tup us :: r) ρ = (bindTs M hs us ρ).bind (bindTs M gs r) := by
  rw [bindTs]
  simp only [bind_tp]
  cases bindTs M hs us ρ <;> rfl
theorem aug_add (i j : Int) (M : Sto) (Q : Q1) : augS .add (.int i) (.int j) M Q ↔ Q (.int (i + j)) M := Iff.rfl
theorem aug_sub (i j : Int) (M : Sto) (Q : Q1) : augS .sub (.int i) (.int j) M Q ↔ Q (.int (i - j)) M := Iff.rfl
theorem ixM_ref {M : Sto} {a : Addr} {xs : List PV} (h : M a = some (.lst xs)) (i : Int) (Q : Q1) : ixM (.ref a) (.int i) M Q ↔ ∃ v, 0 ≤ i ∧ xs[i.toNat]? = some v ∧ Q v M := by
  unfold ixM
  constructor
  · rintro ⟨ys, v, e, q⟩
    rw [h] at e
    cases e
    exact ⟨v, q⟩
  · rintro ⟨v, q⟩
    exact ⟨xs, v, h, q⟩
theorem sset_single {v : PV} {ys : List PV} (h : Sset [v] ys) : ys = [v] := by
  have al : ∀ y ∈ ys, y = v := fun y hy => List.mem_singleton.mp (h.sub y hy)
  match ys, h, al with
  | [], h, _ =>
    obtain ⟨y, hy, _⟩ := h.all v List.mem_cons_self
    cases hy
  | [y], _, al => rw [al y List.mem_cons_self]
  | y :: z :: r, h, al =>
    have e1 := al y List.mem_cons_self
    have e2 := al z (by simp)
    have nd := h.nd
    rw [List.map_cons, List.map_cons, e1, e2] at nd
    exact absurd (List.mem_cons_self) (List.nodup_cons.mp nd).1
theorem sset_one {v : PV} (hv : ssItem v) (ha : fcmp v.dat v.dat) (mt : Bool) (M : Sto) (Q : Q1) : ssetS mt (.lst [v]) M Q ↔ newL mt [v] M Q := by
  have nd : Sset [v] [v] := ⟨fun y hy => hy, fun u hu => ⟨u, hu, rfl⟩, by simp, by simp⟩
  constructor
  · rintro ⟨xs, e, _, _, _, q⟩
    cases e
    exact q [v] nd
  · intro q
    refine ⟨[v], rfl, by simp, fun u hu => by rw [List.mem_singleton.mp hu]; exact hv, fun u hu t ht => by rw [List.mem_singleton.mp hu, List.mem_singleton.mp ht]; exact ha, fun ys hy => ?_⟩
    rw [sset_single hy]
    exact q
/-! ### what repr can show -/
mutual
def PV.sm : PV → Bool
  | .int i => decide (i.natAbs < 10 ^ 12)
  | .str x => PyData.strOk x
  | .tup xs => PV.sms xs
  | .lst xs => PV.sms xs
  | .non => true
  | .bl _ => true
  | .ref _ => false
  | .fn _ => false
  | .emp => false
def PV.sms : List PV → Bool
  | [] => true
  | x :: r => PV.sm x && PV.sms r
end
mutual
def PV.wt : PV → Nat
  | .int _ => 41
  | .str x => x.cps.size
  | .tup xs => PV.wts xs
  | .lst xs => PV.wts xs
  | _ => 0
def PV.wts : List PV → Nat
  | [] => 0
  | x :: r => PV.wt x + 1 + PV.wts r
end
mutual
theorem sm_ok : ∀ v : PV, v.sm = true → v.pl = true ∧ v.dat.showable = true ∧ v.dat.intsShort 13 = true ∧ v.dat.weight ≤ v.wt
  | .non, _ => ⟨rfl, rfl, rfl, Nat.le_refl _⟩
  | .bl _, _ => ⟨rfl, rfl, rfl, Nat.le_refl _⟩
  | .int i, h => by
    unfold PV.sm at h
    have h := of_decide_eq_true h
    have hl : i.natAbs.log2 < 40 := by
      by_cases z : i.natAbs = 0
      · rw [z]; decide
      · exact (Nat.log2_lt z).mpr (by omega)
    refine ⟨by simp [PV.pl], ?_, ?_, ?_⟩
    · unfold PV.dat PyData.showable
      exact decide_eq_true (by omega)
    · unfold PV.dat PyData.intsShort
      exact decide_eq_true (PyData.shown_int_le h)
    · unfold PV.dat PyData.weight PV.wt
      split <;> omega
  | .str x, h => ⟨by unfold PV.pl; unfold PV.sm at h; exact h, rfl, rfl, Nat.le_refl _⟩
  | .tup xs, h => by
    unfold PV.sm at h
    obtain ⟨a, b, c, d⟩ := sms_ok xs h
    unfold PV.dat PyData.showable PyData.intsShort PyData.weight PV.wt PV.pl
    exact ⟨a, b, c, d⟩
  | .lst xs, h => by
    unfold PV.sm at h
    obtain ⟨a, b, c, d⟩ := sms_ok xs h
    unfold PV.dat PyData.showable PyData.intsShort PyData.weight PV.wt PV.pl
    exact ⟨a, b, c, d⟩
  | .ref _, h => by unfold PV.sm at h; cases h
  | .fn _, h => by unfold PV.sm at h; cases h
  | .emp, h => by unfold PV.sm at h; cases h
theorem sms_ok : ∀ xs : List PV, PV.sms xs = true → PV.pls xs = true ∧ PyData.showableAll (PV.dats xs) = true ∧ PyData.intsShortAll 13 (PV.dats xs) = true ∧ PyData.weightAll (PV.dats xs) ≤ PV.wts xs
  | [], _ => ⟨rfl, rfl, rfl, Nat.le_refl _⟩
  | x :: r, h => by
    unfold PV.sms at h
    rw [Bool.and_eq_true_iff] at h
    obtain ⟨a, b, c, d⟩ := sm_ok x h.1
    obtain ⟨a', b', c', d'⟩ := sms_ok r h.2
    unfold PV.dats PyData.showableAll PyData.intsShortAll PyData.weightAll PV.wts PV.pls
    rw [a, a', b, b', c, c']
    exact ⟨rfl, rfl, rfl, by omega⟩
end
theorem repOk_of {v : PV} (h : v.sm = true) (hd : v.dep ≤ 60) (hw : v.wt ≤ 2 ^ 20) : repOk v := by
  obtain ⟨a, b, c, d⟩ := sm_ok v h
  exact ⟨PV.pl_ple _ a, hd, b, PyData.shown_fits (B := 13) (by decide) (by decide) (PyData.leavesShort_of_canLay0 13 _ (PV.dat_lay v a) c) (by omega)⟩
theorem in_so {neg : Bool} {x y : PV} {ys : List PV} {M : Sto} (hs : so M y = some ys) (h : inOk x y ys) (Q : Q1) : inS neg x y M Q ↔ Q (.bl (if neg = true then !(ys.any fun z => PV.eqb z x) else ys.any fun z => PV.eqb z x)) M := by
  unfold inS
  constructor
  · rintro ⟨zs, e, _, q⟩
    rw [hs] at e
    cases e
    exact q
  · exact fun q => ⟨ys, hs, h, q⟩
/-! ### loops -/
/-- a loop that works on a state alone -/
theorem forL_st {α β : Type} {turn : PV → Rho → Sto → (Rho → Sto → Prop) → Prop} {done : Rho → Sto → Prop} {f : α → PV} {M : Sto} (rho : β → Rho) (step : β → α → β) : ∀ (xs : List α) (b : β), (∀ x ∈ xs, ∀ b k, turn (f x) (rho b) M k ↔ k (rho (step b x)) M) →
    (forL turn (fun _ => True) done (xs.map f) (rho b) M ↔ done (rho (xs.foldl step b)) M)
  | [], b, _ => Iff.rfl
  | x :: r, b, h => by
    rw [List.map_cons, List.foldl_cons]
    unfold forL
    rw [h x List.mem_cons_self]
    simp only [true_and]
    exact forL_st rho step r (step b x) fun y hy => h y (List.mem_cons_of_mem _ hy)
theorem cut_map {α β : Type} (f : α → β) (xs : List α) (l h : Option Int) : cutP (xs.map f) l h = (cutP xs l h).map f := by
  unfold cutP
  rw [List.length_map, List.map_take, List.map_drop]
/-- a loop by its invariant, the turn told by what follows it -/
theorem forL_cps {turn : PV → Rho → Sto → (Rho → Sto → Prop) → Prop} {keep : Sto → Prop} {done : Rho → Sto → Prop} (I : Nat → Rho → Sto → Prop) : ∀ (xs : List PV) (n : Nat) (ρ : Rho) (M : Sto), I n ρ M →
    (∀ i x ρ M k, xs[i]? = some x → I (n + i) ρ M → (∀ ρ' M', I (n + i + 1) ρ' M' → k ρ' M') → turn x ρ M k) → (∀ i ρ M, I i ρ M → keep M) → (∀ ρ M, I (n + xs.length) ρ M → done ρ M) → forL turn keep done xs ρ M
  | [], n, ρ, M, h, _, _, hd => hd ρ M (by simpa using h)
  | x :: r, n, ρ, M, h, ht, hk, hd => by
    unfold forL
    refine ht 0 x ρ M _ rfl h fun ρ' M' h2 => ⟨hk _ _ _ h2, ?_⟩
    refine forL_cps I r (n + 1) ρ' M' h2 (fun i y ρ M k hy hi hq => ?_) hk (fun ρ M hi => hd ρ M ?_)
    · have e : n + 1 + i = n + (i + 1) := by omega
      rw [e] at hi
      refine ht (i + 1) y ρ M k (by simpa using hy) hi fun ρ' M' h3 => hq ρ' M' ?_
      rw [e]; exact h3
    · rw [List.length_cons]
      have e : n + 1 + r.length = n + (r.length + 1) := by omega
      rw [← e]; exact hi
theorem compL_cps {step : PV → Sto → (Option PV → Sto → Prop) → Prop} {keep : Sto → Prop} {Q : List PV → Sto → Prop} (I : Nat → List PV → Sto → Prop) : ∀ (xs acc : List PV) (n : Nat) (M : Sto), I n acc M →
    (∀ i x acc M k, xs[i]? = some x → I (n + i) acc M → (∀ o M', I (n + i + 1) (match o with | some v => acc ++ [v] | none => acc) M' → k o M') → step x M k) → (∀ i acc M, I i acc M → keep M) → (∀ acc M, I (n + xs.length) acc M → Q acc M) → compL step keep xs acc M Q
  | [], acc, n, M, h, _, _, hd => by unfold compL; exact hd acc M (by simpa using h)
  | x :: r, acc, n, M, h, ht, hk, hd => by
    unfold compL
    refine ht 0 x acc M _ rfl h fun o M' h2 => ⟨hk _ _ _ h2, ?_⟩
    refine compL_cps I r _ (n + 1) M' h2 (fun i y acc M k hy hi hq => ?_) hk (fun acc M hi => hd acc M ?_)
    · have e : n + 1 + i = n + (i + 1) := by omega
      rw [e] at hi
      refine ht (i + 1) y acc M k (by simpa using hy) hi fun o M' h3 => hq o M' ?_
      rw [e]; exact h3
    · rw [List.length_cons]
      have e : n + 1 + r.length = n + (r.length + 1) := by omega
      rw [← e]; exact hi
theorem rng_len (hi : Int) : (rngL 0 hi).length = hi.toNat := by
  unfold rngL
  simp
theorem rng0_get {hi : Int} {i : Nat} {x : PV} (h : (rngL 0 hi)[i]? = some x) : x = .int (i : Int) ∧ (i : Int) < hi := by
  have hl := (List.getElem?_eq_some_iff.mp h).1
  rw [rng_len] at hl
  unfold rngL at h
  have hr : (List.range (hi - 0).toNat)[i]? = some i := List.getElem?_range (by omega)
  rw [List.getElem?_map, hr] at h
  have e := Option.some.inj h
  exact ⟨by rw [← e]; simp, by omega⟩
/-- a while loop that works on a state alone -/
theorem while_hoare {β : Type} {turn : Rho → Sto → (Rho → Sto → Prop) → Prop} {M : Sto} (rho : β → Rho) (cond : β → Bool) (step : β → β) (J : β → Prop) (meas : β → Nat)
    (ht : ∀ b k, J b → cond b = true → k (rho (step b)) M → turn (rho b) M k) (hs : ∀ b, J b → cond b = true → J (step b) ∧ meas (step b) < meas b) (he : ∀ b k, J b → cond b = false → turn (rho b) M k) :
    ∀ (m : Nat) (b : β), meas b ≤ m → J b → ∃ n, whileN turn n (rho b) M
  | 0, b, hm, hj => by
    cases c : cond b with
    | true =>
      have := (hs b hj c).2
      omega
    | false => exact ⟨1, he b _ hj c⟩
  | m + 1, b, hm, hj => by
    cases c : cond b with
    | true =>
      obtain ⟨h1, h2⟩ := hs b hj c
      obtain ⟨n, hn⟩ := while_hoare rho cond step J meas ht hs he m (step b) (by omega) h1
      exact ⟨n + 1, ht b _ hj c hn⟩
    | false => exact ⟨1, he b _ hj c⟩
theorem b_tuple_ref {M : Sto} {a : Addr} {xs : List PV} (h : M a = some (.lst xs)) (Q : Q1) : bltS .tuple [.ref a] M Q ↔ Q (.tup xs) M := by
  unfold bltS one1
  simp [so_ref h]
theorem b_max1 (xs : List PV) (M : Sto) (Q : Q1) : bltS .max [.lst xs] M Q ↔ ∃ n ns, PV.ints xs = some (n :: ns) ∧ Q (.int (maxI n ns)) M := by
  unfold bltS maxS
  simp [lo]
theorem mx_app (m y : Int) : ∀ xs : List Int, maxI m (xs ++ [y]) = if y > maxI m xs then y else maxI m xs := by
  intro xs
  induction xs generalizing m with
  | nil => rfl
  | cons x r ih => exact ih _
theorem mx_ge (m : Int) : ∀ xs : List Int, m ≤ maxI m xs ∧ ∀ x ∈ xs, x ≤ maxI m xs := by
  intro xs
  induction xs generalizing m with
  | nil => exact ⟨Int.le_refl _, fun x hx => by cases hx⟩
  | cons x r ih =>
    have h := ih (if x > m then x else m)
    unfold maxI
    refine ⟨Int.le_trans ?_ h.1, fun y hy => ?_⟩
    · split <;> omega
    · rcases List.mem_cons.mp hy with e | hy
      · subst e
        refine Int.le_trans ?_ h.1
        split <;> omega
      · exact h.2 y hy
theorem mx_le {B : Int} (m : Int) : ∀ xs : List Int, m ≤ B → (∀ x ∈ xs, x ≤ B) → maxI m xs ≤ B := by
  intro xs
  induction xs generalizing m with
  | nil => intro h _; exact h
  | cons x r ih =>
    intro h1 h2
    unfold maxI
    refine ih _ ?_ fun y hy => h2 y (List.mem_cons_of_mem _ hy)
    split
    · exact h2 x List.mem_cons_self
    · exact h1
/-- a loop by its invariant -/
theorem forL_inv {turn : PV → Rho → Sto → (Rho → Sto → Prop) → Prop} {keep : Sto → Prop} {done : Rho → Sto → Prop} (I : Nat → Rho → Sto → Prop) : ∀ (xs : List PV) (n : Nat) (ρ : Rho) (M : Sto), I n ρ M →
    (∀ i x ρ M, xs[i]? = some x → I (n + i) ρ M → turn x ρ M fun ρ' M' => keep M' ∧ I (n + i + 1) ρ' M') → (∀ x ρ M, ∀ k k', (∀ ρ M, k ρ M → k' ρ M) → turn x ρ M k → turn x ρ M k') → (∀ ρ M, I (n + xs.length) ρ M → done ρ M) → forL turn keep done xs ρ M
  | [], n, ρ, M, h, _, _, hd => hd ρ M (by simpa using h)
  | x :: r, n, ρ, M, h, ht, hm, hd => by
    unfold forL
    refine hm x ρ M _ _ (fun ρ' M' ⟨h1, h2⟩ => ⟨h1, ?_⟩) (ht 0 x ρ M rfl h)
    refine forL_inv I r (n + 1) ρ' M' h2 (fun i y ρ M hy hi => ?_) hm (fun ρ M hi => hd ρ M ?_)
    · have e : n + 1 + i = n + (i + 1) := by omega
      rw [e] at hi ⊢
      exact ht (i + 1) y ρ M (by simpa using hy) hi
    · rw [List.length_cons]
      have e : n + 1 + r.length = n + (r.length + 1) := by omega
      rw [← e]; exact hi
/-- the same of a comprehension -/
theorem compL_inv {step : PV → Sto → (Option PV → Sto → Prop) → Prop} {keep : Sto → Prop} {Q : List PV → Sto → Prop} (I : List PV → Sto → Prop) : ∀ (xs acc : List PV) (M : Sto), I acc M → (∀ x M, ∀ k k', (∀ o M, k o M → k' o M) → step x M k → step x M k') →
    (∀ x ∈ xs, ∀ acc M, I acc M → step x M fun o M' => keep M' ∧ I (match o with | some v => acc ++ [v] | none => acc) M') → (∀ acc M, I acc M → Q acc M) → compL step keep xs acc M Q
  | [], acc, M, h, _, _, hd => by unfold compL; exact hd acc M h
  | x :: r, acc, M, h, hm, ht, hd => by
    unfold compL
    refine hm x M _ _ (fun o M' ⟨h1, h2⟩ => ⟨h1, ?_⟩) (ht x List.mem_cons_self acc M h)
    exact compL_inv I r _ M' h2 hm (fun y hy => ht y (List.mem_cons_of_mem _ hy)) hd
end SG
/-! shared defs: a table that holds them -/
namespace SG
open PySem
def startN (n : Nat) (vs : List PV) : Rho := vs.map some ++ List.replicate (n - vs.length) none
/-- the table T holds a def f of n parameters, m names, body b -/
def HasD (T : List (Str × FDef)) (f : Str) (n m : Nat) (b : List S) : Prop := ∃ d, T.lookup f = some d ∧ d.ps.length = n ∧ d.N.length = m ∧ d.body = b
theorem callN_has {T : List (Str × FDef)} {k : Nat} {f : Str} {vs : List PV} {M : Sto} {Q : Q1} {n m : Nat} {b : List S} (h : HasD T f n m b) : callN T (k + 1) f vs M Q ↔ (vs.length = n ∧ wpSs (callN T k) b (startN m vs) M (fnEnds Q)) := by
  obtain ⟨d, h1, rfl, rfl, rfl⟩ := h
  exact callN_iff h1
end SG
local macro_rules
  | `(tactic| simp_arith [$xs,*] $[$l:location]?) => `(tactic| try simp only [SG.wpSs, SG.wpS, SG.wpE, SG.wpL, SG.wpO, SG.wpC, SG.wpI, SG.startP, SG.fnEnds, SG.bind_nm, SG.bind_tp, SG.binds_nil, SG.binds_nm, SG.binds_tp, Option.bind_some, false_or, or_false, SG.zipL3, SG.zipL, SG.enmL, SG.cmp_eq_int, SG.cmp_ne_int, SG.cmp_eq_str, SG.cmp_ne_str, SG.cmp_lt, SG.cmp_le, SG.cmp_gt, SG.cmp_ge, SG.cmp_is, SG.cmp_isnot, SG.at_0, SG.at_1, SG.at_2, SG.at_3, SG.at_4, List.map_cons, List.map_nil, List.length_cons, List.length_nil, List.replicate, List.cons_append, List.nil_append, List.getElem?_cons_zero, List.getElem?_cons_succ, List.set_cons_zero, List.set_cons_succ, Option.some.injEq, exists_eq_left, exists_eq_left', exists_eq_right, exists_and_left, true_and, and_true, if_true, if_false, Bool.false_eq_true, reduceCtorEq, if_pos, if_neg, SG.PV.int.injEq, SG.PV.bl.injEq, SG.PV.str.injEq, SG.PV.tup.injEq, SG.PV.lst.injEq, SG.PV.ref.injEq, SG.PV.fn.injEq, Nat.reduceAdd, Nat.reduceSub, Bool.not_true, Bool.not_false, and_self, Nat.add_zero, Nat.zero_add, Nat.sub_self, forall_const, SG.cast_0, SG.cast_1, SG.cast_2, SG.cast_3, SG.cast_4, SG.cast_5, SG.cast_6, SG.cast_7, SG.cast_8, SG.cast_9, Int.reduceLT, Int.reduceLE, Int.reduceNeg, decide_true, decide_false, Int.reduceEq, SG.so_tup, SG.so_lst, SG.lo_lst, SG.tru_non, SG.tru_bl, SG.tru_int, SG.tru_tup, SG.tru_lst, SG.bin_add_int, SG.bin_add_tup, SG.bin_add_lst, SG.bin_sub, SG.bin_mul, SG.bin_fdiv, SG.bin_mod, SG.bin_pow, SG.ord_int, SG.ordI_lt, SG.ordI_le, SG.ordI_gt, SG.ordI_ge, SG.ix_tup, SG.ix_lst, SG.sl_tup, SG.sl_lst, SG.is_non, SG.is_bl, SG.isi_int, SG.isi_bl, SG.isi_str, SG.isi_tup, SG.isi_lst, SG.isi_non, SG.b_len, SG.len_tup, SG.len_lst, SG.b_abs, SG.b_int, SG.b_int_bl, SG.b_max2, SG.b_min2, SG.b_all, SG.b_any, SG.b_sum, SG.b_sumT, SG.b_tuple_lst, SG.b_list_tup, SG.b_repr, SG.now_tup, SG.now_lst, SG.now_int, SG.now_bl, SG.new_f, SG.new_t, SG.walk_tup, SG.walk_lst, SG.zip_2, SG.zip_3, SG.src_tup, SG.src_lst, SG.rev_tup, SG.rev_lst, SG.bind_lst, SG.enm_tup, SG.enm_lst, SG.put_at, SG.ixN_32, SG.ixN_31, SG.ixN_30, SG.startN, SG.aug_add, SG.aug_sub, List.replicate_succ, List.replicate_zero, List.append_nil, SG.non_non, SG.non_bl, SG.non_int, SG.non_str, SG.non_tup, SG.non_lst, SG.non_ref, true_or, or_true, $xs,*] $[$l:location]?)
namespace PG
open PySem SG
def b_is_whole : List S := [(.ret (.and (.isi (.var 0) .int) (.not (.isi (.var 0) .bool))))]
class H_is_whole (T : List (Str × FDef)) : Prop where
  lk_is_whole : HasD T "is_whole" 1 1 b_is_whole
theorem call_is_whole {T : List (Str × FDef)} [h : H_is_whole T] (k : Nat) (vs : List PV) (M : Sto) (Q : Q1) : callN T (k + 1) "is_whole" vs M Q ↔ (vs.length = 1 ∧ wpSs (callN T k) b_is_whole (startN 1 vs) M (fnEnds Q)) := callN_has h.lk_is_whole
def b_is_within : List S := [(.ret (.and (.call "is_whole" [(.var 0)]) (.chain .le .le (.var 1) (.var 0) (.var 2))))]
class H_is_within (T : List (Str × FDef)) : Prop extends PG.H_is_whole T where
  lk_is_within : HasD T "is_within" 3 3 b_is_within
theorem call_is_within {T : List (Str × FDef)} [h : H_is_within T] (k : Nat) (vs : List PV) (M : Sto) (Q : Q1) : callN T (k + 1) "is_within" vs M Q ↔ (vs.length = 3 ∧ wpSs (callN T k) b_is_within (startN 3 vs) M (fnEnds Q)) := callN_has h.lk_is_within
def b_is_worths : List S := [(.ite (.or (.not (.isi (.var 0) .tuple)) (.not (.chain .le .le (.cst (.int 1)) (.blt .len [(.var 0)]) (.cst (.int 6))))) [(.ret (.cst (.bl false)))] []),
  (.ret (.blt .all [(.comp false (.nm 1) (.val (.var 0)) none (.call "is_within" [(.var 1), (.neg (.cst (.int 9))), (.cst (.int 9))]))]))]
class H_is_worths (T : List (Str × FDef)) : Prop extends PG.H_is_within T where
  lk_is_worths : HasD T "is_worths" 1 2 b_is_worths
theorem call_is_worths {T : List (Str × FDef)} [h : H_is_worths T] (k : Nat) (vs : List PV) (M : Sto) (Q : Q1) : callN T (k + 1) "is_worths" vs M Q ↔ (vs.length = 1 ∧ wpSs (callN T k) b_is_worths (startN 2 vs) M (fnEnds Q)) := callN_has h.lk_is_worths
def b_is_simple : List S := [(.ite (.or (.not (.isi (.var 0) .tuple)) (.or (.cmp .lt (.blt .len [(.var 0)]) (.cst (.int 3))) (.not (.call "is_worths" [(.ix (.var 0) (.cst (.int 1)))])))) [(.ret (.cst (.bl false)))] []),
  (.ite (.and (.cmp .eq (.ix (.var 0) (.cst (.int 0))) (.cst (.str "sum"))) (.cmp .eq (.blt .len [(.var 0)]) (.cst (.int 3)))) [(.ret (.call "is_within" [(.ix (.var 0) (.cst (.int 2))), (.neg (.cst (.int 20))), (.cst (.int 20))]))] []),
  (.ite (.or (.cmp .ne (.ix (.var 0) (.cst (.int 0))) (.cst (.str "rest"))) (.cmp .ne (.blt .len [(.var 0)]) (.cst (.int 4)))) [(.ret (.cst (.bl false)))] []),
  (.ret (.and (.call "is_within" [(.ix (.var 0) (.cst (.int 3))), (.cst (.int 2)), (.cst (.int 9))]) (.call "is_within" [(.ix (.var 0) (.cst (.int 2))), (.cst (.int 0)), (.bin .sub (.ix (.var 0) (.cst (.int 3))) (.cst (.int 1)))])))]
class H_is_simple (T : List (Str × FDef)) : Prop extends PG.H_is_within T, PG.H_is_worths T where
  lk_is_simple : HasD T "is_simple" 1 1 b_is_simple
theorem call_is_simple {T : List (Str × FDef)} [h : H_is_simple T] (k : Nat) (vs : List PV) (M : Sto) (Q : Q1) : callN T (k + 1) "is_simple" vs M Q ↔ (vs.length = 1 ∧ wpSs (callN T k) b_is_simple (startN 1 vs) M (fnEnds Q)) := callN_has h.lk_is_simple
def b_simples_in : List S := [(.ite (.or (.cmp .eq (.var 1) (.cst (.int 0))) (.or (.not (.isi (.var 0) .tuple)) (.cmp .eq (.var 0) (.tup [])))) [(.ret (.cst .non))] []),
  (.ite (.call "is_simple" [(.var 0)]) [(.ret (.lst false [(.var 0)]))] []),
  (.ite (.and (.cmp .eq (.ix (.var 0) (.cst (.int 0))) (.cst (.str "not"))) (.cmp .eq (.blt .len [(.var 0)]) (.cst (.int 2)))) [(.ret (.call "simples_in" [(.ix (.var 0) (.cst (.int 1))), (.bin .sub (.var 1) (.cst (.int 1)))]))] []),
  (.ite (.or (.cmp .notin (.ix (.var 0) (.cst (.int 0))) (.tup [(.cst (.str "and")), (.cst (.str "or"))])) (.cmp .ne (.blt .len [(.var 0)]) (.cst (.int 3)))) [(.ret (.cst .non))] []),
  (.asg (.nm 2) (.call "simples_in" [(.ix (.var 0) (.cst (.int 1))), (.bin .sub (.var 1) (.cst (.int 1)))])),
  (.asg (.nm 3) (.call "simples_in" [(.ix (.var 0) (.cst (.int 2))), (.bin .sub (.var 1) (.cst (.int 1)))])),
  (.ite (.or (.cmp .is (.var 2) (.cst .non)) (.cmp .is (.var 3) (.cst .non))) [(.ret (.cst .non))] []),
  (.ret (.bin .add (.var 2) (.var 3)))]
class H_simples_in (T : List (Str × FDef)) : Prop extends PG.H_is_simple T where
  lk_simples_in : HasD T "simples_in" 2 4 b_simples_in
theorem call_simples_in {T : List (Str × FDef)} [h : H_simples_in T] (k : Nat) (vs : List PV) (M : Sto) (Q : Q1) : callN T (k + 1) "simples_in" vs M Q ↔ (vs.length = 2 ∧ wpSs (callN T k) b_simples_in (startN 4 vs) M (fnEnds Q)) := callN_has h.lk_simples_in
def b_simples : List S := [(.ret (.blt .tuple [(.sset false (.call "simples_in" [(.var 0), (.cst (.int 8))]))]))]
class H_simples (T : List (Str × FDef)) : Prop extends PG.H_simples_in T where
  lk_simples : HasD T "simples" 1 1 b_simples
theorem call_simples {T : List (Str × FDef)} [h : H_simples T] (k : Nat) (vs : List PV) (M : Sto) (Q : Q1) : callN T (k + 1) "simples" vs M Q ↔ (vs.length = 1 ∧ wpSs (callN T k) b_simples (startN 1 vs) M (fnEnds Q)) := callN_has h.lk_simples
def b_is_sum : List S := [(.ret (.cmp .eq (.ix (.var 0) (.cst (.int 0))) (.cst (.str "sum"))))]
class H_is_sum (T : List (Str × FDef)) : Prop where
  lk_is_sum : HasD T "is_sum" 1 1 b_is_sum
theorem call_is_sum {T : List (Str × FDef)} [h : H_is_sum T] (k : Nat) (vs : List PV) (M : Sto) (Q : Q1) : callN T (k + 1) "is_sum" vs M Q ↔ (vs.length = 1 ∧ wpSs (callN T k) b_is_sum (startN 1 vs) M (fnEnds Q)) := callN_has h.lk_is_sum
def b_size_of : List S := [(.ite (.call "is_sum" [(.var 0)]) [(.ret (.blt .max [(.bin .add (.blt .abs [(.ix (.var 0) (.cst (.int 2)))]) (.cst (.int 1))), (.blt .max [(.comp false (.nm 1) (.val (.ix (.var 0) (.cst (.int 1)))) none (.blt .abs [(.var 1)]))])]))] []),
  (.ret (.bin .sub (.ix (.var 0) (.cst (.int 3))) (.cst (.int 1))))]
class H_size_of (T : List (Str × FDef)) : Prop extends PG.H_is_sum T where
  lk_size_of : HasD T "size_of" 1 2 b_size_of
theorem call_size_of {T : List (Str × FDef)} [h : H_size_of T] (k : Nat) (vs : List PV) (M : Sto) (Q : Q1) : callN T (k + 1) "size_of" vs M Q ↔ (vs.length = 1 ∧ wpSs (callN T k) b_size_of (startN 2 vs) M (fnEnds Q)) := callN_has h.lk_size_of
def b_says : List S := [(.ite (.call "is_sum" [(.var 0)]) [(.ret (.cmp .ge (.var 1) (.ix (.var 0) (.cst (.int 2)))))] []),
  (.ret (.cmp .eq (.var 1) (.ix (.var 0) (.cst (.int 2)))))]
class H_says (T : List (Str × FDef)) : Prop extends PG.H_is_sum T where
  lk_says : HasD T "says" 2 2 b_says
theorem call_says {T : List (Str × FDef)} [h : H_says T] (k : Nat) (vs : List PV) (M : Sto) (Q : Q1) : callN T (k + 1) "says" vs M Q ↔ (vs.length = 2 ∧ wpSs (callN T k) b_says (startN 2 vs) M (fnEnds Q)) := callN_has h.lk_says
def b_cut_to : List S := [(.ite (.call "is_sum" [(.var 0)]) [(.asg (.nm 2) (.call "size_of" [(.var 0)])), (.ret (.blt .max [(.neg (.var 2)), (.blt .min [(.var 2), (.var 1)])]))] []),
  (.asg (.nm 3) (.ix (.var 0) (.cst (.int 3)))),
  (.ret (.bin .mod (.var 1) (.var 3)))]
class H_cut_to (T : List (Str × FDef)) : Prop extends PG.H_is_sum T, PG.H_size_of T where
  lk_cut_to : HasD T "cut_to" 2 4 b_cut_to
theorem call_cut_to {T : List (Str × FDef)} [h : H_cut_to T] (k : Nat) (vs : List PV) (M : Sto) (Q : Q1) : callN T (k + 1) "cut_to" vs M Q ↔ (vs.length = 2 ∧ wpSs (callN T k) b_cut_to (startN 4 vs) M (fnEnds Q)) := callN_has h.lk_cut_to
def b_rest_over : List S := [(.ite (.call "is_sum" [(.var 0)]) [(.ret (.bin .sub (.var 1) (.call "cut_to" [(.var 0), (.var 1)])))] []),
  (.ret (.cst (.int 0)))]
class H_rest_over (T : List (Str × FDef)) : Prop extends PG.H_cut_to T, PG.H_is_sum T where
  lk_rest_over : HasD T "rest_over" 2 2 b_rest_over
theorem call_rest_over {T : List (Str × FDef)} [h : H_rest_over T] (k : Nat) (vs : List PV) (M : Sto) (Q : Q1) : callN T (k + 1) "rest_over" vs M Q ↔ (vs.length = 2 ∧ wpSs (callN T k) b_rest_over (startN 2 vs) M (fnEnds Q)) := callN_has h.lk_rest_over
def b_is_note : List S := [(.ret (.cmp .eq (.ix (.var 0) (.cst (.int 0))) (.cst (.str "note"))))]
class H_is_note (T : List (Str × FDef)) : Prop where
  lk_is_note : HasD T "is_note" 1 1 b_is_note
theorem call_is_note {T : List (Str × FDef)} [h : H_is_note T] (k : Nat) (vs : List PV) (M : Sto) (Q : Q1) : callN T (k + 1) "is_note" vs M Q ↔ (vs.length = 1 ∧ wpSs (callN T k) b_is_note (startN 1 vs) M (fnEnds Q)) := callN_has h.lk_is_note
def b_is_bare : List S := [(.ret (.blt .all [(.comp false (.nm 1) (.val (.var 0)) none (.cmp .eq (.var 1) (.cst (.tup [(.bl false), (.int 0)]))))]))]
class H_is_bare (T : List (Str × FDef)) : Prop where
  lk_is_bare : HasD T "is_bare" 1 2 b_is_bare
theorem call_is_bare {T : List (Str × FDef)} [h : H_is_bare T] (k : Nat) (vs : List PV) (M : Sto) (Q : Q1) : callN T (k + 1) "is_bare" vs M Q ↔ (vs.length = 1 ∧ wpSs (callN T k) b_is_bare (startN 2 vs) M (fnEnds Q)) := callN_has h.lk_is_bare
def b_members_meet : List S := [(.ite (.and (.not (.ix (.var 1) (.cst (.int 0)))) (.not (.ix (.var 2) (.cst (.int 0))))) [(.ret (.tup [(.var 1), (.var 2)]))] []),
  (.asg (.nm 3) (.bin .add (.ix (.var 1) (.cst (.int 1))) (.ix (.var 2) (.cst (.int 1))))),
  (.asg (.nm 4) (.call "cut_to" [(.var 0), (.var 3)])),
  (.asg (.nm 5) (.call "says" [(.var 0), (.var 4)])),
  (.asg (.tp [(.nm 6), (.nm 7)]) (.tup [(.tup [(.cst (.bl true)), (.var 4), (.var 5)]), (.tup [(.cst (.bl false)), (.call "rest_over" [(.var 0), (.var 3)]), (.var 5)])])),
  (.ret (.ite (.ix (.var 1) (.cst (.int 0))) (.tup [(.var 6), (.var 7)]) (.tup [(.var 7), (.var 6)])))]
class H_members_meet (T : List (Str × FDef)) : Prop extends PG.H_cut_to T, PG.H_rest_over T, PG.H_says T where
  lk_members_meet : HasD T "members_meet" 3 8 b_members_meet
theorem call_members_meet {T : List (Str × FDef)} [h : H_members_meet T] (k : Nat) (vs : List PV) (M : Sto) (Q : Q1) : callN T (k + 1) "members_meet" vs M Q ↔ (vs.length = 3 ∧ wpSs (callN T k) b_members_meet (startN 8 vs) M (fnEnds Q)) := callN_has h.lk_members_meet
def b_note_met : List S := [(.asg (.nm 3) (.bin .add (.ix (.var 1) (.cst (.int 1))) (.ix (.var 2) (.cst (.int 1))))),
  (.asg (.nm 4) (.call "cut_to" [(.var 0), (.var 3)])),
  (.ite (.or (.ix (.var 1) (.cst (.int 0))) (.ix (.var 2) (.cst (.int 0)))) [(.ret (.tup [(.tup [(.cst (.bl true)), (.var 4), (.call "says" [(.var 0), (.var 4)])]), (.tup [(.cst (.bl false)), (.call "rest_over" [(.var 0), (.var 3)])])]))] []),
  (.ret (.tup [(.tup [(.cst (.bl false)), (.var 4), (.ix (.var 1) (.cst (.int 2)))]), (.tup [(.cst (.bl false)), (.call "rest_over" [(.var 0), (.var 3)])])]))]
class H_note_met (T : List (Str × FDef)) : Prop extends PG.H_cut_to T, PG.H_rest_over T, PG.H_says T where
  lk_note_met : HasD T "note_met" 3 5 b_note_met
theorem call_note_met {T : List (Str × FDef)} [h : H_note_met T] (k : Nat) (vs : List PV) (M : Sto) (Q : Q1) : callN T (k + 1) "note_met" vs M Q ↔ (vs.length = 3 ∧ wpSs (callN T k) b_note_met (startN 5 vs) M (fnEnds Q)) := callN_has h.lk_note_met
def b_with_note : List S := [(.asg (.nm 3) (.comp false (.tp [(.nm 4), (.nm 5), (.nm 6)]) (.zip [(.call "simples" [(.var 0)]), (.ix (.var 1) (.cst (.int 2))), (.ix (.var 2) (.cst (.int 1)))]) none (.call "note_met" [(.var 4), (.var 5), (.var 6)]))),
  (.asg (.nm 7) (.tup [(.cst (.str "member")), (.ix (.var 1) (.cst (.int 1))), (.blt .tuple [(.comp false (.tp [(.nm 5), (.nm 6)]) (.val (.var 3)) none (.var 5))])])),
  (.asg (.nm 8) (.blt .tuple [(.comp false (.tp [(.nm 5), (.nm 6)]) (.val (.var 3)) none (.var 6))])),
  (.ret (.tup [(.var 7), (.ite (.call "is_bare" [(.var 8)]) (.cst .non) (.tup [(.cst (.str "note")), (.var 8)]))]))]
class H_with_note (T : List (Str × FDef)) : Prop extends PG.H_is_bare T, PG.H_note_met T, PG.H_simples T where
  lk_with_note : HasD T "with_note" 3 9 b_with_note
theorem call_with_note {T : List (Str × FDef)} [h : H_with_note T] (k : Nat) (vs : List PV) (M : Sto) (Q : Q1) : callN T (k + 1) "with_note" vs M Q ↔ (vs.length = 3 ∧ wpSs (callN T k) b_with_note (startN 9 vs) M (fnEnds Q)) := callN_has h.lk_with_note
def b_meet : List S := [(.ite (.and (.call "is_note" [(.var 1)]) (.call "is_note" [(.var 2)])) [(.ret (.tup [(.var 1), (.var 2)]))] []),
  (.ite (.call "is_note" [(.var 2)]) [(.ret (.call "with_note" [(.var 0), (.var 1), (.var 2)]))] []),
  (.ite (.call "is_note" [(.var 1)]) [(.asg (.tp [(.nm 3), (.nm 4)]) (.call "with_note" [(.var 0), (.var 2), (.var 1)])), (.ret (.tup [(.var 4), (.var 3)]))] []),
  (.asg (.nm 5) (.comp false (.tp [(.nm 6), (.nm 7), (.nm 8)]) (.zip [(.call "simples" [(.var 0)]), (.ix (.var 1) (.cst (.int 2))), (.ix (.var 2) (.cst (.int 2)))]) none (.call "members_meet" [(.var 6), (.var 7), (.var 8)]))),
  (.asg (.tp [(.nm 9), (.nm 10)]) (.tup [(.blt .tuple [(.comp false (.tp [(.nm 7), (.nm 8)]) (.val (.var 5)) none (.var 7))]), (.blt .tuple [(.comp false (.tp [(.nm 7), (.nm 8)]) (.val (.var 5)) none (.var 8))])])),
  (.ret (.tup [(.tup [(.cst (.str "member")), (.ix (.var 1) (.cst (.int 1))), (.var 9)]), (.tup [(.cst (.str "member")), (.ix (.var 2) (.cst (.int 1))), (.var 10)])]))]
class H_meet (T : List (Str × FDef)) : Prop extends PG.H_is_note T, PG.H_members_meet T, PG.H_simples T, PG.H_with_note T where
  lk_meet : HasD T "meet" 3 11 b_meet
theorem call_meet {T : List (Str × FDef)} [h : H_meet T] (k : Nat) (vs : List PV) (M : Sto) (Q : Q1) : callN T (k + 1) "meet" vs M Q ↔ (vs.length = 3 ∧ wpSs (callN T k) b_meet (startN 11 vs) M (fnEnds Q)) := callN_has h.lk_meet
def b_holds_of : List S := [(.ret (.ix (.var 0) (.neg (.cst (.int 1)))))]
class H_holds_of (T : List (Str × FDef)) : Prop where
  lk_holds_of : HasD T "holds_of" 1 1 b_holds_of
theorem call_holds_of {T : List (Str × FDef)} [h : H_holds_of T] (k : Nat) (vs : List PV) (M : Sto) (Q : Q1) : callN T (k + 1) "holds_of" vs M Q ↔ (vs.length = 1 ∧ wpSs (callN T k) b_holds_of (startN 1 vs) M (fnEnds Q)) := callN_has h.lk_holds_of
def b_bare_parts : List S := [(.ite (.cmp .is (.var 1) (.cst .non)) [(.ret (.comp false (.nm 2) (.val (.call "simples" [(.var 0)])) none (.cst (.tup [(.bl false), (.int 0)]))))] []),
  (.ret (.comp false (.nm 3) (.val (.call "holds_of" [(.var 1)])) none (.sl (.var 3) none (some (.cst (.int 2))))))]
class H_bare_parts (T : List (Str × FDef)) : Prop extends PG.H_holds_of T, PG.H_simples T where
  lk_bare_parts : HasD T "bare_parts" 2 4 b_bare_parts
theorem call_bare_parts {T : List (Str × FDef)} [h : H_bare_parts T] (k : Nat) (vs : List PV) (M : Sto) (Q : Q1) : callN T (k + 1) "bare_parts" vs M Q ↔ (vs.length = 2 ∧ wpSs (callN T k) b_bare_parts (startN 4 vs) M (fnEnds Q)) := callN_has h.lk_bare_parts
def b_is_shift : List S := [(.asg (.tp [(.nm 3), (.nm 4)]) (.call "meet" [(.var 0), (.var 1), (.var 2)])),
  (.ite (.cmp .ne (.call "bare_parts" [(.var 0), (.var 3)]) (.call "bare_parts" [(.var 0), (.var 1)])) [(.ret (.cst (.bl true)))] []),
  (.ret (.cmp .ne (.call "bare_parts" [(.var 0), (.var 4)]) (.call "bare_parts" [(.var 0), (.var 2)])))]
class H_is_shift (T : List (Str × FDef)) : Prop extends PG.H_bare_parts T, PG.H_meet T where
  lk_is_shift : HasD T "is_shift" 3 5 b_is_shift
theorem call_is_shift {T : List (Str × FDef)} [h : H_is_shift T] (k : Nat) (vs : List PV) (M : Sto) (Q : Q1) : callN T (k + 1) "is_shift" vs M Q ↔ (vs.length = 3 ∧ wpSs (callN T k) b_is_shift (startN 5 vs) M (fnEnds Q)) := callN_has h.lk_is_shift
def b_shifts_L2 : List S := [(.aug 2 .add (.bin .mul (.var 3) (.blt .len [(.comp false (.tp [(.nm 5), (.nm 6)]) (.val (.var 4)) (some (.call "is_shift" [(.var 0), (.var 5), (.var 6)])) (.cst (.int 1)))])))]
def b_shifts : List S := [(.asg (.nm 2) (.cst (.int 0))),
  (.for_ (.tp [(.nm 3), (.nm 4)]) (.val (.var 1)) b_shifts_L2),
  (.ret (.var 2))]
class H_shifts (T : List (Str × FDef)) : Prop extends PG.H_is_shift T where
  lk_shifts : HasD T "shifts" 2 7 b_shifts
theorem call_shifts {T : List (Str × FDef)} [h : H_shifts T] (k : Nat) (vs : List PV) (M : Sto) (Q : Q1) : callN T (k + 1) "shifts" vs M Q ↔ (vs.length = 2 ∧ wpSs (callN T k) b_shifts (startN 7 vs) M (fnEnds Q)) := callN_has h.lk_shifts
end PG
namespace LA
open PySem SG
def b__law_hand_L3 : List S := [(.asg (.nm 3) (.bin .mod (.bin .add (.bin .add (.bin .mul (.var 3) (.cst (.int 69621))) (.bin .mul (.cst (.int 2)) (.blt .abs [(.var 4)]))) (.blt .int [(.cmp .lt (.var 4) (.cst (.int 0)))])) (.cst (.int 2305843009213693951))))]
def b__law_hand : List S := [(.asg (.nm 2) (.ite (.cmp .lt (.var 1) (.blt .len [(.var 0)])) (.ix (.var 0) (.var 1)) (.cst (.int 0)))),
  (.asg (.nm 3) (.bin .add (.cst (.int 700001)) (.bin .mul (.cst (.int 104729)) (.var 1)))),
  (.for_ (.nm 4) (.val (.sl (.var 0) none (some (.cst (.int 60))))) b__law_hand_L3),
  (.ret (.lst true [(.ite (.cmp .ge (.blt .abs [(.var 2)]) (.bin .pow (.cst (.int 10)) (.cst (.int 18)))) (.blt .abs [(.var 2)]) (.cst (.int 0))), (.var 3), (.cst (.int 0))]))]
class H__law_hand (T : List (Str × FDef)) : Prop where
  lk__law_hand : HasD T "_law_hand" 2 5 b__law_hand
theorem call__law_hand {T : List (Str × FDef)} [h : H__law_hand T] (k : Nat) (vs : List PV) (M : Sto) (Q : Q1) : callN T (k + 1) "_law_hand" vs M Q ↔ (vs.length = 2 ∧ wpSs (callN T k) b__law_hand (startN 5 vs) M (fnEnds Q)) := callN_has h.lk__law_hand
def b__law_take : List S := [(.ite (.cmp .gt (.ix (.var 0) (.cst (.int 0))) (.cst (.int 0))) [(.asg (.nm 2) (.bin .mod (.ix (.var 0) (.cst (.int 0))) (.var 1))), (.six (.var 0) (.cst (.int 0)) (.bin .fdiv (.ix (.var 0) (.cst (.int 0))) (.var 1))), (.ret (.var 2))] []),
  (.six (.var 0) (.cst (.int 2)) (.bin .add (.ix (.var 0) (.cst (.int 2))) (.cst (.int 1)))),
  (.asg (.nm 3) (.ix (.lst false [(.cst (.int 2305843009213693921)), (.cst (.int 999999999989)), (.cst (.int 2305843009213693907)), (.cst (.int 67280421310721))]) (.bin .mod (.ix (.var 0) (.cst (.int 2))) (.cst (.int 4))))),
  (.asg (.nm 4) (.bin .add (.ix (.var 0) (.cst (.int 1))) (.bin .mul (.bin .mul (.cst (.int 15485863)) (.ix (.var 0) (.cst (.int 2)))) (.ix (.var 0) (.cst (.int 2)))))),
  (.asg (.nm 4) (.bin .mod (.bin .add (.var 4) (.bin .mul (.cst (.int 32452843)) (.ix (.var 0) (.cst (.int 2))))) (.var 3))),
  (.asg (.nm 4) (.bin .mod (.bin .mul (.var 4) (.bin .add (.bin .mod (.var 4) (.cst (.int 1000003))) (.bin .mul (.cst (.int 7919)) (.ix (.var 0) (.cst (.int 2)))))) (.var 3))),
  (.ret (.bin .mod (.bin .add (.bin .fdiv (.var 4) (.cst (.int 4099))) (.bin .fdiv (.var 4) (.cst (.int 1000033)))) (.var 1)))]
class H__law_take (T : List (Str × FDef)) : Prop where
  lk__law_take : HasD T "_law_take" 2 5 b__law_take
theorem call__law_take {T : List (Str × FDef)} [h : H__law_take T] (k : Nat) (vs : List PV) (M : Sto) (Q : Q1) : callN T (k + 1) "_law_take" vs M Q ↔ (vs.length = 2 ∧ wpSs (callN T k) b__law_take (startN 5 vs) M (fnEnds Q)) := callN_has h.lk__law_take
def b__law_of : List S := [(.ret (.ix (.var 1) (.call "_law_take" [(.var 0), (.blt .len [(.var 1)])])))]
class H__law_of (T : List (Str × FDef)) : Prop extends LA.H__law_take T where
  lk__law_of : HasD T "_law_of" 2 2 b__law_of
theorem call__law_of {T : List (Str × FDef)} [h : H__law_of T] (k : Nat) (vs : List PV) (M : Sto) (Q : Q1) : callN T (k + 1) "_law_of" vs M Q ↔ (vs.length = 2 ∧ wpSs (callN T k) b__law_of (startN 2 vs) M (fnEnds Q)) := callN_has h.lk__law_of
def b__law_worth : List S := [(.asg (.nm 1) (.bin .sub (.call "_law_take" [(.var 0), (.cst (.int 19))]) (.cst (.int 9)))),
  (.ret (.call "_law_of" [(.var 0), (.lst false [(.cst (.int 0)), (.cst (.int 1)), (.neg (.cst (.int 1))), (.cst (.int 2)), (.neg (.cst (.int 3))), (.cst (.int 9)), (.neg (.cst (.int 9))), (.var 1)])]))]
class H__law_worth (T : List (Str × FDef)) : Prop extends LA.H__law_of T, LA.H__law_take T where
  lk__law_worth : HasD T "_law_worth" 1 2 b__law_worth
theorem call__law_worth {T : List (Str × FDef)} [h : H__law_worth T] (k : Nat) (vs : List PV) (M : Sto) (Q : Q1) : callN T (k + 1) "_law_worth" vs M Q ↔ (vs.length = 1 ∧ wpSs (callN T k) b__law_worth (startN 2 vs) M (fnEnds Q)) := callN_has h.lk__law_worth
def b__law_simple : List S := [(.asg (.nm 2) (.blt .tuple [(.comp false (.nm 3) (.rng (.var 1)) none (.call "_law_worth" [(.var 0)]))])),
  (.ite (.cmp .eq (.call "_law_take" [(.var 0), (.cst (.int 3))]) (.cst (.int 0))) [(.asg (.nm 4) (.bin .add (.cst (.int 2)) (.call "_law_take" [(.var 0), (.cst (.int 8))]))), (.ret (.tup [(.cst (.str "rest")), (.var 2), (.call "_law_take" [(.var 0), (.var 4)]), (.var 4)]))] []),
  (.asg (.nm 5) (.bin .sub (.call "_law_take" [(.var 0), (.cst (.int 41))]) (.cst (.int 20)))),
  (.ret (.tup [(.cst (.str "sum")), (.var 2), (.call "_law_of" [(.var 0), (.lst false [(.cst (.int 0)), (.cst (.int 1)), (.neg (.cst (.int 1))), (.cst (.int 2)), (.cst (.int 5)), (.neg (.cst (.int 7))), (.cst (.int 20)), (.neg (.cst (.int 20))), (.var 5)])])]))]
class H__law_simple (T : List (Str × FDef)) : Prop extends LA.H__law_of T, LA.H__law_take T, LA.H__law_worth T where
  lk__law_simple : HasD T "_law_simple" 2 6 b__law_simple
theorem call__law_simple {T : List (Str × FDef)} [h : H__law_simple T] (k : Nat) (vs : List PV) (M : Sto) (Q : Q1) : callN T (k + 1) "_law_simple" vs M Q ↔ (vs.length = 2 ∧ wpSs (callN T k) b__law_simple (startN 6 vs) M (fnEnds Q)) := callN_has h.lk__law_simple
def b__law_size : List S := [(.ite (.cmp .eq (.ix (.var 0) (.cst (.int 0))) (.cst (.str "rest"))) [(.ret (.bin .sub (.ix (.var 0) (.cst (.int 3))) (.cst (.int 1))))] []),
  (.asg (.nm 1) (.comp false (.nm 2) (.val (.ix (.var 0) (.cst (.int 1)))) none (.blt .abs [(.var 2)]))),
  (.ret (.blt .max [(.bin .add (.var 1) (.lst false [(.bin .add (.blt .abs [(.ix (.var 0) (.cst (.int 2)))]) (.cst (.int 1)))]))]))]
class H__law_size (T : List (Str × FDef)) : Prop where
  lk__law_size : HasD T "_law_size" 1 3 b__law_size
theorem call__law_size {T : List (Str × FDef)} [h : H__law_size T] (k : Nat) (vs : List PV) (M : Sto) (Q : Q1) : callN T (k + 1) "_law_size" vs M Q ↔ (vs.length = 1 ∧ wpSs (callN T k) b__law_size (startN 3 vs) M (fnEnds Q)) := callN_has h.lk__law_size
def b__law_says : List S := [(.ite (.cmp .eq (.ix (.var 0) (.cst (.int 0))) (.cst (.str "rest"))) [(.ret (.cmp .eq (.bin .mod (.var 1) (.ix (.var 0) (.cst (.int 3)))) (.ix (.var 0) (.cst (.int 2)))))] []),
  (.ret (.cmp .ge (.var 1) (.ix (.var 0) (.cst (.int 2)))))]
class H__law_says (T : List (Str × FDef)) : Prop where
  lk__law_says : HasD T "_law_says" 2 2 b__law_says
theorem call__law_says {T : List (Str × FDef)} [h : H__law_says T] (k : Nat) (vs : List PV) (M : Sto) (Q : Q1) : callN T (k + 1) "_law_says" vs M Q ↔ (vs.length = 2 ∧ wpSs (callN T k) b__law_says (startN 2 vs) M (fnEnds Q)) := callN_has h.lk__law_says
def b__law_poured_L4 : List S := [(.asg (.tp [(.nm 1), (.nm 2)]) (.tup [(.bin .add (.var 1) (.cst (.int 1))), (.bin .sub (.var 2) (.cst (.int 1)))]))]
def b__law_poured_L6 : List S := [(.asg (.tp [(.nm 1), (.nm 2)]) (.tup [(.bin .sub (.var 1) (.cst (.int 1))), (.bin .add (.var 2) (.cst (.int 1)))]))]
def b__law_poured : List S := [(.ite (.cmp .eq (.ix (.var 0) (.cst (.int 0))) (.cst (.str "rest"))) [(.ret (.tup [(.bin .mod (.bin .add (.var 1) (.var 2)) (.ix (.var 0) (.cst (.int 3)))), (.cst (.int 0))]))] []),
  (.asg (.nm 3) (.call "_law_size" [(.var 0)])),
  (.while_ (.and (.cmp .gt (.var 2) (.cst (.int 0))) (.cmp .lt (.var 1) (.var 3))) b__law_poured_L4),
  (.while_ (.and (.cmp .lt (.var 2) (.cst (.int 0))) (.cmp .gt (.var 1) (.neg (.var 3)))) b__law_poured_L6),
  (.ret (.tup [(.var 1), (.var 2)]))]
class H__law_poured (T : List (Str × FDef)) : Prop extends LA.H__law_size T where
  lk__law_poured : HasD T "_law_poured" 3 4 b__law_poured
theorem call__law_poured {T : List (Str × FDef)} [h : H__law_poured T] (k : Nat) (vs : List PV) (M : Sto) (Q : Q1) : callN T (k + 1) "_law_poured" vs M Q ↔ (vs.length = 3 ∧ wpSs (callN T k) b__law_poured (startN 4 vs) M (fnEnds Q)) := callN_has h.lk__law_poured
def b__law_pair : List S := [(.ite (.and (.not (.ix (.var 1) (.cst (.int 0)))) (.not (.ix (.var 2) (.cst (.int 0))))) [(.ret (.tup [(.var 1), (.var 2)]))] []),
  (.asg (.tp [(.nm 3), (.nm 4)]) (.ite (.ix (.var 1) (.cst (.int 0))) (.tup [(.var 1), (.var 2)]) (.tup [(.var 2), (.var 1)]))),
  (.asg (.tp [(.nm 5), (.nm 6)]) (.call "_law_poured" [(.var 0), (.ix (.var 3) (.cst (.int 1))), (.ix (.var 4) (.cst (.int 1)))])),
  (.asg (.nm 7) (.call "_law_says" [(.var 0), (.var 5)])),
  (.asg (.nm 8) (.tup [(.tup [(.cst (.bl true)), (.var 5), (.var 7)]), (.tup [(.cst (.bl false)), (.var 6), (.var 7)])])),
  (.ret (.ite (.ix (.var 1) (.cst (.int 0))) (.var 8) (.rev (.var 8))))]
class H__law_pair (T : List (Str × FDef)) : Prop extends LA.H__law_poured T, LA.H__law_says T where
  lk__law_pair : HasD T "_law_pair" 3 9 b__law_pair
theorem call__law_pair {T : List (Str × FDef)} [h : H__law_pair T] (k : Nat) (vs : List PV) (M : Sto) (Q : Q1) : callN T (k + 1) "_law_pair" vs M Q ↔ (vs.length = 3 ∧ wpSs (callN T k) b__law_pair (startN 9 vs) M (fnEnds Q)) := callN_has h.lk__law_pair
def b__law_noted : List S := [(.asg (.tp [(.nm 3), (.nm 4)]) (.call "_law_poured" [(.var 0), (.ix (.var 1) (.cst (.int 1))), (.ix (.var 2) (.cst (.int 1)))])),
  (.ite (.or (.ix (.var 1) (.cst (.int 0))) (.ix (.var 2) (.cst (.int 0)))) [(.ret (.tup [(.tup [(.cst (.bl true)), (.var 3), (.call "_law_says" [(.var 0), (.var 3)])]), (.tup [(.cst (.bl false)), (.var 4)])]))] []),
  (.ret (.tup [(.tup [(.cst (.bl false)), (.var 3), (.ix (.var 1) (.cst (.int 2)))]), (.tup [(.cst (.bl false)), (.var 4)])]))]
class H__law_noted (T : List (Str × FDef)) : Prop extends LA.H__law_poured T, LA.H__law_says T where
  lk__law_noted : HasD T "_law_noted" 3 5 b__law_noted
theorem call__law_noted {T : List (Str × FDef)} [h : H__law_noted T] (k : Nat) (vs : List PV) (M : Sto) (Q : Q1) : callN T (k + 1) "_law_noted" vs M Q ↔ (vs.length = 3 ∧ wpSs (callN T k) b__law_noted (startN 5 vs) M (fnEnds Q)) := callN_has h.lk__law_noted
def b__law_met_L6 : List S := [(.asg (.nm 9) (.call "_law_pair" [(.var 6), (.var 7), (.var 8)])), (.ite (.var 5) [(.asg (.nm 9) (.call "_law_noted" [(.var 6), (.var 7), (.var 8)]))] []), (.expr (.mth .append (.var 3) [(.ix (.var 9) (.cst (.int 0)))])), (.expr (.mth .append (.var 4) [(.ix (.var 9) (.cst (.int 1)))]))]
def b__law_met : List S := [(.ite (.cmp .eq (.ix (.var 1) (.cst (.int 0))) (.cst (.str "note"))) [(.ite (.cmp .eq (.ix (.var 2) (.cst (.int 0))) (.cst (.str "note"))) [(.ret (.tup [(.var 1), (.var 2)]))] []), (.ret (.rev (.call "_law_met" [(.var 0), (.var 2), (.var 1)])))] []),
  (.asg (.tp [(.nm 3), (.nm 4), (.nm 5)]) (.tup [(.lst true []), (.lst true []), (.cmp .eq (.ix (.var 2) (.cst (.int 0))) (.cst (.str "note")))])),
  (.for_ (.tp [(.nm 6), (.nm 7), (.nm 8)]) (.zip [(.var 0), (.ix (.var 1) (.cst (.int 2))), (.ix (.var 2) (.neg (.cst (.int 1))))]) b__law_met_L6),
  (.asg (.nm 10) (.tup [(.cst (.str "member")), (.ix (.var 1) (.cst (.int 1))), (.blt .tuple [(.var 3)])])),
  (.ite (.not (.var 5)) [(.ret (.tup [(.var 10), (.tup [(.cst (.str "member")), (.ix (.var 2) (.cst (.int 1))), (.blt .tuple [(.var 4)])])]))] []),
  (.ite (.blt .all [(.comp false (.nm 11) (.val (.var 4)) none (.cmp .eq (.var 11) (.tup [(.cst (.bl false)), (.cst (.int 0))])))]) [(.ret (.tup [(.var 10), (.cst .non)]))] []),
  (.ret (.tup [(.var 10), (.tup [(.cst (.str "note")), (.blt .tuple [(.var 4)])])]))]
class H__law_met (T : List (Str × FDef)) : Prop extends LA.H__law_noted T, LA.H__law_pair T where
  lk__law_met : HasD T "_law_met" 3 12 b__law_met
theorem call__law_met {T : List (Str × FDef)} [h : H__law_met T] (k : Nat) (vs : List PV) (M : Sto) (Q : Q1) : callN T (k + 1) "_law_met" vs M Q ↔ (vs.length = 3 ∧ wpSs (callN T k) b__law_met (startN 12 vs) M (fnEnds Q)) := callN_has h.lk__law_met
def b__law_member_L2 : List S := [(.asg (.tp [(.nm 5), (.nm 6)]) (.tup [(.call "_law_size" [(.var 4)]), (.cmp .eq (.call "_law_take" [(.var 0), (.cst (.int 2))]) (.cst (.int 0)))])), (.asg (.nm 7) (.ite (.cmp .eq (.ix (.var 4) (.cst (.int 0))) (.cst (.str "rest"))) (.cst (.int 0)) (.neg (.var 5)))), (.asg (.nm 8) (.bin .add (.var 7) (.call "_law_take" [(.var 0), (.bin .add (.bin .sub (.var 5) (.var 7)) (.cst (.int 1)))]))), (.asg (.nm 9) (.call "_law_of" [(.var 0), (.lst false [(.var 7), (.var 5), (.cst (.int 0)), (.var 8), (.var 8)])])), (.asg (.nm 10) (.cmp .eq (.call "_law_take" [(.var 0), (.cst (.int 2))]) (.cst (.int 0)))), (.asg (.nm 10) (.ite (.var 6) (.call "_law_says" [(.var 4), (.var 9)]) (.var 10))), (.expr (.mth .append (.var 3) [(.tup [(.var 6), (.var 9), (.var 10)])]))]
def b__law_member : List S := [(.asg (.nm 3) (.lst true [])),
  (.for_ (.nm 4) (.val (.var 1)) b__law_member_L2),
  (.ret (.tup [(.cst (.str "member")), (.var 2), (.blt .tuple [(.var 3)])]))]
class H__law_member (T : List (Str × FDef)) : Prop extends LA.H__law_of T, LA.H__law_says T, LA.H__law_size T, LA.H__law_take T where
  lk__law_member : HasD T "_law_member" 3 11 b__law_member
theorem call__law_member {T : List (Str × FDef)} [h : H__law_member T] (k : Nat) (vs : List PV) (M : Sto) (Q : Q1) : callN T (k + 1) "_law_member" vs M Q ↔ (vs.length = 3 ∧ wpSs (callN T k) b__law_member (startN 11 vs) M (fnEnds Q)) := callN_has h.lk__law_member
def b__law_note_L2 : List S := [(.asg (.nm 4) (.call "_law_size" [(.var 3)])), (.asg (.tp [(.nm 5), (.nm 6)]) (.ite (.cmp .eq (.ix (.var 3) (.cst (.int 0))) (.cst (.str "rest"))) (.tup [(.cst (.int 0)), (.var 4)]) (.tup [(.bin .mul (.neg (.cst (.int 2))) (.var 4)), (.bin .mul (.cst (.int 2)) (.var 4))]))), (.asg (.nm 7) (.bin .add (.var 5) (.call "_law_take" [(.var 0), (.bin .add (.bin .sub (.var 6) (.var 5)) (.cst (.int 1)))]))), (.asg (.nm 8) (.call "_law_of" [(.var 0), (.lst false [(.cst (.int 0)), (.var 5), (.var 6), (.var 7)])])), (.expr (.mth .append (.var 2) [(.tup [(.cmp .eq (.call "_law_take" [(.var 0), (.cst (.int 3))]) (.cst (.int 0))), (.var 8)])]))]
def b__law_note : List S := [(.asg (.nm 2) (.lst true [])),
  (.for_ (.nm 3) (.val (.var 1)) b__law_note_L2),
  (.ite (.blt .all [(.comp false (.nm 9) (.val (.var 2)) none (.cmp .eq (.var 9) (.tup [(.cst (.bl false)), (.cst (.int 0))])))]) [(.six (.var 2) (.cst (.int 0)) (.tup [(.cst (.bl true)), (.cst (.int 0))]))] []),
  (.ret (.tup [(.cst (.str "note")), (.blt .tuple [(.var 2)])]))]
class H__law_note (T : List (Str × FDef)) : Prop extends LA.H__law_of T, LA.H__law_size T, LA.H__law_take T where
  lk__law_note : HasD T "_law_note" 2 10 b__law_note
theorem call__law_note {T : List (Str × FDef)} [h : H__law_note T] (k : Nat) (vs : List PV) (M : Sto) (Q : Q1) : callN T (k + 1) "_law_note" vs M Q ↔ (vs.length = 2 ∧ wpSs (callN T k) b__law_note (startN 10 vs) M (fnEnds Q)) := callN_has h.lk__law_note
def b__law_saying : List S := [(.asg (.nm 3) (.call "_law_take" [(.var 0), (.cst (.int 4))])),
  (.ite (.or (.cmp .lt (.var 2) (.cst (.int 2))) (.cmp .eq (.var 3) (.cst (.int 0)))) [(.ret (.call "_law_simple" [(.var 0), (.var 1)]))] []),
  (.asg (.nm 4) (.call "_law_saying" [(.var 0), (.var 1), (.bin .sub (.var 2) (.cst (.int 1)))])),
  (.ite (.cmp .eq (.var 3) (.cst (.int 1))) [(.ret (.tup [(.cst (.str "not")), (.var 4)]))] []),
  (.ret (.tup [(.ix (.lst false [(.cst (.str "and")), (.cst (.str "or"))]) (.bin .sub (.var 3) (.cst (.int 2)))), (.var 4), (.call "_law_saying" [(.var 0), (.var 1), (.bin .sub (.var 2) (.cst (.int 1)))])]))]
class H__law_saying (T : List (Str × FDef)) : Prop extends LA.H__law_simple T, LA.H__law_take T where
  lk__law_saying : HasD T "_law_saying" 3 5 b__law_saying
theorem call__law_saying {T : List (Str × FDef)} [h : H__law_saying T] (k : Nat) (vs : List PV) (M : Sto) (Q : Q1) : callN T (k + 1) "_law_saying" vs M Q ↔ (vs.length = 3 ∧ wpSs (callN T k) b__law_saying (startN 5 vs) M (fnEnds Q)) := callN_has h.lk__law_saying
def b__law_singles_L5 : List S := [(.asg (.nm 1) (.bin .add (.var 1) (.bin .mul (.lst false [(.var 3)]) (.blt .int [(.cmp .notin (.var 3) (.var 1))]))))]
def b__law_singles_L4 : List S := [(.for_ (.nm 3) (.val (.call "_law_singles" [(.var 2)])) b__law_singles_L5)]
def b__law_singles : List S := [(.ite (.cmp .isin (.ix (.var 0) (.cst (.int 0))) (.tup [(.cst (.str "sum")), (.cst (.str "rest"))])) [(.ret (.lst false [(.var 0)]))] []),
  (.asg (.nm 1) (.lst false [])),
  (.for_ (.nm 2) (.val (.sl (.var 0) (some (.cst (.int 1))) none)) b__law_singles_L4),
  (.ret (.srt false (.var 1)))]
class H__law_singles (T : List (Str × FDef)) : Prop where
  lk__law_singles : HasD T "_law_singles" 1 4 b__law_singles
theorem call__law_singles {T : List (Str × FDef)} [h : H__law_singles T] (k : Nat) (vs : List PV) (M : Sto) (Q : Q1) : callN T (k + 1) "_law_singles" vs M Q ↔ (vs.length = 1 ∧ wpSs (callN T k) b__law_singles (startN 4 vs) M (fnEnds Q)) := callN_has h.lk__law_singles
def b__law_bare : List S := [(.ret (.ite (.cmp .is (.var 0) (.cst .non)) (.cst .non) (.comp false (.nm 1) (.val (.ix (.var 0) (.neg (.cst (.int 1))))) none (.sl (.var 1) none (some (.cst (.int 2)))))))]
class H__law_bare (T : List (Str × FDef)) : Prop where
  lk__law_bare : HasD T "_law_bare" 1 2 b__law_bare
theorem call__law_bare {T : List (Str × FDef)} [h : H__law_bare T] (k : Nat) (vs : List PV) (M : Sto) (Q : Q1) : callN T (k + 1) "_law_bare" vs M Q ↔ (vs.length = 1 ∧ wpSs (callN T k) b__law_bare (startN 2 vs) M (fnEnds Q)) := callN_has h.lk__law_bare
end LA
/-! order of plain data, things sorted, once each -/
namespace SY
open PySem SG
open PySem.W (keyToks keyToksAll alike alikeAll dataLt)
mutual
theorem toks_inj : ∀ (x y : PyData) (l m : List (Int ⊕ List Nat)), alike x y = true → keyToks x ++ l = keyToks y ++ m → x = y ∧ l = m
  | .none, y, l, m, h, e => by
    cases y with
    | none => exact ⟨rfl, by simpa [keyToks] using e⟩
    | _ => simp [alike] at h
  | .bool a, y, l, m, h, e => by
    cases y with
    | bool b =>
      simp only [keyToks, List.cons_append, List.nil_append, List.cons.injEq, Sum.inl.injEq] at e
      refine ⟨?_, e.2⟩
      cases a <;> cases b <;> simp_all
    | _ => simp [alike] at h
  | .int a, y, l, m, h, e => by
    cases y with
    | int b =>
      simp only [keyToks, List.cons_append, List.nil_append, List.cons.injEq, Sum.inl.injEq] at e
      exact ⟨by rw [e.1], e.2⟩
    | _ => simp [alike] at h
  | .str a, y, l, m, h, e => by
    cases y with
    | str b =>
      simp only [keyToks, List.cons_append, List.nil_append, List.cons.injEq, Sum.inr.injEq] at e
      exact ⟨by rw [PySem.W.str_of_cps e.1], e.2⟩
    | _ => simp [alike] at h
  | .list xs, y, l, m, h, e => by
    cases y with
    | list ys =>
      simp only [alike] at h
      simp only [keyToks] at e
      have t := toksAll_inj xs ys l m h e
      exact ⟨by rw [t.1], t.2⟩
    | _ => simp [alike] at h
  | .tuple xs, y, l, m, h, e => by
    cases y with
    | tuple ys =>
      simp only [alike] at h
      simp only [keyToks] at e
      have t := toksAll_inj xs ys l m h e
      exact ⟨by rw [t.1], t.2⟩
    | _ => simp [alike] at h
  | .dict _, y, _, _, h, _ => by cases y <;> simp [alike] at h
theorem toksAll_inj : ∀ (xs ys : List PyData) (l m : List (Int ⊕ List Nat)), alikeAll xs ys = true → keyToksAll xs ++ l = keyToksAll ys ++ m → xs = ys ∧ l = m
  | [], [], l, m, _, e => ⟨rfl, by simpa [keyToksAll] using e⟩
  | [], y :: ys, l, m, _, e => by simp [keyToksAll] at e
  | x :: xs, [], l, m, _, e => by simp [keyToksAll] at e
  | x :: xs, y :: ys, l, m, h, e => by
    obtain ⟨h1, h2⟩ := PySem.W.alike_all_cons h
    simp only [keyToksAll, List.cons_append, List.append_assoc, List.cons.injEq, true_and] at e
    obtain ⟨e1, e2⟩ := toks_inj x y _ _ h1 e
    obtain ⟨e3, e4⟩ := toksAll_inj xs ys l m h2 e2
    exact ⟨by rw [e1, e3], e4⟩
end
mutual
theorem ftoks : ∀ (x y : PyData) (l m : List (Int ⊕ List Nat)), fcmp x y → keyToks x ++ l = keyToks y ++ m → x = y ∧ l = m
  | .tuple xs, y, l, m, h, e => by
    obtain ⟨ys, rfl, h⟩ := fcmp_tt h
    simp only [keyToks] at e
    have t := ftoksAll xs ys l m h e
    exact ⟨by rw [t.1], t.2⟩
  | .none, y, l, m, h, e => toks_inj _ _ l m (fcmp_al h (by intro t z; cases z)) e
  | .bool _, y, l, m, h, e => toks_inj _ _ l m (fcmp_al h (by intro t z; cases z)) e
  | .int _, y, l, m, h, e => toks_inj _ _ l m (fcmp_al h (by intro t z; cases z)) e
  | .str _, y, l, m, h, e => toks_inj _ _ l m (fcmp_al h (by intro t z; cases z)) e
  | .list _, y, l, m, h, e => toks_inj _ _ l m (fcmp_al h (by intro t z; cases z)) e
  | .dict _, y, _, _, h, _ => by unfold fcmp at h; exact h.elim
theorem ftoksAll : ∀ (xs ys : List PyData) (l m : List (Int ⊕ List Nat)), fcmps xs ys → keyToksAll xs ++ l = keyToksAll ys ++ m → xs = ys ∧ l = m
  | [], [], l, m, _, e => ⟨rfl, by simpa [keyToksAll] using e⟩
  | [], y :: ys, l, m, _, e => by simp [keyToksAll] at e
  | x :: xs, [], l, m, _, e => by simp [keyToksAll] at e
  | x :: xs, y :: ys, l, m, h, e => by
    obtain ⟨h1, h2⟩ := fcmps_cons h
    simp only [keyToksAll, List.cons_append, List.append_assoc, List.cons.injEq, true_and] at e
    obtain ⟨e1, e2⟩ := ftoks x y _ _ h1 e
    obtain ⟨e3, e4⟩ := ftoksAll xs ys l m (h2 e1) e2
    exact ⟨by rw [e1, e3], e4⟩
end
theorem data_tri {x y : PyData} (h : fcmp x y) (h1 : dataLt x y = false) (h2 : dataLt y x = false) : x = y := by
  have e := PyProof.Rows.lex_total _ _ h1 h2
  exact (ftoks x y [] [] h (by simpa using e)).1
theorem data_irr (x : PyData) : dataLt x x = false := PyProof.Rows.lex_irrefl _
theorem data_trans {x y z : PyData} (h1 : dataLt x y = true) (h2 : dataLt y z = true) : dataLt x z = true := PyProof.Rows.lex_trans _ _ _ h1 h2
theorem data_asym {x y : PyData} (h : dataLt x y = true) : dataLt y x = false := by
  cases e : dataLt y x with
  | false => rfl
  | true =>
    have := data_trans h e
    rw [data_irr] at this
    cases this
/-- ≤ is transitive -/
theorem data_le_trans {x y z : PyData} (h1 : dataLt y x = false) (h2 : dataLt z y = false) : dataLt z x = false := by
  cases e : dataLt z x with
  | false => rfl
  | true =>
    cases e1 : dataLt x y with
    | true =>
      have := data_trans e e1
      rw [h2] at this
      cases this
    | false =>
      have e2 := PyProof.Rows.lex_total _ _ h1 e1
      unfold dataLt at e h2
      rw [e2] at h2
      rw [e] at h2
      cases h2
mutual
theorem dat_inj : ∀ {v u : PV}, v.pl = true → u.pl = true → v.dat = u.dat → v = u
  | .non, u, _, h, e => by cases u <;> simp [PV.dat, PV.pl] at e h ⊢
  | .bl a, u, _, h, e => by cases u <;> simp [PV.dat, PV.pl] at e h ⊢; exact e
  | .int a, u, _, h, e => by cases u <;> simp [PV.dat, PV.pl] at e h ⊢; exact e
  | .str a, u, _, h, e => by cases u <;> simp [PV.dat, PV.pl] at e h ⊢; exact e
  | .tup xs, u, g, h, e => by
    cases u <;> simp [PV.dat, PV.pl] at e h g ⊢
    exact dats_inj g h e
  | .lst xs, u, g, h, e => by
    cases u <;> simp [PV.dat, PV.pl] at e h g ⊢
    exact dats_inj g h e
  | .ref _, _, g, _, _ => by simp [PV.pl] at g
  | .fn _, _, g, _, _ => by simp [PV.pl] at g
  | .emp, _, g, _, _ => by simp [PV.pl] at g
theorem dats_inj : ∀ {v u : List PV}, PV.pls v = true → PV.pls u = true → PV.dats v = PV.dats u → v = u
  | [], [], _, _, _ => rfl
  | [], _ :: _, _, _, e => by simp [PV.dats] at e
  | _ :: _, [], _, _, e => by simp [PV.dats] at e
  | x :: r, y :: t, g, h, e => by
    simp only [PV.pls, Bool.and_eq_true] at g h
    simp only [PV.dats, List.cons.injEq] at e
    rw [dat_inj g.1 h.1 e.1, dats_inj g.2 h.2 e.2]
end
mutual
theorem key_inj : ∀ {v u : PV} {k : NestedKey}, v.key = some k → u.key = some k → fcmp v.dat u.dat → v = u
  | .non, u, k, h1, h2, h => by
    have h := fcmp_al h (by intro t z; simp [PV.dat] at z)
    cases u <;> simp [PV.dat, alike] at h ⊢ <;> simp [PV.key] at h1 h2 <;> (subst h1; cases h2)
  | .bl a, u, k, h1, h2, h => by
    have h := fcmp_al h (by intro t z; simp [PV.dat] at z)
    cases u <;> simp [PV.dat, alike] at h ⊢
    rename_i b
    simp only [PV.key, Option.some.injEq] at h1 h2
    subst h1
    cases a <;> cases b <;> simp_all
  | .int a, u, k, h1, h2, h => by
    have h := fcmp_al h (by intro t z; simp [PV.dat] at z)
    cases u <;> simp [PV.dat, alike] at h ⊢
    simp only [PV.key, Option.some.injEq] at h1 h2
    subst h1
    simpa using h2.symm
  | .str a, u, k, h1, h2, h => by
    have h := fcmp_al h (by intro t z; simp [PV.dat] at z)
    cases u <;> simp [PV.dat, alike] at h ⊢
    simp only [PV.key, Option.some.injEq] at h1 h2
    subst h1
    simpa using h2.symm
  | .tup xs, u, k, h1, h2, h => by
    cases u <;> simp [PV.dat, fcmp] at h ⊢
    simp only [PV.key, Option.map_eq_some_iff] at h1 h2
    obtain ⟨k1, e1, rfl⟩ := h1
    obtain ⟨k2, e2, e3⟩ := h2
    have e4 : k2 = k1 := by simpa using e3
    subst e4
    exact keys_inj e1 e2 h
  | .lst _, _, _, h1, _, _ => by simp [PV.key] at h1
  | .ref _, _, _, h1, _, _ => by simp [PV.key] at h1
  | .fn _, _, _, h1, _, _ => by simp [PV.key] at h1
  | .emp, _, _, h1, _, _ => by simp [PV.key] at h1
theorem keys_inj : ∀ {v u : List PV} {k : List NestedKey}, PV.keys v = some k → PV.keys u = some k → fcmps (PV.dats v) (PV.dats u) → v = u
  | [], u, k, h1, h2, h => by
    simp only [PV.keys, Option.some.injEq] at h1
    subst h1
    cases u with
    | nil => rfl
    | cons y t =>
      unfold PV.keys at h2
      split at h2 <;> cases h2
  | x :: r, u, k, h1, h2, h => by
    unfold PV.keys at h1
    split at h1
    · rename_i k1 ks1 e1 e2
      cases h1
      cases u with
      | nil => simp [PV.keys] at h2
      | cons y t =>
        unfold PV.keys at h2
        split at h2
        · rename_i k2 ks2 e3 e4
          have e5 : k2 :: ks2 = k1 :: ks1 := by simpa using h2
          cases e5
          simp only [PV.dats] at h
          obtain ⟨a1, a2⟩ := fcmps_cons h
          have e6 := key_inj e1 e3 a1
          rw [e6, keys_inj e2 e4 (a2 (by rw [e6]))]
        · cases h2
    · cases h1
end
/-! ### sorted, once each -/
section
variable {α : Type}
/-- strictly sorted lists of the same things are the same -/
theorem sorted_uniq {lt : α → α → Prop} (irr : ∀ a, ¬ lt a a) (tr : ∀ a b c, lt a b → lt b c → lt a c) : ∀ {xs ys : List α}, xs.Pairwise lt → ys.Pairwise lt → (∀ a, a ∈ xs ↔ a ∈ ys) → xs = ys
  | [], [], _, _, _ => rfl
  | [], y :: _, _, _, h => absurd ((h y).mpr List.mem_cons_self) (by simp)
  | x :: _, [], _, _, h => absurd ((h x).mp List.mem_cons_self) (by simp)
  | x :: r, y :: t, hx, hy, h => by
    rw [List.pairwise_cons] at hx hy
    have e : x = y := by
      rcases List.mem_cons.mp ((h x).mp List.mem_cons_self) with e | e
      · exact e
      · rcases List.mem_cons.mp ((h y).mpr List.mem_cons_self) with f | f
        · exact f.symm
        · exact absurd (tr _ _ _ (hy.1 x e) (hx.1 y f)) (irr y)
    subst e
    rw [sorted_uniq irr tr hx.2 hy.2 fun a => ⟨fun ha => ?_, fun ha => ?_⟩]
    · rcases List.mem_cons.mp ((h a).mp (List.mem_cons_of_mem _ ha)) with e | e
      · subst e; exact absurd (hx.1 a ha) (irr a)
      · exact e
    · rcases List.mem_cons.mp ((h a).mpr (List.mem_cons_of_mem _ ha)) with e | e
      · subst e; exact absurd (hy.1 a ha) (irr a)
      · exact e
variable {f : α → PV}
def ltV (f : α → PV) (a b : α) : Prop := dataLt (f a).dat (f b).dat = true
/-- ys: the things of xs once each, rising -/
structure Srt (f : α → PV) (xs ys : List α) : Prop where
  mem : ∀ a, a ∈ ys ↔ a ∈ xs
  ord : ys.Pairwise (ltV f)
theorem Srt.uniq {xs xs' ys ys' : List α} (h : Srt f xs ys) (h' : Srt f xs' ys') (e : ∀ a, a ∈ xs ↔ a ∈ xs') : ys = ys' :=
  sorted_uniq (lt := ltV f) (fun a h => by unfold ltV at h; rw [data_irr] at h; cases h) (fun a b c h1 h2 => data_trans h1 h2) h.ord h'.ord fun a => (h.mem a).trans ((e a).trans (h'.mem a).symm)
theorem Srt.same {xs xs' ys : List α} (h : Srt f xs ys) (e : ∀ a, a ∈ xs ↔ a ∈ xs') : Srt f xs' ys := ⟨fun a => (h.mem a).trans (e a), h.ord⟩
theorem Srt.nodup {xs ys : List α} (h : Srt f xs ys) : ys.Nodup := h.ord.imp fun {a b} h e => by
  unfold ltV at h
  rw [e, data_irr] at h
  cases h
/-- what the embedding must be: one that tells things apart, all alike -/
structure Emb (f : α → PV) : Prop where
  inj : ∀ a b, f a = f b → a = b
  pl : ∀ a, (f a).pl = true
  al : ∀ a b, fcmp (f a).dat (f b).dat
theorem Emb.lt (h : Emb f) {a b : α} (n : a ≠ b) (l : dataLt (f b).dat (f a).dat = false) : ltV f a b := by
  unfold ltV
  cases e : dataLt (f a).dat (f b).dat with
  | true => rfl
  | false => exact absurd (h.inj _ _ (dat_inj (h.pl a) (h.pl b) (data_tri (h.al a b) e l))) n
def ins (f : α → PV) (x : α) : List α → List α
  | [] => [x]
  | y :: r => if dataLt (f x).dat (f y).dat = true then x :: y :: r else if dataLt (f y).dat (f x).dat = true then y :: ins f x r else y :: r
theorem ins_mem (h : Emb f) (x : α) : ∀ (ys : List α) (a : α), a ∈ ins f x ys ↔ a = x ∨ a ∈ ys
  | [], a => by simp [ins]
  | y :: r, a => by
    unfold ins
    split
    · simp
    · split
      · rw [List.mem_cons, ins_mem h x r, List.mem_cons]
        constructor
        · rintro (e | e | e)
          · exact .inr (.inl e)
          · exact .inl e
          · exact .inr (.inr e)
        · rintro (e | e | e)
          · exact .inr (.inl e)
          · exact .inl e
          · exact .inr (.inr e)
      · rename_i h1 h2
        have e : x = y := Classical.byContradiction fun n => h1 (h.lt n (by simpa using h2))
        subst e
        simp
theorem ins_ord (h : Emb f) (x : α) : ∀ (ys : List α), ys.Pairwise (ltV f) → (ins f x ys).Pairwise (ltV f)
  | [], _ => by simp [ins]
  | y :: r, hp => by
    unfold ins
    rw [List.pairwise_cons] at hp
    split
    · rename_i h1
      refine List.pairwise_cons.mpr ⟨fun a ha => ?_, List.pairwise_cons.mpr hp⟩
      rcases List.mem_cons.mp ha with e | e
      · subst e; exact h1
      · exact data_trans h1 (hp.1 a e)
    · split
      · rename_i h2
        refine List.pairwise_cons.mpr ⟨fun a ha => ?_, ins_ord h x r hp.2⟩
        rcases (ins_mem h x r a).mp ha with e | e
        · subst e; exact h2
        · exact hp.1 a e
      · exact List.pairwise_cons.mpr hp
/-- the things of xs once each, rising -/
def srt (f : α → PV) (xs : List α) : List α := xs.foldr (ins f) []
theorem srt_ok (h : Emb f) : ∀ xs : List α, Srt f xs (srt f xs)
  | [] => ⟨fun a => Iff.rfl, .nil⟩
  | x :: r => by
    have ih := srt_ok h r
    refine ⟨fun a => ?_, ins_ord h x _ ih.ord⟩
    show a ∈ ins f x (srt f r) ↔ _
    rw [ins_mem h, ih.mem, List.mem_cons]
theorem Srt.eq (h : Emb f) {xs ys : List α} (s : Srt f xs ys) : ys = srt f xs := s.uniq (srt_ok h xs) fun _ => Iff.rfl
theorem srt_len (h : Emb f) : ∀ xs : List α, (srt f xs).length ≤ xs.length
  | [] => Nat.le_refl _
  | x :: r => by
    have il : ∀ ys : List α, (ins f x ys).length ≤ ys.length + 1 := by
      intro ys
      induction ys with
      | nil => simp [ins]
      | cons y t ih =>
        unfold ins
        split
        · simp
        · split
          · simp only [List.length_cons]; omega
          · simp
    have := srt_len h r
    have := il (srt f r)
    show (ins f x (srt f r)).length ≤ _
    rw [List.length_cons]
    omega
/-- sorted(set(..)) of such things -/
theorem sset_iff (h : Emb f) {xs : List α} (hi : ∀ x ∈ xs, ssItem (f x)) (hl : xs.length < 64) (mt : Bool) (M : Sto) (Q : Q1) : ssetS mt (.lst (xs.map f)) M Q ↔ newL mt ((srt f xs).map f) M Q := by
  have key : ∀ zs, Sset (xs.map f) zs ↔ zs = (srt f xs).map f := by
    intro zs
    have so := srt_ok h xs
    constructor
    · intro s
      have ex : ∃ ys : List α, zs = ys.map f := by
        have sub := s.sub
        clear s
        induction zs with
        | nil => exact ⟨[], rfl⟩
        | cons z r ih =>
          obtain ⟨ys, e⟩ := ih fun y hy => sub y (List.mem_cons_of_mem _ hy)
          obtain ⟨x, _, ex⟩ := List.mem_map.mp (sub z List.mem_cons_self)
          exact ⟨x :: ys, by rw [e, ← ex]; rfl⟩
      obtain ⟨ys, rfl⟩ := ex
      have st : Srt f xs ys := by
        refine ⟨fun a => ⟨fun ha => ?_, fun ha => ?_⟩, ?_⟩
        · obtain ⟨x, hx, e⟩ := List.mem_map.mp (s.sub _ (List.mem_map.mpr ⟨a, ha, rfl⟩))
          rw [← h.inj _ _ e]; exact hx
        · obtain ⟨z, hz, ek⟩ := s.all _ (List.mem_map.mpr ⟨a, ha, rfl⟩)
          obtain ⟨b, hb, rfl⟩ := List.mem_map.mp hz
          obtain ⟨_, _, k, _, e1, _⟩ := hi a ha
          rw [← h.inj _ _ (key_inj (ek.trans e1) e1 (h.al b a))]; exact hb
        · have nd := s.nd
          rw [List.map_map] at nd
          have o := List.pairwise_map.mp s.ord
          have nd' := List.pairwise_map.mp nd
          exact (o.and nd').imp fun {a b} ⟨h1, h2⟩ => h.lt (fun e => h2 (by rw [e])) h1
      rw [st.eq h]
    · rintro rfl
      refine ⟨fun y hy => ?_, fun v hv => ?_, ?_, ?_⟩
      · obtain ⟨a, ha, rfl⟩ := List.mem_map.mp hy
        exact List.mem_map.mpr ⟨a, (so.mem a).mp ha, rfl⟩
      · obtain ⟨a, ha, rfl⟩ := List.mem_map.mp hv
        exact ⟨f a, List.mem_map.mpr ⟨a, (so.mem a).mpr ha, rfl⟩, rfl⟩
      · rw [List.map_map]
        refine List.pairwise_map.mpr (so.ord.imp_of_mem fun {a b} ha hb h1 e => ?_)
        obtain ⟨_, _, k, _, e1, _⟩ := hi a ((so.mem a).mp ha)
        have e2 : f a = f b := key_inj e1 ((show (f a).key = (f b).key from e) ▸ e1) (h.al a b)
        unfold ltV at h1
        rw [e2, data_irr] at h1
        cases h1
      · exact List.pairwise_map.mpr (so.ord.imp fun {a b} h1 => data_asym h1)
  constructor
  · rintro ⟨ws, e, _, _, _, q⟩
    cases e
    exact q _ ((key _).mpr rfl)
  · intro q
    refine ⟨_, rfl, by rw [List.length_map]; exact hl, fun v hv => ?_, fun v hv u hu => ?_, fun ys hy => ?_⟩
    · obtain ⟨a, ha, rfl⟩ := List.mem_map.mp hv
      exact hi a ha
    · obtain ⟨a, ha, rfl⟩ := List.mem_map.mp hv
      obtain ⟨b, hb, rfl⟩ := List.mem_map.mp hu
      exact h.al a b
    · rw [(key ys).mp hy]; exact q
/-- sorted(..) of unlike such things -/
theorem psort_of (h : Emb f) {xs : List α} (nd : xs.Nodup) : psort (xs.map f) = (srt f xs).map f := by
  have e : psort (xs.map f) = (xs.mergeSort fun a b => !dataLt (f b).dat (f a).dat).map f := by
    unfold psort
    exact (List.map_mergeSort (f := f) (r := fun a b => !dataLt (f b).dat (f a).dat) (s := fun a b => !dataLt b.dat a.dat) fun a _ b _ => rfl).symm
  rw [e]
  have pm := List.mergeSort_perm xs fun a b => !dataLt (f b).dat (f a).dat
  have st : Srt f xs (xs.mergeSort fun a b => !dataLt (f b).dat (f a).dat) := by
    refine ⟨fun a => pm.mem_iff, ?_⟩
    have pw := List.pairwise_mergeSort (le := fun a b => !dataLt (f b).dat (f a).dat) (fun a b c h1 h2 => by
      simp only [Bool.not_eq_true'] at h1 h2 ⊢
      exact data_le_trans h1 h2) (fun a b => by
      cases e : dataLt (f b).dat (f a).dat with
      | false => rfl
      | true => simp [data_asym e]) xs
    have nd' : (xs.mergeSort fun a b => !dataLt (f b).dat (f a).dat).Pairwise (· ≠ ·) := pm.nodup_iff.mpr nd
    exact (pw.and nd').imp fun {a b} ⟨h1, h2⟩ => h.lt h2 (by simpa using h1)
  rw [st.eq h]
theorem srt_iff (h : Emb f) (hd : ∀ a, (f a).dep ≤ 40) (ht : (∀ a, (f a).isT = true) ∨ ∀ a, (f a).isO = true) {xs : List α} (nd : xs.Nodup) (mt : Bool) (M : Sto) (Q : Q1) : srtS mt (.lst (xs.map f)) M Q ↔ newL mt ((srt f xs).map f) M Q := by
  constructor
  · rintro ⟨ws, e, _, _, _, q⟩
    cases e
    rw [psort_of h nd] at q
    exact q
  · intro q
    refine ⟨_, rfl, fun v hv => ?_, ?_, fun v hv u hu => ?_, ?_⟩
    · obtain ⟨a, ha, rfl⟩ := List.mem_map.mp hv
      exact ⟨h.pl a, hd a⟩
    · rcases ht with t | t
      · exact .inl fun v hv => by
          obtain ⟨a, ha, rfl⟩ := List.mem_map.mp hv
          exact t a
      · exact .inr fun v hv => by
          obtain ⟨a, ha, rfl⟩ := List.mem_map.mp hv
          exact t a
    · obtain ⟨a, ha, rfl⟩ := List.mem_map.mp hv
      obtain ⟨b, hb, rfl⟩ := List.mem_map.mp hu
      exact h.al a b
    · rw [psort_of h nd]; exact q
end
end SY
/-! sayings, members, notes, meetings: the plain things -/
namespace SY
open PySem SG
open PySem.W (alike alikeAll dataLt)
theorem alike_ints : ∀ (xs ys : List Int), alikeAll (PV.dats (xs.map PV.int)) (PV.dats (ys.map PV.int)) = true
  | [], ys => by simp [PV.dats, alikeAll]
  | x :: xs, [] => by simp [PV.dats, alikeAll]
  | x :: xs, y :: ys => by
    rw [List.map_cons, List.map_cons]
    simp only [PV.dats, PV.dat, alikeAll, alike, Bool.true_and]
    exact alike_ints xs ys
theorem map_int_inj : ∀ {xs ys : List Int}, xs.map PV.int = ys.map PV.int → xs = ys
  | [], [], _ => rfl
  | [], _ :: _, e => by simp at e
  | _ :: _, [], e => by simp at e
  | x :: xs, y :: ys, e => by
    rw [List.map_cons, List.map_cons] at e
    injection e with e1 e2
    injection e1 with e1
    rw [e1, map_int_inj e2]
theorem pls_ints (ws : List Int) : PV.pls (ws.map PV.int) = true := pls_map (f := PV.int) (fun _ => by simp [PV.pl]) ws
/-! ### simple sayings -/
inductive Sm where
  | sum (ws : List Int) (c : Int)
  | rest (ws : List Int) (r m : Int)
deriving DecidableEq
structure WsOk (ws : List Int) : Prop where
  l1 : 1 ≤ ws.length
  l6 : ws.length ≤ 6
  w : ∀ w ∈ ws, -9 ≤ w ∧ w ≤ 9
namespace Sm
def ws : Sm → List Int
  | .sum ws _ => ws
  | .rest ws _ _ => ws
def pv : Sm → PV
  | .sum ws c => .tup [.str "sum", .tup (ws.map .int), .int c]
  | .rest ws r m => .tup [.str "rest", .tup (ws.map .int), .int r, .int m]
def Ok : Sm → Prop
  | .sum ws c => WsOk ws ∧ -20 ≤ c ∧ c ≤ 20
  | .rest ws r m => WsOk ws ∧ 2 ≤ m ∧ m ≤ 9 ∧ 0 ≤ r ∧ r < m
theorem Ok.ws {s : Sm} (h : s.Ok) : WsOk s.ws := by cases s <;> exact h.1
def isSum : Sm → Bool
  | .sum .. => true
  | .rest .. => false
theorem sok1 : PyData.strOk (Str.ofString "sum") = true := by decide +kernel
theorem sok2 : PyData.strOk (Str.ofString "rest") = true := by decide +kernel
theorem sne : Str.ofString "sum" ≠ Str.ofString "rest" := by decide +kernel
theorem sne' : Str.ofString "rest" ≠ Str.ofString "sum" := by decide +kernel
theorem pl (s : Sm) : s.pv.pl = true := by
  cases s <;> simp [pv, PV.pl, PV.pls, sok1, sok2, pls_ints]
theorem al (s t : Sm) : alike s.pv.dat t.pv.dat = true := by
  cases s <;> cases t <;> simp [pv, PV.dat, PV.dats, alike, alikeAll, alike_ints]
theorem inj (s t : Sm) (e : s.pv = t.pv) : s = t := by
  cases s with
  | sum ws c =>
    cases t with
    | sum ws' c' =>
      simp only [pv, PV.tup.injEq, List.cons.injEq, PV.int.injEq, and_true, true_and] at e
      rw [map_int_inj e.1, e.2]
    | rest ws' r m => simp [pv] at e
  | rest ws r m =>
    cases t with
    | sum ws' c' => simp [pv] at e
    | rest ws' r' m' =>
      simp only [pv, PV.tup.injEq, List.cons.injEq, PV.int.injEq, and_true, true_and] at e
      rw [map_int_inj e.1, e.2.1, e.2.2]
theorem emb : Emb Sm.pv := ⟨inj, pl, fun a b => al_fcmp (al a b)⟩
theorem dep2 (s : Sm) : s.pv.dep ≤ 2 := by
  cases s <;> simp [pv, PV.dep, PV.deps, deps_ints]
theorem item (s : Sm) : ssItem s.pv := by
  have d := dep2 s
  cases s with
  | sum ws c => exact ⟨_, _, .tup [.text "sum", .tup (ws.map .num), .num c], rfl, by simp [pv, PV.key, PV.keys, keys_ints], by simp [NestedKey.depth, NestedKey.depthAll, kdep_nums], pl _, by omega⟩
  | rest ws r m => exact ⟨_, _, .tup [.text "rest", .tup (ws.map .num), .num r, .num m], rfl, by simp [pv, PV.key, PV.keys, keys_ints], by simp [NestedKey.depth, NestedKey.depthAll, kdep_nums], pl _, by omega⟩
theorem isT (s : Sm) : s.pv.isT = true := by cases s <;> rfl
end Sm
def absI (x : Int) : Int := if x < 0 then -x else x
/-- the greatest of all these, and of b -/
def mxA (b : Int) (ws : List Int) : Int := ws.foldr (fun w m => if absI w > m then absI w else m) b
theorem mxA_ge (b : Int) : ∀ ws : List Int, b ≤ mxA b ws ∧ ∀ w ∈ ws, absI w ≤ mxA b ws
  | [] => ⟨Int.le_refl _, fun w hw => by cases hw⟩
  | x :: r => by
    obtain ⟨h1, h2⟩ := mxA_ge b r
    have e : mxA b (x :: r) = if absI x > mxA b r then absI x else mxA b r := rfl
    rw [e]
    refine ⟨by split <;> omega, fun w hw => ?_⟩
    rcases List.mem_cons.mp hw with q | q
    · rw [q]; split <;> omega
    · have := h2 w q
      split <;> omega
theorem mxA_le {b B : Int} (hb : b ≤ B) : ∀ ws : List Int, (∀ w ∈ ws, absI w ≤ B) → mxA b ws ≤ B
  | [], _ => hb
  | x :: r, h => by
    have ih := mxA_le hb r fun w hw => h w (List.mem_cons_of_mem _ hw)
    have e : mxA b (x :: r) = if absI x > mxA b r then absI x else mxA b r := rfl
    have := h x List.mem_cons_self
    rw [e]
    split <;> omega
theorem mxA_mem (b : Int) : ∀ ws : List Int, mxA b ws = b ∨ ∃ w ∈ ws, mxA b ws = absI w
  | [] => .inl rfl
  | x :: r => by
    have e : mxA b (x :: r) = if absI x > mxA b r then absI x else mxA b r := rfl
    rw [e]
    split
    · exact .inr ⟨x, List.mem_cons_self, rfl⟩
    · rcases mxA_mem b r with h | ⟨w, hw, h⟩
      · exact .inl h
      · exact .inr ⟨w, List.mem_cons_of_mem _ hw, h⟩
/-- what is the greatest -/
theorem mxA_eq {b v : Int} {ws : List Int} (h1 : b ≤ v) (h2 : ∀ w ∈ ws, absI w ≤ v) (h3 : v = b ∨ ∃ w ∈ ws, v = absI w) : mxA b ws = v := by
  have g := mxA_ge b ws
  have l := mxA_le h1 ws h2
  rcases h3 with h | ⟨w, hw, h⟩
  · omega
  · have := g.2 w hw
    omega
theorem maxI_mem (m : Int) : ∀ xs : List Int, maxI m xs = m ∨ maxI m xs ∈ xs
  | [] => .inl rfl
  | x :: r => by
    unfold maxI
    rcases maxI_mem (if x > m then x else m) r with h | h
    · rw [h]
      split
      · exact .inr List.mem_cons_self
      · exact .inl rfl
    · exact .inr (List.mem_cons_of_mem _ h)
namespace Sm
def size : Sm → Int
  | .sum ws c => mxA (absI c + 1) ws
  | .rest _ _ m => m - 1
def says (s : Sm) (n : Int) : Bool := match s with
  | .sum _ c => decide (c ≤ n)
  | .rest _ r _ => decide (n = r)
def cut (s : Sm) (n : Int) : Int := match s with
  | .sum ws c => let z := (Sm.sum ws c).size
    let q := if n < z then n else z
    if q > -z then q else -z
  | .rest _ _ m => n % m
def over (s : Sm) (n : Int) : Int := match s with
  | .sum ws c => n - (Sm.sum ws c).cut n
  | .rest .. => 0
def red (s : Sm) (n : Int) : Int := match s with
  | .sum .. => n
  | .rest _ _ m => n % m
/-- the least number of a member -/
def low (s : Sm) : Int := match s with
  | .sum ws c => -(Sm.sum ws c).size
  | .rest .. => 0
theorem Ok.size {s : Sm} (h : s.Ok) : 1 ≤ s.size ∧ s.size ≤ 21 := by
  cases s with
  | sum ws c =>
    obtain ⟨h1, h2, h3⟩ := h
    have g := mxA_ge (absI c + 1) ws
    have l := mxA_le (b := absI c + 1) (B := 21) (by unfold absI; split <;> omega) ws fun w hw => by have := h1.w w hw; unfold absI; split <;> omega
    have : 0 ≤ absI c := by unfold absI; split <;> omega
    show 1 ≤ mxA (absI c + 1) ws ∧ mxA (absI c + 1) ws ≤ 21
    omega
  | rest ws r m =>
    obtain ⟨h1, h2, h3, h4, h5⟩ := h
    show 1 ≤ m - 1 ∧ m - 1 ≤ 21
    omega
theorem cut_in {s : Sm} (h : s.Ok) (n : Int) : s.low ≤ s.cut n ∧ s.cut n ≤ s.size := by
  cases s with
  | sum ws c =>
    have z := h.size
    unfold low cut
    dsimp only
    generalize (Sm.sum ws c).size = q at *
    split <;> split <;> omega
  | rest ws r m =>
    obtain ⟨h1, h2, h3, h4, h5⟩ := h
    unfold low cut Sm.size
    dsimp only
    have := Int.emod_nonneg n (show m ≠ 0 by omega)
    have := Int.emod_lt_of_pos n (show 0 < m by omega)
    omega
end Sm
/-! ### sayings -/
inductive Sy where
  | one (s : Sm)
  | no (a : Sy)
  | an (a b : Sy)
  | or (a b : Sy)
namespace Sy
def pv : Sy → PV
  | .one s => s.pv
  | .no a => .tup [.str "not", a.pv]
  | .an a b => .tup [.str "and", a.pv, b.pv]
  | .or a b => .tup [.str "or", a.pv, b.pv]
def sms : Sy → List Sm
  | .one s => [s]
  | .no a => a.sms
  | .an a b => a.sms ++ b.sms
  | .or a b => a.sms ++ b.sms
def dep : Sy → Nat
  | .one _ => 1
  | .no a => a.dep + 1
  | .an a b => max a.dep b.dep + 1
  | .or a b => max a.dep b.dep + 1
def Ok (a : Sy) : Prop := ∀ s ∈ a.sms, s.Ok
def ss (a : Sy) : List Sm := srt Sm.pv a.sms
theorem ss_mem (a : Sy) (s : Sm) : s ∈ a.ss ↔ s ∈ a.sms := (srt_ok Sm.emb a.sms).mem s
theorem dep1 (a : Sy) : 1 ≤ a.dep := by cases a <;> simp [dep]
theorem ne (a : Sy) : a.sms ≠ [] := by
  induction a with
  | one s => simp [sms]
  | no a ih => exact ih
  | an a b ih _ => simp [sms, ih]
  | or a b ih _ => simp [sms, ih]
theorem len_dep (a : Sy) : a.sms.length ≤ 2 ^ a.dep := by
  have key : ∀ x y m n : Nat, m ≤ 2 ^ x → n ≤ 2 ^ y → m + n ≤ 2 ^ (max x y + 1) := by
    intro x y m n h1 h2
    have e1 : 2 ^ x ≤ 2 ^ max x y := Nat.pow_le_pow_right (by decide) (Nat.le_max_left _ _)
    have e2 : 2 ^ y ≤ 2 ^ max x y := Nat.pow_le_pow_right (by decide) (Nat.le_max_right _ _)
    rw [Nat.pow_succ]
    omega
  induction a with
  | one s => simp [sms, dep]
  | no a ih => simp only [sms, dep, Nat.pow_succ]; omega
  | an a b ih1 ih2 => simp only [sms, dep, List.length_append]; exact key _ _ _ _ ih1 ih2
  | or a b ih1 ih2 => simp only [sms, dep, List.length_append]; exact key _ _ _ _ ih1 ih2
theorem nok : PyData.strOk (Str.ofString "not") = true := by decide +kernel
theorem aok : PyData.strOk (Str.ofString "and") = true := by decide +kernel
theorem ook : PyData.strOk (Str.ofString "or") = true := by decide +kernel
theorem pl (a : Sy) : a.pv.pl = true := by
  induction a with
  | one s => exact s.pl
  | no a ih => simp [pv, PV.pl, PV.pls, nok, ih]
  | an a b i1 i2 => simp [pv, PV.pl, PV.pls, aok, i1, i2]
  | or a b i1 i2 => simp [pv, PV.pl, PV.pls, ook, i1, i2]
theorem tup (a : Sy) : ∃ y r, a.pv = .tup (y :: r) := by
  cases a with
  | one s => cases s <;> exact ⟨_, _, rfl⟩
  | _ => exact ⟨_, _, rfl⟩
end Sy
/-! ### states -/
abbrev Hold := Bool × Int × Bool
abbrev NHold := Bool × Int
def hpv (h : Hold) : PV := .tup [.bl h.1, .int h.2.1, .bl h.2.2]
def npv (h : NHold) : PV := .tup [.bl h.1, .int h.2]
inductive St where
  | mem (s : Int) (hs : List Hold)
  | note (hs : List NHold)
deriving DecidableEq
def St.pv : St → PV
  | .mem s hs => .tup [.str "member", .int s, .tup (hs.map hpv)]
  | .note hs => .tup [.str "note", .tup (hs.map npv)]
def oSt : Option St → PV
  | none => .non
  | some s => s.pv
theorem St.non (x : St) : x.pv.isNon = false := by cases x <;> rfl
theorem oSt_non (o : Option St) : (oSt o).isNon = o.isNone := by
  cases o with
  | none => rfl
  | some x => exact x.non
def mm (s : Sm) (a b : Hold) : Hold × Hold :=
  if a.1 = true then ((true, s.cut (a.2.1 + b.2.1), s.says (s.cut (a.2.1 + b.2.1))), (false, s.over (a.2.1 + b.2.1), s.says (s.cut (a.2.1 + b.2.1))))
  else if b.1 = true then ((false, s.over (a.2.1 + b.2.1), s.says (s.cut (a.2.1 + b.2.1))), (true, s.cut (a.2.1 + b.2.1), s.says (s.cut (a.2.1 + b.2.1))))
  else (a, b)
def nm (s : Sm) (a : Hold) (b : NHold) : Hold × NHold :=
  if a.1 = true ∨ b.1 = true then ((true, s.cut (a.2.1 + b.2), s.says (s.cut (a.2.1 + b.2))), (false, s.over (a.2.1 + b.2)))
  else ((false, s.cut (a.2.1 + b.2), a.2.2), (false, s.over (a.2.1 + b.2)))
def mmL (ss : List Sm) (a b : List Hold) : List (Hold × Hold) := (ss.zip (a.zip b)).map fun p => mm p.1 p.2.1 p.2.2
def nmL (ss : List Sm) (a : List Hold) (b : List NHold) : List (Hold × NHold) := (ss.zip (a.zip b)).map fun p => nm p.1 p.2.1 p.2.2
def bare (hs : List NHold) : Bool := hs.all fun h => h == (false, 0)
def ntO (hs : List NHold) : Option St := if bare hs = true then none else some (.note hs)
def meet (ss : List Sm) : St → St → Option St × Option St
  | .mem s a, .mem t b => (some (.mem s ((mmL ss a b).map (·.1))), some (.mem t ((mmL ss a b).map (·.2))))
  | .mem s a, .note b => (some (.mem s ((nmL ss a b).map (·.1))), ntO ((nmL ss a b).map (·.2)))
  | .note b, .mem s a => (ntO ((nmL ss a b).map (·.2)), some (.mem s ((nmL ss a b).map (·.1))))
  | .note a, .note b => (some (.note a), some (.note b))
/-- numbers and who leads -/
def bareP (ss : List Sm) : Option St → List NHold
  | none => ss.map fun _ => (false, 0)
  | some (.mem _ hs) => hs.map fun h => (h.1, h.2.1)
  | some (.note hs) => hs
def isShift (ss : List Sm) (x y : St) : Bool :=
  if decide (bareP ss (meet ss x y).1 = bareP ss (some x)) = false then true else !decide (bareP ss (meet ss x y).2 = bareP ss (some y))
/-! ### zips -/
theorem zip3_map {α β γ : Type} (f : α → PV) (g : β → PV) (h : γ → PV) : ∀ (as : List α) (bs : List β) (cs : List γ), zipL3 (as.map f) (bs.map g) (cs.map h) = (as.zip (bs.zip cs)).map fun p => .tup [f p.1, g p.2.1, h p.2.2]
  | [], _, _ => by simp [zipL3]
  | _ :: _, [], _ => by simp [zipL3]
  | _ :: _, _ :: _, [] => by simp [zipL3]
  | a :: as, b :: bs, c :: cs => by
    simp only [List.map_cons, zipL3, List.zip_cons_cons]
    rw [zip3_map f g h as bs cs]
theorem zip2_map {α β : Type} (f : α → PV) (g : β → PV) : ∀ (as : List α) (bs : List β), zipL (as.map f) (bs.map g) = (as.zip bs).map fun p => .tup [f p.1, g p.2]
  | [], _ => by simp [zipL]
  | _ :: _, [] => by simp [zipL]
  | a :: as, b :: bs => by
    simp only [List.map_cons, zipL, List.zip_cons_cons]
    rw [zip2_map f g as bs]
/-! ### == -/
theorem eqbs_map {α : Type} [DecidableEq α] {f : α → PV} (h : ∀ a b, PV.eqb (f a) (f b) = decide (a = b)) : ∀ xs ys : List α, PV.eqbs (xs.map f) (ys.map f) = decide (xs = ys)
  | [], [] => by simp [PV.eqbs]
  | [], _ :: _ => by simp [PV.eqbs]
  | _ :: _, [] => by simp [PV.eqbs]
  | x :: xs, y :: ys => by
    simp only [List.map_cons, PV.eqbs, h, eqbs_map h xs ys]
    by_cases e : x = y <;> simp [e]
theorem eqb_npv (a b : NHold) : PV.eqb (npv a) (npv b) = decide (a = b) := by
  obtain ⟨a1, a2⟩ := a
  obtain ⟨b1, b2⟩ := b
  simp only [npv, PV.eqb, PV.eqbs, Bool.and_true]
  by_cases e : a2 = b2 <;> cases a1 <;> cases b1 <;> simp [e]
theorem eqb_hpv (a b : Hold) : PV.eqb (hpv a) (hpv b) = decide (a = b) := by
  obtain ⟨a1, a2, a3⟩ := a
  obtain ⟨b1, b2, b3⟩ := b
  simp only [hpv, PV.eqb, PV.eqbs, Bool.and_true]
  by_cases e : a2 = b2 <;> cases a1 <;> cases b1 <;> cases a3 <;> cases b3 <;> simp [e]
theorem pls_npv (hs : List NHold) : PV.pls (hs.map npv) = true := pls_map (f := npv) (fun _ => by simp [npv, PV.pl, PV.pls]) hs
theorem pls_hpv (hs : List Hold) : PV.pls (hs.map hpv) = true := pls_map (f := hpv) (fun _ => by simp [hpv, PV.pl, PV.pls]) hs
theorem deps_le {α : Type} {f : α → PV} {n : Nat} (h : ∀ a, (f a).dep ≤ n) : ∀ xs : List α, PV.deps (xs.map f) ≤ n
  | [] => by simp [PV.deps]
  | x :: r => by
    simp only [List.map_cons, PV.deps]
    exact Nat.max_le.mpr ⟨h x, deps_le h r⟩
theorem deps_npv (hs : List NHold) : PV.deps (hs.map npv) ≤ 1 := deps_le (fun a => by simp [npv, PV.dep, PV.deps]) hs
theorem deps_hpv (hs : List Hold) : PV.deps (hs.map hpv) ≤ 1 := deps_le (fun a => by simp [hpv, PV.dep, PV.deps]) hs
theorem cmp_ne_lst {xs ys : List PV} (h1 : PV.pls xs = true) (h2 : PV.pls ys = true) (h3 : PV.deps xs < 64 ∨ PV.deps ys < 64) (M : Sto) (Q : Q1) : cmpS .ne (.lst xs) (.lst ys) M Q ↔ Q (.bl (!PV.eqbs xs ys)) M := by
  have e : PV.eqb (.lst xs) (.lst ys) = PV.eqbs xs ys := by rw [PV.eqb]
  have e1 : (PV.lst xs).pl = true := by rw [PV.pl]; exact h1
  have e2 : (PV.lst ys).pl = true := by rw [PV.pl]; exact h2
  have e3 : (PV.lst xs).dep ≤ 64 ∨ (PV.lst ys).dep ≤ 64 := by rw [PV.dep, PV.dep]; omega
  unfold cmpS cmpOk eqS PV.now
  simp only [e, e1, e2, e3, true_and, true_or, or_true]
theorem cmp_eq_npv (a b : NHold) (M : Sto) (Q : Q1) : cmpS .eq (npv a) (npv b) M Q ↔ Q (.bl (decide (a = b))) M := by
  have e := eqb_npv a b
  have h1 : (npv a).pl = true := by simp [npv, PV.pl, PV.pls]
  have h2 : (npv b).pl = true := by simp [npv, PV.pl, PV.pls]
  have h3 : (npv a).dep ≤ 64 := by simp [npv, PV.dep, PV.deps]
  unfold cmpS cmpOk eqS
  have n1 : (npv a).now M = npv a := rfl
  have n2 : (npv b).now M = npv b := rfl
  simp only [n1, n2, e, h1, h2, h3, true_and, or_true, true_or]
theorem cmp_ne_npvs (xs ys : List NHold) (M : Sto) (Q : Q1) : cmpS .ne (.lst (xs.map npv)) (.lst (ys.map npv)) M Q ↔ Q (.bl (!decide (xs = ys))) M := by
  rw [cmp_ne_lst (pls_npv _) (pls_npv _) (.inl (by have := deps_npv xs; omega)), eqbs_map eqb_npv]
end SY
/-! the program's own defs: sayings, sizes, meetings -/
namespace PG
open PySem SG SY
variable {T : List (Str × FDef)}
theorem w_is_whole [H_is_whole T] (k : Nat) (i : Int) (M : Sto) (Q : Q1) : callN T (k + 1) "is_whole" [.int i] M Q ↔ Q (.bl true) M := by
  rw [call_is_whole]
  simp_arith [b_is_whole]
theorem w_is_whole_str [H_is_whole T] (k : Nat) (i : Str) (M : Sto) (Q : Q1) : callN T (k + 1) "is_whole" [.str i] M Q ↔ Q (.bl false) M := by
  rw [call_is_whole]
  simp_arith [b_is_whole]
theorem w_is_whole_tup [H_is_whole T] (k : Nat) (i : List PV) (M : Sto) (Q : Q1) : callN T (k + 1) "is_whole" [.tup i] M Q ↔ Q (.bl false) M := by
  rw [call_is_whole]
  simp_arith [b_is_whole]
theorem w_is_within [H_is_within T] (k : Nat) (i a b : Int) (M : Sto) (Q : Q1) : callN T (k + 2) "is_within" [.int i, .int a, .int b] M Q ↔ Q (.bl (decide (a ≤ i) && decide (i ≤ b))) M := by
  rw [call_is_within]
  simp_arith [b_is_within, w_is_whole]
  by_cases h : a ≤ i <;> simp [h]
theorem w_is_within_str [H_is_within T] (k : Nat) (i : Str) (a b : Int) (M : Sto) (Q : Q1) : callN T (k + 2) "is_within" [.str i, .int a, .int b] M Q ↔ Q (.bl false) M := by
  rw [call_is_within]
  simp_arith [b_is_within, w_is_whole_str]
theorem w_is_within_tup [H_is_within T] (k : Nat) (i : List PV) (a b : Int) (M : Sto) (Q : Q1) : callN T (k + 2) "is_within" [.tup i, .int a, .int b] M Q ↔ Q (.bl false) M := by
  rw [call_is_within]
  simp_arith [b_is_within, w_is_whole_tup]
theorem sl6 {n : Nat} (h : n ≤ 64) : n ≤ sizeLine := Nat.le_trans h (by decide)
theorem w_is_worths [H_is_worths T] (k : Nat) {ws : List Int} (h : WsOk ws) (M : Sto) (Q : Q1) : callN T (k + 3) "is_worths" [.tup (ws.map .int)] M Q ↔ Q (.bl true) M := by
  have h1 := h.l1
  have h6 := h.l6
  rw [call_is_worths]
  simp_arith [b_is_worths, w_is_within, List.length_map]
  rw [compL_map (f := PV.int) (g := fun w => .bl (decide (-9 ≤ w) && decide (w ≤ 9))) ws []]
  · simp_arith [bools_map]
    have e1 : (ws.map fun w => decide (-9 ≤ w) && decide (w ≤ 9)).all id = true := by
      rw [List.all_eq_true]
      intro b hb
      obtain ⟨w, hm, rfl⟩ := List.mem_map.mp hb
      have := h.w w hm
      simp [this.1, this.2]
    have e2 : decide ((1 : Int) ≤ ws.length) = true := by rw [decide_eq_true_eq]; omega
    have e3 : decide ((ws.length : Int) ≤ 6) = true := by rw [decide_eq_true_eq]; omega
    have e4 : ws.length ≤ sizeLine := sl6 (by omega)
    rw [e1, e2, e3]
    simp [e4]
  · intro w hw' c
    simp_arith [w_is_within]
/-- things that begin with a text are no worths -/
theorem w_is_worths_no [H_is_worths T] (k : Nat) (a : Sy) (M : Sto) (Q : Q1) : callN T (k + 3) "is_worths" [a.pv] M Q ↔ Q (.bl false) M := by
  have e2 : (2 : Nat) ≤ sizeLine := sl6 (by decide)
  have e3 : (3 : Nat) ≤ sizeLine := sl6 (by decide)
  have e4 : (4 : Nat) ≤ sizeLine := sl6 (by decide)
  rw [call_is_worths]
  cases a with
  | one s =>
    cases s with
    | sum ws c =>
      simp_arith [b_is_worths, Sy.pv, Sm.pv, compL, w_is_within, w_is_within_str, w_is_within_tup, PV.bools, e3]
      by_cases h1 : -9 ≤ c <;> by_cases h2 : c ≤ 9 <;> simp [h1, h2]
    | rest ws r m =>
      simp_arith [b_is_worths, Sy.pv, Sm.pv, compL, w_is_within, w_is_within_str, w_is_within_tup, PV.bools, e4]
      by_cases h1 : -9 ≤ r <;> by_cases h2 : r ≤ 9 <;> by_cases h3 : -9 ≤ m <;> by_cases h4 : m ≤ 9 <;> simp [h1, h2, h3, h4]
  | no a =>
    obtain ⟨y, r, e⟩ := a.tup
    simp_arith [b_is_worths, Sy.pv, e, compL, w_is_within_str, w_is_within_tup, PV.bools, e2]
    simp
  | an a b =>
    obtain ⟨y, r, e⟩ := a.tup
    obtain ⟨z, t, e'⟩ := b.tup
    simp_arith [b_is_worths, Sy.pv, e, e', compL, w_is_within_str, w_is_within_tup, PV.bools, e3]
    simp
  | or a b =>
    obtain ⟨y, r, e⟩ := a.tup
    obtain ⟨z, t, e'⟩ := b.tup
    simp_arith [b_is_worths, Sy.pv, e, e', compL, w_is_within_str, w_is_within_tup, PV.bools, e3]
    simp
theorem d_rs : decide ((Str.ofString "rest") = Str.ofString "sum") = false := by decide +kernel
theorem d_mn : decide ((Str.ofString "member") = Str.ofString "note") = false := by decide +kernel
theorem d_nm : decide ((Str.ofString "note") = Str.ofString "member") = false := by decide +kernel
theorem w_is_simple [H_is_simple T] (k : Nat) {s : Sm} (g : s.Ok) (M : Sto) (Q : Q1) : callN T (k + 4) "is_simple" [s.pv] M Q ↔ Q (.bl true) M := by
  rw [call_is_simple]
  cases s with
  | sum ws c =>
    obtain ⟨h1, h2, h3⟩ := g
    simp_arith [b_is_simple, Sm.pv, w_is_within, w_is_worths k h1, decide_eq_true h2, decide_eq_true h3, Bool.and_self]
  | rest ws r m =>
    obtain ⟨h1, h2, h3, h4, h5⟩ := g
    have e4 : decide (r ≤ m - 1) = true := decide_eq_true (by omega)
    simp_arith [b_is_simple, Sm.pv, w_is_within, w_is_worths k h1, d_rs, decide_eq_true h2, decide_eq_true h3, decide_eq_true h4, e4, Bool.and_self]
theorem w_is_simple_no [H_is_simple T] (k : Nat) (a b : Sy) (M : Sto) (Q : Q1) (x : Str) : callN T (k + 4) "is_simple" [.tup [.str x, a.pv, b.pv]] M Q ↔ Q (.bl false) M := by
  rw [call_is_simple]
  simp_arith [b_is_simple, w_is_worths_no]
theorem w_is_simple_not [H_is_simple T] (k : Nat) (a : Sy) (M : Sto) (Q : Q1) (x : Str) : callN T (k + 4) "is_simple" [.tup [.str x, a.pv]] M Q ↔ Q (.bl false) M := by
  rw [call_is_simple]
  simp_arith [b_is_simple]
theorem eq_nil_sy (a : Sy) (M : Sto) (Q : Q1) : cmpS .eq a.pv (.tup []) M Q ↔ Q (.bl false) M := by
  obtain ⟨y, r, e⟩ := a.tup
  have h := a.pl
  rw [e] at h ⊢
  exact cmp_eq_nil (by rw [PV.pl] at h; exact h) M Q
theorem isi_sy (a : Sy) (M : Sto) : isiS a.pv M .tuple = some true := by
  obtain ⟨y, r, e⟩ := a.tup
  rw [e]; rfl
theorem d_nn : decide ((Str.ofString "not") = Str.ofString "not") = true := by decide +kernel
theorem d_an : decide ((Str.ofString "and") = Str.ofString "not") = false := by decide +kernel
theorem d_on : decide ((Str.ofString "or") = Str.ofString "not") = false := by decide +kernel
theorem notin_ao (M : Sto) (Q : Q1) (x : Str) (hx : x = Str.ofString "and" ∨ x = Str.ofString "or") : cmpS .notin (.str x) (.tup [.str "and", .str "or"]) M Q ↔ Q (.bl false) M := by
  have p1 : (PV.str x).pl = true := by rcases hx with rfl | rfl <;> decide +kernel
  have p2 : PV.pls [.str "and", .str "or"] = true := by decide +kernel
  have p3 : (([.str "and", .str "or"] : List PV).any fun z => PV.eqb z (.str x)) = true := by rcases hx with rfl | rfl <;> decide +kernel
  show inS true _ _ M Q ↔ _
  rw [in_so (so_tup M _) (.inl ⟨p1, p2, .inl (by simp [PV.dep])⟩)]
  simp only [p3, if_true, Bool.not_true]
theorem w_simples_in [H_simples_in T] : ∀ (a : Sy) (k : Nat) (d : Int), a.Ok → a.dep ≤ d → a.dep ≤ 8 → ∀ (M : Sto) (Q : Q1), callN T (k + 4 + a.dep) "simples_in" [a.pv, .int d] M Q ↔ Q (.lst (a.sms.map Sm.pv)) M
  | .one s, k, d, g, h, _, M, Q => by
    have e := eq_nil_sy (.one s) M
    have e' := isi_sy (.one s) M
    have hs : s.Ok := g s (by simp [Sy.sms])
    have hd : decide (d = 0) = false := decide_eq_false (by have := (Sy.one s).dep1; omega)
    simp only [Sy.pv] at e e'
    simp only [Sy.dep, Sy.pv]
    rw [call_simples_in]
    simp_arith [b_simples_in, e, e', w_is_simple k hs, hd, Sy.sms]
  | .no a, k, d, g, h, h8, M, Q => by
    have e := eq_nil_sy (.no a) M
    have e' := isi_sy (.no a) M
    have hd : decide (d = 0) = false := decide_eq_false (by have := (Sy.no a).dep1; omega)
    simp only [Sy.pv] at e e'
    simp only [Sy.dep, Sy.pv] at h h8 ⊢
    have ih := w_simples_in a k (d - 1) g (by omega) (by omega) M
    have e3 : k + 4 + (a.dep + 1) = (k + 4 + a.dep) + 1 := by omega
    have e4 : k + 4 + a.dep = (k + a.dep) + 4 := by omega
    rw [e3, call_simples_in]
    rw [e4] at ih ⊢
    simp_arith [b_simples_in, e, e', w_is_simple_not, hd, ih, d_nn, Sy.sms]
  | .an a b, k, d, g, h, h8, M, Q => by
    have e := eq_nil_sy (.an a b) M
    have e' := isi_sy (.an a b) M
    have hd : decide (d = 0) = false := decide_eq_false (by have := (Sy.an a b).dep1; omega)
    simp only [Sy.pv] at e e'
    simp only [Sy.dep, Sy.pv] at h h8 ⊢
    have m1 := Nat.le_max_left a.dep b.dep
    have m2 := Nat.le_max_right a.dep b.dep
    have i1 := w_simples_in a (k + (max a.dep b.dep - a.dep)) (d - 1) (fun s hs => g s (by simp [Sy.sms, hs])) (by omega) (by omega) M
    have i2 := w_simples_in b (k + (max a.dep b.dep - b.dep)) (d - 1) (fun s hs => g s (by simp [Sy.sms, hs])) (by omega) (by omega) M
    have e1 : k + (max a.dep b.dep - a.dep) + 4 + a.dep = (k + max a.dep b.dep) + 4 := by omega
    have e2 : k + (max a.dep b.dep - b.dep) + 4 + b.dep = (k + max a.dep b.dep) + 4 := by omega
    have e3 : k + 4 + (max a.dep b.dep + 1) = ((k + max a.dep b.dep) + 4) + 1 := by omega
    have l := (Sy.an a b).len_dep
    have l2 : (Sy.an a b).sms.length ≤ sizeLine := Nat.le_trans (Nat.le_trans l (Nat.pow_le_pow_right (by decide) (show (Sy.an a b).dep ≤ 8 by simp only [Sy.dep]; omega))) (by decide)
    simp only [Sy.sms, List.length_append] at l2
    rw [e3, call_simples_in]
    rw [e1] at i1
    rw [e2] at i2
    simp_arith [b_simples_in, e, e', w_is_simple_no, hd, i1, i2, d_an, notin_ao _ _ _ (.inl rfl), Sy.sms, List.length_map, l2, List.map_append]
  | .or a b, k, d, g, h, h8, M, Q => by
    have e := eq_nil_sy (.or a b) M
    have e' := isi_sy (.or a b) M
    have hd : decide (d = 0) = false := decide_eq_false (by have := (Sy.or a b).dep1; omega)
    simp only [Sy.pv] at e e'
    simp only [Sy.dep, Sy.pv] at h h8 ⊢
    have m1 := Nat.le_max_left a.dep b.dep
    have m2 := Nat.le_max_right a.dep b.dep
    have i1 := w_simples_in a (k + (max a.dep b.dep - a.dep)) (d - 1) (fun s hs => g s (by simp [Sy.sms, hs])) (by omega) (by omega) M
    have i2 := w_simples_in b (k + (max a.dep b.dep - b.dep)) (d - 1) (fun s hs => g s (by simp [Sy.sms, hs])) (by omega) (by omega) M
    have e1 : k + (max a.dep b.dep - a.dep) + 4 + a.dep = (k + max a.dep b.dep) + 4 := by omega
    have e2 : k + (max a.dep b.dep - b.dep) + 4 + b.dep = (k + max a.dep b.dep) + 4 := by omega
    have e3 : k + 4 + (max a.dep b.dep + 1) = ((k + max a.dep b.dep) + 4) + 1 := by omega
    have l := (Sy.or a b).len_dep
    have l2 : (Sy.or a b).sms.length ≤ sizeLine := Nat.le_trans (Nat.le_trans l (Nat.pow_le_pow_right (by decide) (show (Sy.or a b).dep ≤ 8 by simp only [Sy.dep]; omega))) (by decide)
    simp only [Sy.sms, List.length_append] at l2
    rw [e3, call_simples_in]
    rw [e1] at i1
    rw [e2] at i2
    simp_arith [b_simples_in, e, e', w_is_simple_no, hd, i1, i2, d_on, notin_ao _ _ _ (.inr rfl), Sy.sms, List.length_map, l2, List.map_append]
/-- a saying as it is handed in -/
structure Good (a : Sy) : Prop where
  ok : a.Ok
  dep : a.dep ≤ 8
  few : a.sms.length < 64
theorem Good.ss {a : Sy} (g : Good a) {s : Sm} (h : s ∈ a.ss) : s.Ok := g.ok s ((a.ss_mem s).mp h)
theorem Good.len {a : Sy} (g : Good a) : a.ss.length < 64 := Nat.lt_of_le_of_lt (srt_len Sm.emb a.sms) g.few
theorem w_simples [H_simples T] (k : Nat) {a : Sy} (g : Good a) (M : Sto) (Q : Q1) : callN T (k + 13) "simples" [a.pv] M Q ↔ Q (.tup (a.ss.map Sm.pv)) M := by
  rw [call_simples]
  have e : k + 12 = (k + (8 - a.dep)) + 4 + a.dep := by have := g.dep; omega
  have i := w_simples_in (T := T) a (k + (8 - a.dep)) 8 g.ok (by have := g.dep; omega) g.dep M
  rw [← e] at i
  simp_arith [b_simples, i, sset_iff Sm.emb (fun x _ => Sm.item x) g.few, Sy.ss]
theorem w_is_sum [H_is_sum T] (k : Nat) (s : Sm) (M : Sto) (Q : Q1) : callN T (k + 1) "is_sum" [s.pv] M Q ↔ Q (.bl s.isSum) M := by
  rw [call_is_sum]
  cases s <;> simp_arith [b_is_sum, Sm.pv, Sm.isSum, d_rs]
theorem w_size_of [H_size_of T] (k : Nat) {s : Sm} (g : s.Ok) (M : Sto) (Q : Q1) : callN T (k + 2) "size_of" [s.pv] M Q ↔ Q (.int s.size) M := by
  rw [call_size_of]
  cases s with
  | sum ws c =>
    have wk := g.1
    simp_arith [b_size_of, w_is_sum, Sm.isSum]
    simp_arith [Sm.pv]
    rw [compL_map (f := PV.int) (g := fun w => .int (absI w)) ws []]
    · simp_arith [b_max1, ints_map, List.length_map]
      cases ws with
      | nil => exact absurd wk.l1 (by simp)
      | cons w r =>
        have l6 : (w :: r).length ≤ sizeLine := sl6 (by have := wk.l6; omega)
        have key : mxA (absI c + 1) (w :: r) = if maxI (absI w) (r.map fun w => absI w) > (if c < 0 then -c else c) + 1 then maxI (absI w) (r.map fun w => absI w) else (if c < 0 then -c else c) + 1 := by
          have h := mx_ge (absI w) (r.map fun w => absI w)
          have hm := maxI_mem (absI w) (r.map fun w => absI w)
          have ea : absI c = if c < 0 then -c else c := rfl
          refine mxA_eq ?_ ?_ ?_
          · rw [← ea]; split <;> omega
          · intro x hx
            have : absI x ≤ maxI (absI w) (r.map fun w => absI w) := by
              rcases List.mem_cons.mp hx with q | q
              · rw [q]; exact h.1
              · exact h.2 _ (List.mem_map.mpr ⟨x, q, rfl⟩)
            split <;> omega
          · rw [← ea]
            split
            · rcases hm with q | q
              · exact .inr ⟨w, List.mem_cons_self, q⟩
              · obtain ⟨x, hx, e⟩ := List.mem_map.mp q
                exact .inr ⟨x, List.mem_cons_of_mem _ hx, e.symm⟩
            · exact .inl rfl
        simp_arith [List.map_cons, List.cons.injEq]
        constructor
        · rintro ⟨_, n, ns, ⟨rfl, rfl⟩, q⟩
          rw [Sm.size, key]; exact q
        · intro q
          rw [Sm.size, key] at q
          exact ⟨by simpa using l6, _, _, ⟨rfl, rfl⟩, q⟩
    · intro w hw c
      simp_arith [absI]
  | rest ws r m =>
    simp_arith [b_size_of, w_is_sum, Sm.isSum]
    simp_arith [Sm.pv, Sm.size]
theorem w_says [H_says T] (k : Nat) (s : Sm) (n : Int) (M : Sto) (Q : Q1) : callN T (k + 2) "says" [s.pv, .int n] M Q ↔ Q (.bl (s.says n)) M := by
  rw [call_says]
  cases s with
  | sum ws c =>
    simp_arith [b_says, w_is_sum, Sm.isSum, Sm.says]
    simp_arith [Sm.pv]
  | rest ws r m =>
    simp_arith [b_says, w_is_sum, Sm.isSum, Sm.says]
    simp_arith [Sm.pv]
theorem Ok.mpos {ws : List Int} {r m : Int} (g : (Sm.rest ws r m).Ok) : 0 < m := by obtain ⟨_, h, _⟩ := g; omega
theorem w_cut_to [H_cut_to T] (k : Nat) {s : Sm} (g : s.Ok) (n : Int) (M : Sto) (Q : Q1) : callN T (k + 3) "cut_to" [s.pv, .int n] M Q ↔ Q (.int (s.cut n)) M := by
  rw [call_cut_to]
  cases s with
  | sum ws c =>
    simp_arith [b_cut_to, w_is_sum, Sm.isSum, w_size_of k g, Sm.cut]
  | rest ws r m =>
    simp_arith [b_cut_to, w_is_sum, Sm.isSum, Sm.cut]
    simp_arith [Sm.pv, Ok.mpos g]
theorem w_rest_over [H_rest_over T] (k : Nat) {s : Sm} (g : s.Ok) (n : Int) (M : Sto) (Q : Q1) : callN T (k + 4) "rest_over" [s.pv, .int n] M Q ↔ Q (.int (s.over n)) M := by
  rw [call_rest_over]
  cases s with
  | sum ws c => simp_arith [b_rest_over, w_is_sum, Sm.isSum, w_cut_to k g, Sm.over]
  | rest ws r m => simp_arith [b_rest_over, w_is_sum, Sm.isSum, Sm.over]
theorem w_members_meet [H_members_meet T] (k : Nat) {s : Sm} (g : s.Ok) (a b : Hold) (M : Sto) (Q : Q1) : callN T (k + 5) "members_meet" [s.pv, hpv a, hpv b] M Q ↔ Q (.tup [hpv (mm s a b).1, hpv (mm s a b).2]) M := by
  obtain ⟨l1, v1, w1⟩ := a
  obtain ⟨l2, v2, w2⟩ := b
  rw [call_members_meet]
  simp_arith [b_members_meet, hpv, w_cut_to _ g, w_says, w_rest_over _ g]
  cases l1 <;> cases l2 <;> simp [mm]
theorem w_note_met [H_note_met T] (k : Nat) {s : Sm} (g : s.Ok) (a : Hold) (b : NHold) (M : Sto) (Q : Q1) : callN T (k + 5) "note_met" [s.pv, hpv a, npv b] M Q ↔ Q (.tup [hpv (nm s a b).1, npv (nm s a b).2]) M := by
  obtain ⟨l1, v1, w1⟩ := a
  obtain ⟨l2, v2⟩ := b
  rw [call_note_met]
  simp_arith [b_note_met, hpv, npv, w_cut_to _ g, w_says, w_rest_over _ g]
  cases l1 <;> cases l2 <;> simp [nm]
theorem w_is_note [H_is_note T] (k : Nat) (s : St) (M : Sto) (Q : Q1) : callN T (k + 1) "is_note" [s.pv] M Q ↔ Q (.bl (match s with | .note _ => true | .mem _ _ => false)) M := by
  rw [call_is_note]
  cases s <;> simp_arith [b_is_note, St.pv, d_mn]
theorem w_is_bare [H_is_bare T] (k : Nat) (hs : List NHold) (hl : hs.length ≤ sizeLine) (M : Sto) (Q : Q1) : callN T (k + 1) "is_bare" [.tup (hs.map npv)] M Q ↔ Q (.bl (bare hs)) M := by
  rw [call_is_bare]
  simp_arith [b_is_bare, List.length_map, hl]
  rw [compL_map (f := npv) (g := fun h => .bl (decide (h = (false, 0)))) hs []]
  · simp_arith [bools_map]
    have e : (hs.map fun h => decide (h = (false, 0))).all id = bare hs := by
      unfold bare
      rw [List.all_map]
      congr 1
      funext h
      rw [Bool.eq_iff_iff]
      simp
    rw [e]
  · intro h _ c
    have e := cmp_eq_npv h (false, 0) M
    simp only [npv] at e
    simp_arith [npv, e]
theorem zip_few {α β γ : Type} {a : List α} {b : List β} {c : List γ} (h : a.length < 64) : (a.zip (b.zip c)).length ≤ sizeLine := sl6 (by rw [List.length_zip]; omega)
theorem w_with_note [H_with_note T] (k : Nat) {a : Sy} (g : Good a) (s : Int) (hs : List Hold) (ns : List NHold) (M : Sto) (Q : Q1) :
    callN T (k + 14) "with_note" [a.pv, (St.mem s hs).pv, (St.note ns).pv] M Q ↔ Q (.tup [(St.mem s ((nmL a.ss hs ns).map (·.1))).pv, oSt (ntO ((nmL a.ss hs ns).map (·.2)))]) M := by
  have l1 : (a.ss.zip (hs.zip ns)).length ≤ sizeLine := zip_few g.len
  have l2 : (nmL a.ss hs ns).length ≤ sizeLine := by unfold nmL; rw [List.length_map]; exact l1
  rw [call_with_note]
  simp_arith [b_with_note, St.pv, w_simples k g, zip3_map, List.length_map, l1]
  rw [compL_map (f := fun p : Sm × Hold × NHold => .tup [p.1.pv, hpv p.2.1, npv p.2.2]) (g := fun p => .tup [hpv (nm p.1 p.2.1 p.2.2).1, npv (nm p.1 p.2.1 p.2.2).2]) (a.ss.zip (hs.zip ns)) []]
  · have e : (a.ss.zip (hs.zip ns)).map (fun p => PV.tup [hpv (nm p.1 p.2.1 p.2.2).1, npv (nm p.1 p.2.1 p.2.2).2]) = (nmL a.ss hs ns).map fun p => PV.tup [hpv p.1, npv p.2] := by
      unfold nmL
      rw [List.map_map]
      rfl
    rw [e]
    simp_arith [List.length_map, l2]
    rw [compL_map (f := fun p : Hold × NHold => PV.tup [hpv p.1, npv p.2]) (g := fun p => hpv p.1) (nmL a.ss hs ns) []]
    · simp_arith [List.length_map, l2]
      rw [compL_map (f := fun p : Hold × NHold => PV.tup [hpv p.1, npv p.2]) (g := fun p => npv p.2) (nmL a.ss hs ns) []]
      · have e1 : (nmL a.ss hs ns).map (fun p => hpv p.1) = ((nmL a.ss hs ns).map (·.1)).map hpv := by rw [List.map_map]; rfl
        have e2 : (nmL a.ss hs ns).map (fun p => npv p.2) = ((nmL a.ss hs ns).map (·.2)).map npv := by rw [List.map_map]; rfl
        have l3 : ((nmL a.ss hs ns).map (·.2)).length ≤ sizeLine := by rw [List.length_map]; exact l2
        rw [e1, e2]
        simp_arith [w_is_bare _ _ l3]
        cases hb : bare ((nmL a.ss hs ns).map (·.2)) <;> simp [ntO, hb, oSt, St.pv]
      · intro x _ c
        simp_arith []
    · intro x _ c
      simp_arith []
  · intro x hx c
    have hs : x.1.Ok := g.ss (List.of_mem_zip hx).1
    simp_arith [w_note_met _ hs]
theorem w_meet [H_meet T] (k : Nat) {a : Sy} (g : Good a) (x y : St) (M : Sto) (Q : Q1) : callN T (k + 15) "meet" [a.pv, x.pv, y.pv] M Q ↔ Q (.tup [oSt (meet a.ss x y).1, oSt (meet a.ss x y).2]) M := by
  rw [call_meet]
  cases x with
  | note ns =>
    cases y with
    | note ms => simp_arith [b_meet, w_is_note, meet, oSt]
    | mem s hs => simp_arith [b_meet, w_is_note, meet, oSt, w_with_note k g]
  | mem s hs =>
    cases y with
    | note ms => simp_arith [b_meet, w_is_note, meet, oSt, w_with_note k g]
    | mem t js =>
      have l1 : (a.ss.zip (hs.zip js)).length ≤ sizeLine := zip_few g.len
      have l2 : (mmL a.ss hs js).length ≤ sizeLine := by unfold mmL; rw [List.length_map]; exact l1
      simp_arith [b_meet, w_is_note, meet, oSt]
      simp_arith [St.pv, w_simples (k + 1) g, zip3_map, List.length_map, l1]
      rw [compL_map (f := fun p : Sm × Hold × Hold => .tup [p.1.pv, hpv p.2.1, hpv p.2.2]) (g := fun p => .tup [hpv (mm p.1 p.2.1 p.2.2).1, hpv (mm p.1 p.2.1 p.2.2).2]) (a.ss.zip (hs.zip js)) []]
      · have e : (a.ss.zip (hs.zip js)).map (fun p => PV.tup [hpv (mm p.1 p.2.1 p.2.2).1, hpv (mm p.1 p.2.1 p.2.2).2]) = (mmL a.ss hs js).map fun p => PV.tup [hpv p.1, hpv p.2] := by
          unfold mmL
          rw [List.map_map]
          rfl
        rw [e]
        simp_arith [List.length_map, l2]
        rw [compL_map (f := fun p : Hold × Hold => PV.tup [hpv p.1, hpv p.2]) (g := fun p => hpv p.1) (mmL a.ss hs js) []]
        · simp_arith [List.length_map, l2]
          rw [compL_map (f := fun p : Hold × Hold => PV.tup [hpv p.1, hpv p.2]) (g := fun p => hpv p.2) (mmL a.ss hs js) []]
          · have e1 : (mmL a.ss hs js).map (fun p => hpv p.1) = ((mmL a.ss hs js).map (·.1)).map hpv := by rw [List.map_map]; rfl
            have e2 : (mmL a.ss hs js).map (fun p => hpv p.2) = ((mmL a.ss hs js).map (·.2)).map hpv := by rw [List.map_map]; rfl
            simp_arith [e1, e2]
          · intro x _ c
            simp_arith []
        · intro x _ c
          simp_arith []
      · intro x hx c
        have hs : x.1.Ok := g.ss (List.of_mem_zip hx).1
        simp_arith [w_members_meet _ hs]
theorem cut2 {α : Type} (a b : α) (r : List α) : cutP (a :: b :: r) none (some 2) = [a, b] := by
  unfold cutP HT.sIx
  simp
theorem w_holds_of [H_holds_of T] (k : Nat) (s : St) (M : Sto) (Q : Q1) : callN T (k + 1) "holds_of" [s.pv] M Q ↔ Q (match s with | .mem _ hs => .tup (hs.map hpv) | .note hs => .tup (hs.map npv)) M := by
  have e3 : ∀ a b c : PV, L2.atI [a, b, c] (-1) = some c := fun a b c => rfl
  have e2 : ∀ a b : PV, L2.atI [a, b] (-1) = some b := fun a b => rfl
  rw [call_holds_of]
  cases s <;> simp_arith [b_holds_of, St.pv, e2, e3]
/-- a state has so many holds as there are simple sayings -/
def St.few (s : St) : Prop := match s with
  | .mem _ hs => hs.length < 64
  | .note hs => hs.length < 64
theorem w_bare_parts [H_bare_parts T] (k : Nat) {a : Sy} (g : Good a) (s : Option St) (hf : ∀ x, s = some x → St.few x) (M : Sto) (Q : Q1) : callN T (k + 14) "bare_parts" [a.pv, oSt s] M Q ↔ Q (.lst ((bareP a.ss s).map npv)) M := by
  rw [call_bare_parts]
  cases s with
  | none =>
    simp_arith [b_bare_parts, oSt, w_simples k g, List.length_map, sl6 (Nat.le_of_lt g.len)]
    rw [compL_map (f := Sm.pv) (g := fun _ => npv (false, 0)) a.ss []]
    · simp_arith [bareP, List.map_map]
      exact Iff.rfl
    · intro x _ c
      simp_arith [npv]
  | some s =>
    have hf := hf s rfl
    cases s with
    | mem t hs =>
      simp_arith [b_bare_parts, oSt, w_holds_of]
      simp_arith [St.pv, List.length_map, sl6 (Nat.le_of_lt hf)]
      rw [compL_map (f := hpv) (g := fun h => npv (h.1, h.2.1)) hs []]
      · simp_arith [bareP, List.map_map]
        exact Iff.rfl
      · intro x _ c
        simp_arith [npv, hpv, cut2]
    | note hs =>
      simp_arith [b_bare_parts, oSt, w_holds_of]
      simp_arith [St.pv, List.length_map, sl6 (Nat.le_of_lt hf)]
      rw [compL_map (f := npv) (g := npv) hs []]
      · simp_arith [bareP]
      · intro x _ c
        simp_arith [npv, cut2]
theorem few_meet {ss : List Sm} {x y : St} (hs : ss.length < 64) (hx : St.few x) (hy : St.few y) : (∀ z, (meet ss x y).1 = some z → St.few z) ∧ ∀ z, (meet ss x y).2 = some z → St.few z := by
  have key : ∀ {α β γ : Type} (f : Sm × α × β → γ) (b : List α) (c : List β), ((ss.zip (b.zip c)).map f).length < 64 := fun f b c => by
    rw [List.length_map, List.length_zip]
    omega
  have nt : ∀ ns : List NHold, ns.length < 64 → ∀ z, ntO ns = some z → St.few z := fun ns h z e => by
    unfold ntO at e
    split at e
    · cases e
    · cases e; exact h
  cases x with
  | mem s a =>
    cases y with
    | mem t b =>
      refine ⟨fun z e => ?_, fun z e => ?_⟩
      · cases e; show _ < 64; rw [List.length_map]; exact key _ _ _
      · cases e; show _ < 64; rw [List.length_map]; exact key _ _ _
    | note b =>
      refine ⟨fun z e => ?_, nt _ ?_⟩
      · cases e; show _ < 64; rw [List.length_map]; exact key _ _ _
      · rw [List.length_map]; exact key _ _ _
  | note a =>
    cases y with
    | mem t b =>
      refine ⟨nt _ ?_, fun z e => ?_⟩
      · rw [List.length_map]; exact key _ _ _
      · cases e; show _ < 64; rw [List.length_map]; exact key _ _ _
    | note b =>
      refine ⟨fun z e => ?_, fun z e => ?_⟩
      · cases e; exact hx
      · cases e; exact hy
theorem w_is_shift [H_is_shift T] (k : Nat) {a : Sy} (g : Good a) {x y : St} (hx : St.few x) (hy : St.few y) (M : Sto) (Q : Q1) : callN T (k + 16) "is_shift" [a.pv, x.pv, y.pv] M Q ↔ Q (.bl (isShift a.ss x y)) M := by
  have fm := few_meet g.len hx hy
  have b1 := fun M => w_bare_parts (T := T) (k + 1) g (meet a.ss x y).1 fm.1 M
  have b2 := fun M => w_bare_parts (T := T) (k + 1) g (meet a.ss x y).2 fm.2 M
  have b3 := fun M => w_bare_parts (T := T) (k + 1) g (some x) (fun z e => by cases e; exact hx) M
  have b4 := fun M => w_bare_parts (T := T) (k + 1) g (some y) (fun z e => by cases e; exact hy) M
  simp only [oSt] at b3 b4
  rw [call_is_shift]
  simp_arith [b_is_shift, w_meet k g, b1, b2, b3, b4, cmp_ne_npvs, isShift]
  by_cases h1 : bareP a.ss (meet a.ss x y).1 = bareP a.ss (some x) <;> simp [h1]
end PG
/-! the laws' own defs (k17 to k34, k88 to k91): draws, sayings -/
namespace LA
open PySem SG SY
variable {T : List (Str × FDef)}
abbrev hand (a b c : Int) : SO := .lst [.int a, .int b, .int c]
theorem log_lt {n : Int} {k : Nat} (h : n.natAbs < 2 ^ k) (hk : 0 < k) : n.natAbs.log2 < k := by
  by_cases z : n.natAbs = 0
  · rw [z]; simpa using hk
  · exact (Nat.log2_lt z).mpr h
/-- the hand at h has given at most n times -/
def Hand (M : Sto) (h : Addr) (n : Int) : Prop := ∃ a b c, M h = some (hand a b c) ∧ 0 ≤ c ∧ c ≤ n
/-- M', behind some draws: all else stays -/
structure Stp (h : Addr) (M M' : Sto) (n : Int) : Prop where
  hd : Hand M' h n
  fr : ∀ t o, t ≠ h → M t = some o → M' t = some o
theorem Hand.up {M : Sto} {h : Addr} {n n' : Int} (x : Hand M h n) (e : n ≤ n') : Hand M h n' := by
  obtain ⟨a, b, c, e1, e2, e3⟩ := x
  exact ⟨a, b, c, e1, e2, by omega⟩
theorem Stp.up {M M' : Sto} {h : Addr} {n n' : Int} (x : Stp h M M' n) (e : n ≤ n') : Stp h M M' n' := ⟨x.hd.up e, x.fr⟩
theorem Stp.refl {M : Sto} {h : Addr} {n : Int} (x : Hand M h n) : Stp h M M n := ⟨x, fun _ _ _ e => e⟩
theorem Stp.trans {h : Addr} {M M' M'' : Sto} {n n' : Int} (a : Stp h M M' n) (b : Stp h M' M'' n') : Stp h M M'' n' := ⟨b.hd, fun t o ht e => b.fr t o ht (a.fr t o ht e)⟩
theorem Hand.ne {M : Sto} {h t : Addr} {n : Int} (x : Hand M h n) (e : M t = none) : t ≠ h := fun q => by
  obtain ⟨a, b, c, e1, _⟩ := x
  rw [q, e1] at e
  cases e
/-- a new thing, or a change of what was new, at t -/
theorem Hand.put {M : Sto} {h t : Addr} {n : Int} {o : SO} (x : Hand M h n) (ne : t ≠ h) : Hand (M.put t o) h n := by
  obtain ⟨a, b, c, e1, e2⟩ := x
  exact ⟨a, b, c, (Sto.put_ne (Ne.symm ne)).trans e1, e2⟩
theorem Stp.put {M M' : Sto} {h t : Addr} {n : Int} {o : SO} (x : Stp h M M' n) (ne : t ≠ h) (e : M t = none) : Stp h M (M'.put t o) n :=
  ⟨x.hd.put ne, fun u q hu hq => by
    have : u ≠ t := fun z => by rw [z, e] at hq; cases hq
    rw [Sto.put_ne this]
    exact x.fr u q hu hq⟩
theorem w_take [H__law_take T] (k : Nat) {h : Addr} {n many : Int} {M : Sto} {Q : Q1} (hm : Hand M h n) (h1 : 0 < many) (h2 : many < 2 ^ 200) (h4 : n < 2 ^ 50)
    (q : ∀ d M', 0 ≤ d → d < many → Stp h M M' (n + 1) → Q (.int d) M') : callN T (k + 1) "_law_take" [.ref h, .int many] M Q := by
  obtain ⟨a, b, c, hm, c0, cn⟩ := hm
  have fr : ∀ (a' b' c' : Int) t o, t ≠ h → M t = some o → (M.put h (hand a' b' c')) t = some o := fun a' b' c' t o ht e => (Sto.put_ne ht).trans e
  rw [call__law_take]
  have n1 : many.natAbs.log2 < 9000 := Nat.lt_trans (log_lt (k := 200) (by omega) (by decide)) (by decide)
  have n2 : (15485863 : Int).natAbs.log2 < 64 := by decide
  have n3 : (32452843 : Int).natAbs.log2 < 64 := by decide
  have n4 : (7919 : Int).natAbs.log2 < 64 := by decide
  have n5 : (c + 1).natAbs.log2 < 64 := log_lt (by omega) (by decide)
  have n6 : (4099 : Int).natAbs.log2 < 9000 := by decide
  have n7 : (1000033 : Int).natAbs.log2 < 9000 := by decide
  have hm2 := put_at M h (hand a b (c + 1))
  simp_arith [b__law_take, ix_ref hm, six_ref hm, ix_ref hm2, h1, n1, n2, n3, n4, n5, n6, n7, true_or, or_true]
  by_cases pa : 0 < a
  · simp_arith [pa, ixN_30]
    exact q _ _ (Int.emod_nonneg _ (by omega)) (Int.emod_lt_of_pos _ h1) ⟨⟨_, _, _, put_at _ _ _, c0, by omega⟩, fr _ _ _⟩
  · simp_arith [pa, ixN_32]
    have key : ∀ p : Int, 0 < p → p < 2 ^ 62 → (((b + 15485863 * (c + 1) * (c + 1) + 32452843 * (c + 1)) % p).natAbs.log2 < 64) := fun p h5 h6 => by
      have z1 := Int.emod_nonneg (b + 15485863 * (c + 1) * (c + 1) + 32452843 * (c + 1)) (show p ≠ 0 by omega)
      have z2 := Int.emod_lt_of_pos (b + 15485863 * (c + 1) * (c + 1) + 32452843 * (c + 1)) h5
      exact log_lt (by omega) (by decide)
    obtain ⟨x, hx, e⟩ := at_some [PV.int 2305843009213693921, PV.int 999999999989, PV.int 2305843009213693907, PV.int 67280421310721] ((c + 1) % 4) (Int.emod_nonneg _ (by decide)) (Int.emod_lt_of_pos _ (by decide))
    have hp : ∃ p : Int, x = .int p ∧ 0 < p ∧ p < 2 ^ 62 := by
      simp only [List.mem_cons, List.not_mem_nil, or_false] at hx
      rcases hx with rfl | rfl | rfl | rfl <;> exact ⟨_, rfl, by decide, by decide⟩
    obtain ⟨p, rfl, p0, p1⟩ := hp
    refine ⟨_, e, ?_⟩
    simp_arith [ix_ref hm2, p0, key p p0 p1, n4, n6, n7, h1, true_or, or_true]
    exact q _ _ (Int.emod_nonneg _ (by omega)) (Int.emod_lt_of_pos _ h1) ⟨⟨_, _, _, put_at _ _ _, by omega, by omega⟩, fr _ _ _⟩
theorem w_of [H__law_of T] (k : Nat) {h : Addr} {n : Int} {xs : List PV} {M : Sto} {Q : Q1} (hm : Hand M h n) (h0 : xs ≠ []) (h1 : xs.length < 1000) (h4 : n < 2 ^ 50)
    (q : ∀ x M', x ∈ xs → Stp h M M' (n + 1) → Q x M') : callN T (k + 2) "_law_of" [.ref h, .lst xs] M Q := by
  rw [call__law_of]
  simp_arith [b__law_of]
  have hl : 0 < xs.length := by cases xs with | nil => exact absurd rfl h0 | cons _ _ => simp
  refine w_take k hm (by omega) (by omega) h4 fun d M' d0 d1 st => ?_
  simp_arith []
  obtain ⟨x, hx, e⟩ := at_some xs d d0 d1
  exact ⟨x, e, q x M' hx st⟩
/-- one of some ints -/
theorem w_ofI [H__law_of T] (k : Nat) {h : Addr} {n : Int} {xs : List PV} {M : Sto} {Q : Q1} (P : Int → Prop) (hm : Hand M h n) (h0 : xs ≠ []) (h1 : xs.length < 1000) (h4 : n < 2 ^ 50) (hx : ∀ x ∈ xs, ∃ i, x = .int i ∧ P i)
    (q : ∀ i M', P i → Stp h M M' (n + 1) → Q (.int i) M') : callN T (k + 2) "_law_of" [.ref h, .lst xs] M Q :=
  w_of k hm h0 h1 h4 fun x M' hm' st => by
    obtain ⟨i, rfl, p⟩ := hx x hm'
    exact q i M' p st
theorem w_worth [H__law_worth T] (k : Nat) {h : Addr} {n : Int} {M : Sto} {Q : Q1} (hm : Hand M h n) (h4 : n < 2 ^ 49)
    (q : ∀ w M', -9 ≤ w → w ≤ 9 → Stp h M M' (n + 2) → Q (.int w) M') : callN T (k + 3) "_law_worth" [.ref h] M Q := by
  rw [call__law_worth]
  simp_arith [b__law_worth]
  refine w_take (k + 1) hm (by decide) (by decide) (by omega) fun d M1 d0 d1 s1 => ?_
  simp_arith []
  refine w_ofI k (fun i => -9 ≤ i ∧ i ≤ 9) s1.hd (by simp) (by simp) (by omega) (fun x hx => ?_) fun w M2 hw s2 => q w M2 hw.1 hw.2 ((s1.trans s2).up (by omega))
  simp only [List.mem_cons, List.not_mem_nil, or_false] at hx
  rcases hx with rfl | rfl | rfl | rfl | rfl | rfl | rfl | rfl <;> exact ⟨_, rfl, by omega, by omega⟩
theorem w_simple [H__law_simple T] (k : Nat) {h : Addr} {n : Int} {m : Nat} {M : Sto} {Q : Q1} (hm : Hand M h n) (m1 : 1 ≤ m) (m6 : m ≤ 6) (h4 : n < 2 ^ 48)
    (q : ∀ (s : Sm) M', s.Ok → s.ws.length = m → Stp h M M' (n + 20) → Q s.pv M') : callN T (k + 4) "_law_simple" [.ref h, .int m] M Q := by
  rw [call__law_simple]
  simp_arith [b__law_simple, rng_len]
  refine ⟨by omega, by omega, PG.sl6 (by omega), ?_⟩
  refine compL_cps (fun i acc M' => ∃ ws : List Int, acc = ws.map .int ∧ ws.length = i ∧ (∀ w ∈ ws, -9 ≤ w ∧ w ≤ 9) ∧ Stp h M M' (n + 2 * i)) _ [] 0 M ⟨[], rfl, rfl, fun w hw => (by cases hw), Stp.refl (by simpa using hm)⟩ ?_ (fun _ _ _ _ => trivial) ?_
  · rintro i x acc M2 c hx ⟨ws, rfl, hl, hw, st⟩ hc
    obtain ⟨rfl, hlt⟩ := rng0_get hx
    simp_arith [] at hl hw st hc ⊢
    refine w_worth k st.hd (by omega) fun w M3 w0 w1 s3 => ?_
    refine hc (some (.int w)) M3 ⟨ws ++ [w], by simp, by simp [hl], fun v hv => ?_, (st.trans s3).up (by omega)⟩
    rcases List.mem_append.mp hv with q | q
    · exact hw v q
    · rw [List.mem_singleton.mp q]; exact ⟨w0, w1⟩
  · rintro acc M2 ⟨ws, rfl, hl, hw, st⟩
    simp_arith [rng_len] at hl st ⊢
    have wk : WsOk ws := ⟨by omega, by omega, hw⟩
    refine w_take (k + 2) st.hd (by decide) (by decide) (by omega) fun d M3 d0 d1 s3 => ?_
    have s3 := st.trans s3
    simp_arith []
    by_cases e : d = 0
    · simp_arith [e]
      refine w_take (k + 2) s3.hd (by decide) (by decide) (by omega) fun g M4 g0 g1 s4 => ?_
      have s4 := s3.trans s4
      simp_arith []
      refine w_take (k + 2) s4.hd (by omega) (by omega) (by omega) fun r M5 r0 r1 s5 => ?_
      have s5 := s4.trans s5
      exact q (.rest ws r (2 + g)) M5 ⟨wk, by omega, by omega, by omega, by omega⟩ (show ws.length = m by omega) (s5.up (by omega))
    · simp_arith [e]
      refine w_take (k + 2) s3.hd (by decide) (by decide) (by omega) fun g M4 g0 g1 s4 => ?_
      have s4 := s3.trans s4
      simp_arith []
      refine w_ofI (k + 1) (fun i => -20 ≤ i ∧ i ≤ 20) s4.hd (by simp) (by simp) (by omega) (fun x hx => ?_) fun c M5 hc s5 => ?_
      · simp only [List.mem_cons, List.not_mem_nil, or_false] at hx
        rcases hx with rfl | rfl | rfl | rfl | rfl | rfl | rfl | rfl | rfl <;> exact ⟨_, rfl, by omega, by omega⟩
      · have s5 := s4.trans s5
        exact q (.sum ws c) M5 ⟨wk, hc.1, hc.2⟩ (show ws.length = m by omega) (s5.up (by omega))
def cst : Nat → Int
  | 0 => 0
  | 1 => 22
  | d + 2 => 2 * cst (d + 1) + 1
/-- a drawn saying of m sorts -/
structure Drawn (m : Nat) (d : Nat) (a : Sy) : Prop where
  ok : a.Ok
  ws : ∀ s ∈ a.sms, s.ws.length = m
  dep : a.dep ≤ d
  few : a.sms.length ≤ 2 ^ (d - 1)
theorem cst_mono (d : Nat) : 22 ≤ cst (d + 1) := by
  induction d with
  | zero => decide
  | succ d ih => unfold cst; omega
theorem w_saying [H__law_saying T] : ∀ (d k : Nat) {h : Addr} {n : Int} {m : Nat} {M : Sto} {Q : Q1}, Hand M h n → 1 ≤ m → m ≤ 6 → n + cst (d + 1) < 2 ^ 47 →
    (∀ a M', Drawn m (d + 1) a → Stp h M M' (n + cst (d + 1)) → Q a.pv M') → callN T (k + 5 + d) "_law_saying" [.ref h, .int m, .int (d + 1 : Nat)] M Q
  | 0, k, h, n, m, M, Q, hm, m1, m6, h4, q => by
    have c1 : cst (0 + 1) = 22 := rfl
    rw [c1] at h4 q
    rw [Nat.add_zero, call__law_saying]
    simp_arith [b__law_saying]
    refine w_take (k + 3) hm (by decide) (by decide) (by omega) fun w M1 d0 d1 s1 => ?_
    try simp_arith []
    refine w_simple k s1.hd m1 m6 (by omega) fun s M2 g hl s2 => q (.one s) M2 ⟨fun t ht => ?_, fun t ht => ?_, by simp [Sy.dep], by simp [Sy.sms]⟩ ((s1.trans s2).up (by omega))
    · simp only [Sy.sms, List.mem_singleton] at ht; rw [ht]; exact g
    · simp only [Sy.sms, List.mem_singleton] at ht; rw [ht]; exact hl
  | d + 1, k, h, n, m, M, Q, hm, m1, m6, h4, q => by
    have c1 : cst (d + 1 + 1) = 2 * cst (d + 1) + 1 := rfl
    have c2 := cst_mono d
    rw [c1] at h4 q
    have e1 : k + 5 + (d + 1) = (k + 5 + d) + 1 := by omega
    have e0 : ((d + 1 + 1 : Nat) : Int) = (d : Int) + 2 := by omega
    have e2 : decide (((d + 1 + 1 : Nat) : Int) < 2) = false := decide_eq_false (by omega)
    have e3 : ((d + 1 + 1 : Nat) : Int) - 1 = ((d + 1 : Nat) : Int) := by omega
    rw [e1, call__law_saying]
    simp_arith [b__law_saying]
    have e4 : k + 5 + d = (k + d + 4) + 1 := by omega
    rw [e4]
    refine w_take (k + d + 4) hm (by decide) (by decide) (by omega) fun w M1 d0 d1 s1 => ?_
    simp_arith [e2, e3]
    by_cases z : w = 0
    · simp_arith [z]
      have e5 : k + d + 5 = (k + d + 1) + 4 := by omega
      refine w_simple (k + d + 1) s1.hd m1 m6 (by omega) fun s M2 g hl s2 => q (.one s) M2 ⟨fun t ht => ?_, fun t ht => ?_, by simp [Sy.dep], by simp [Sy.sms]; exact Nat.one_le_two_pow⟩ ((s1.trans s2).up (by omega))
      · simp only [Sy.sms, List.mem_singleton] at ht; rw [ht]; exact g
      · simp only [Sy.sms, List.mem_singleton] at ht; rw [ht]; exact hl
    · simp_arith [z]
      have e5 : k + d + 5 = k + 5 + d := by omega
      rw [e5]
      refine w_saying d k s1.hd m1 m6 (by omega) fun a M2 ga s2 => ?_
      have s2 := s1.trans s2
      have pw : 2 ^ (d + 1 - 1) + 2 ^ (d + 1 - 1) = 2 ^ (d + 1 + 1 - 1) := by rw [show d + 1 + 1 - 1 = (d + 1 - 1) + 1 by omega, Nat.pow_succ]; omega
      try simp_arith []
      by_cases y : w = 1
      · simp_arith [y]
        refine q (.no a) M2 ⟨ga.ok, ga.ws, by have := ga.dep; simp only [Sy.dep]; omega, by have := ga.few; simp only [Sy.sms]; omega⟩ (s2.up (by omega))
      · simp_arith [y]
        have hw : w = 2 ∨ w = 3 := by omega
        rcases hw with rfl | rfl
        · simp_arith [Int.reduceSub]
          refine w_saying d k s2.hd m1 m6 (by omega) fun b M3 gb s3 => ?_
          refine q (.an a b) M3 ⟨fun t ht => ?_, fun t ht => ?_, ?_, ?_⟩ ((s2.trans s3).up (by omega))
          · rcases List.mem_append.mp ht with z | z
            · exact ga.ok t z
            · exact gb.ok t z
          · rcases List.mem_append.mp ht with z | z
            · exact ga.ws t z
            · exact gb.ws t z
          · have h1 := ga.dep
            have h2 := gb.dep
            simp only [Sy.dep]; omega
          · have h1 := ga.few
            have h2 := gb.few
            simp only [Sy.sms, List.length_append]; omega
        · simp_arith [Int.reduceSub]
          refine w_saying d k s2.hd m1 m6 (by omega) fun b M3 gb s3 => ?_
          refine q (.or a b) M3 ⟨fun t ht => ?_, fun t ht => ?_, ?_, ?_⟩ ((s2.trans s3).up (by omega))
          · rcases List.mem_append.mp ht with z | z
            · exact ga.ok t z
            · exact gb.ok t z
          · rcases List.mem_append.mp ht with z | z
            · exact ga.ws t z
            · exact gb.ws t z
          · have h1 := ga.dep
            have h2 := gb.dep
            simp only [Sy.dep]; omega
          · have h1 := ga.few
            have h2 := gb.few
            simp only [Sy.sms, List.length_append]; omega
end LA
/-! the laws' own defs: sizes, pouring, meetings -/
namespace LA
open PySem SG SY
variable {T : List (Str × FDef)}
/-- M' has all that M has -/
def Le (M M' : Sto) : Prop := ∀ t o, M t = some o → M' t = some o
theorem Le.refl (M : Sto) : Le M M := fun _ _ e => e
theorem Le.trans {M M' M'' : Sto} (a : Le M M') (b : Le M' M'') : Le M M'' := fun t o e => b t o (a t o e)
theorem Le.put {M M' : Sto} {p : Addr} {o : SO} (a : Le M M') (e : M p = none) : Le M (M'.put p o) := fun t u h => by
  have : t ≠ p := fun z => by rw [z, e] at h; cases h
  rw [Sto.put_ne this]
  exact a t u h
theorem Le.hand {M M' : Sto} {h : Addr} {n : Int} (a : Le M M') (x : Hand M h n) : Hand M' h n := by
  obtain ⟨p, q, c, e, r⟩ := x
  exact ⟨p, q, c, a _ _ e, r⟩
theorem Stp.le {M M' M'' : Sto} {h : Addr} {n : Int} (x : Stp h M M' n) (a : Le M' M'') : Stp h M M'' n := ⟨a.hand x.hd, fun t o ht e => a _ _ (x.fr t o ht e)⟩
/-- a number of a member -/
def InR (s : Sm) (n : Int) : Prop := s.low ≤ n ∧ n ≤ s.size
/-- alike long, place by place -/
structure F2 {α β : Type} (R : α → β → Prop) (xs : List α) (ys : List β) : Prop where
  len : xs.length = ys.length
  at_ : ∀ (i : Nat) x y, xs[i]? = some x → ys[i]? = some y → R x y
theorem F2.nil {α β : Type} {R : α → β → Prop} : F2 R [] [] := ⟨rfl, fun i x y h => by simp at h⟩
theorem F2.cons {α β : Type} {R : α → β → Prop} {x : α} {y : β} {xs : List α} {ys : List β} (h : R x y) (t : F2 R xs ys) : F2 R (x :: xs) (y :: ys) :=
  ⟨by simp [t.len], fun i a b h1 h2 => by
    cases i with
    | zero => simp at h1 h2; rw [← h1, ← h2]; exact h
    | succ i => simp at h1 h2; exact t.at_ i a b h1 h2⟩
theorem F2.snoc {α β : Type} {R : α → β → Prop} {x : α} {y : β} {xs : List α} {ys : List β} (t : F2 R xs ys) (h : R x y) : F2 R (xs ++ [x]) (ys ++ [y]) :=
  ⟨by simp [t.len], fun i a b h1 h2 => by
    have hl := t.len
    by_cases hi : i < xs.length
    · rw [List.getElem?_append_left hi] at h1
      rw [List.getElem?_append_left (by omega)] at h2
      exact t.at_ i a b h1 h2
    · rw [List.getElem?_append_right (by omega)] at h1
      rw [List.getElem?_append_right (by omega), ← hl] at h2
      cases e : i - xs.length with
      | zero => rw [e] at h1 h2; simp at h1 h2; rw [← h1, ← h2]; exact h
      | succ j => rw [e] at h1; simp at h1⟩
theorem F2.imp {α β : Type} {R S : α → β → Prop} {xs : List α} {ys : List β} (t : F2 R xs ys) (h : ∀ x y, x ∈ xs → y ∈ ys → R x y → S x y) : F2 S xs ys :=
  ⟨t.len, fun i x y h1 h2 => h x y (List.mem_of_getElem? h1) (List.mem_of_getElem? h2) (t.at_ i x y h1 h2)⟩
theorem zip3_at {α β γ : Type} {as : List α} {bs : List β} {cs : List γ} {p : α × β × γ} (h : p ∈ as.zip (bs.zip cs)) : ∃ i : Nat, as[i]? = some p.1 ∧ bs[i]? = some p.2.1 ∧ cs[i]? = some p.2.2 := by
  obtain ⟨i, e⟩ := List.mem_iff_getElem?.mp h
  obtain ⟨a, b, c⟩ := p
  rw [List.getElem?_zip_eq_some, List.getElem?_zip_eq_some] at e
  exact ⟨i, e⟩
theorem zip2_at {α β : Type} {as : List α} {bs : List β} {p : α × β} (h : p ∈ as.zip bs) : ∃ i : Nat, as[i]? = some p.1 ∧ bs[i]? = some p.2 := by
  obtain ⟨i, e⟩ := List.mem_iff_getElem?.mp h
  obtain ⟨a, b⟩ := p
  rw [List.getElem?_zip_eq_some] at e
  exact ⟨i, e⟩
theorem d_sr : decide ((Str.ofString "sum") = Str.ofString "rest") = false := by decide +kernel
theorem w_size [H__law_size T] (k : Nat) {s : Sm} (g : s.Ok) (M : Sto) (Q : Q1) : callN T (k + 1) "_law_size" [s.pv] M Q ↔ Q (.int s.size) M := by
  rw [call__law_size]
  cases s with
  | rest ws r m => simp_arith [b__law_size, Sm.pv, Sm.size]
  | sum ws c =>
    have wk := g.1
    simp_arith [b__law_size, Sm.pv, d_sr]
    rw [compL_map (f := PV.int) (g := fun w => .int (absI w)) ws []]
    · have l6 := wk.l6
      have l1 : ws.length ≤ sizeLine := PG.sl6 (by omega)
      have l2 : ws.length + 1 ≤ sizeLine := PG.sl6 (by omega)
      have ei : PV.ints (ws.map (fun w => PV.int (absI w)) ++ [PV.int ((if c < 0 then -c else c) + 1)]) = some (ws.map absI ++ [absI c + 1]) := by
        have := ints_map (fun w : Int => w) (ws.map absI ++ [absI c + 1])
        rw [List.map_append, List.map_map, List.map_id'] at this
        exact this
      have key : ∀ n ns, ws.map absI ++ [absI c + 1] = n :: ns → mxA (absI c + 1) ws = maxI n ns := fun n ns e => by
        have h := mx_ge n ns
        have hm := maxI_mem n ns
        have mem : ∀ x, x ∈ ws.map absI ++ [absI c + 1] → x ≤ maxI n ns := fun x hx => by
          rw [e] at hx
          rcases List.mem_cons.mp hx with q | q
          · rw [q]; exact h.1
          · exact h.2 x q
        refine mxA_eq (mem _ (by simp)) (fun w hw => mem _ (List.mem_append_left _ (List.mem_map.mpr ⟨w, hw, rfl⟩))) ?_
        have : maxI n ns ∈ ws.map absI ++ [absI c + 1] := by
          rw [e]
          rcases hm with q | q
          · rw [q]; exact List.mem_cons_self
          · exact List.mem_cons_of_mem _ q
        rcases List.mem_append.mp this with q | q
        · obtain ⟨w, hw, e⟩ := List.mem_map.mp q
          exact .inr ⟨w, hw, e.symm⟩
        · exact .inl (List.mem_singleton.mp q)
      simp_arith [b_max1, List.length_map, l1, l2, ei, Sm.size]
      cases e : ws.map absI ++ [absI c + 1] with
      | nil => simp at e
      | cons n ns =>
        rw [key n ns e]
        constructor
        · rintro ⟨n', ns', e', q⟩
          cases e'
          exact q
        · intro q
          exact ⟨n, ns, rfl, q⟩
    · intro w _ c
      simp_arith [absI]
/-- what the laws' own says tells -/
def saysL : Sm → Int → Bool
  | .sum _ c, n => decide (c ≤ n)
  | .rest _ r m, n => decide (n % m = r)
theorem says_mod {s : Sm} (g : s.Ok) {n : Int} (h : InR s n) : saysL s n = s.says n := by
  cases s with
  | sum ws c => rfl
  | rest ws r m =>
    obtain ⟨h0, h1⟩ := h
    have h0 : (0 : Int) ≤ n := h0
    have h1 : n ≤ m - 1 := h1
    dsimp only [Sm.says, saysL]
    rw [Int.emod_eq_of_lt h0 (by omega)]
theorem w_says [H__law_says T] (k : Nat) {s : Sm} (g : s.Ok) (n : Int) (M : Sto) (Q : Q1) : callN T (k + 1) "_law_says" [s.pv, .int n] M Q ↔ Q (.bl (saysL s n)) M := by
  rw [call__law_says]
  cases s with
  | sum ws c => simp_arith [b__law_says, Sm.pv, d_sr, saysL]
  | rest ws r m => simp_arith [b__law_says, Sm.pv, PG.Ok.mpos g, saysL]
theorem w_poured [H__law_poured T] (k : Nat) {s : Sm} (g : s.Ok) (one other : Int) {M : Sto} {Q : Q1} (q : ∀ p r, (InR s one → p = s.cut (one + other) ∧ r = s.over (one + other)) → Q (.tup [.int p, .int r]) M) :
    callN T (k + 2) "_law_poured" [s.pv, .int one, .int other] M Q := by
  rw [call__law_poured]
  cases s with
  | rest ws r m =>
    have mp := PG.Ok.mpos g
    have q1 := q ((one + other) % m) 0 fun _ => ⟨rfl, rfl⟩
    simp_arith [b__law_poured, Sm.pv, mp]
    exact q1
  | sum ws c =>
    have sz := w_size (T := T) k g M
    have z1 := g.size.1
    simp only [Sm.pv] at sz
    simp_arith [b__law_poured, b__law_poured_L4, b__law_poured_L6, Sm.pv, d_sr, sz]
    have cutd : ∀ n : Int, (Sm.sum ws c).cut n = if (if n < (Sm.sum ws c).size then n else (Sm.sum ws c).size) > -(Sm.sum ws c).size then (if n < (Sm.sum ws c).size then n else (Sm.sum ws c).size) else -(Sm.sum ws c).size := fun n => rfl
    have overd : ∀ n : Int, (Sm.sum ws c).over n = n - (Sm.sum ws c).cut n := fun n => rfl
    have rngd : InR (Sm.sum ws c) one ↔ -(Sm.sum ws c).size ≤ one ∧ one ≤ (Sm.sum ws c).size := Iff.rfl
    generalize (Sm.sum ws c).size = z at *
    refine while_hoare (fun b : Int × Int => [some (Sm.sum ws c).pv, some (.int b.1), some (.int b.2), some (.int z)]) (fun b => decide (0 < b.2) && decide (b.1 < z)) (fun b => (b.1 + 1, b.2 - 1)) (fun b => b.1 + b.2 = one + other ∧ (InR (Sm.sum ws c) one → -z ≤ b.1 ∧ b.1 ≤ z)) (fun b => b.2.toNat) ?_ ?_ ?_ _ (one, other) (Nat.le_refl _) ⟨rfl, fun h => rngd.mp h⟩
    · rintro ⟨x, y⟩ c ⟨j1, j2⟩ hc hq
      simp only [Bool.and_eq_true, decide_eq_true_eq] at hc
      simp_arith [hc.1, hc.2]
      exact hq
    · rintro ⟨x, y⟩ ⟨j1, j2⟩ hc
      simp only [Bool.and_eq_true, decide_eq_true_eq] at hc
      dsimp only at j1 j2 hc ⊢
      exact ⟨⟨by omega, fun h => by have := j2 h; omega⟩, by omega⟩
    · rintro ⟨x, y⟩ c' ⟨j1, j2⟩ hc
      have hc' : ¬ (0 < y ∧ x < z) := by simpa using hc
      dsimp only at j1 j2
      by_cases h1 : 0 < y
      · have h2 : ¬ x < z := fun h => hc' ⟨h1, h⟩
        have h3 : ¬ y < 0 := by omega
        simp_arith [h1, h2]
        refine ⟨1, ?_⟩
        simp_arith [whileN, h3]
        refine q x y fun h => ?_
        have := j2 h
        rw [overd, cutd]
        omega
      · simp_arith [h1]
        refine while_hoare (fun b : Int × Int => [some (Sm.sum ws c).pv, some (.int b.1), some (.int b.2), some (.int z)]) (fun b => decide (b.2 < 0) && decide (-z < b.1)) (fun b => (b.1 - 1, b.2 + 1)) (fun b => b.1 + b.2 = one + other ∧ b.2 ≤ 0 ∧ (InR (Sm.sum ws c) one → -z ≤ b.1 ∧ b.1 ≤ z)) (fun b => (-b.2).toNat) ?_ ?_ ?_ _ (x, y) (Nat.le_refl _) ⟨j1, by omega, j2⟩
        · rintro ⟨x, y⟩ c ⟨j1, j2⟩ hc hq
          simp only [Bool.and_eq_true, decide_eq_true_eq] at hc
          simp_arith [hc.1, hc.2]
          exact hq
        · rintro ⟨x, y⟩ ⟨j1, j0, j2⟩ hc
          simp only [Bool.and_eq_true, decide_eq_true_eq] at hc
          dsimp only at j1 j2 hc j0 ⊢
          exact ⟨⟨by omega, by omega, fun h => by have := j2 h; omega⟩, by omega⟩
        · rintro ⟨x, y⟩ c' ⟨j1, j0, j2⟩ hc
          have hc' : ¬ (y < 0 ∧ -z < x) := by simpa using hc
          dsimp only at j1 j2 j0
          have fin : Q (.tup [.int x, .int y]) M := by
            refine q x y fun h => ?_
            have := j2 h
            rw [overd, cutd]
            omega
          by_cases h1 : y < 0
          · have h2 : ¬ -z < x := fun h => hc' ⟨h1, h⟩
            simp_arith [h1, h2]
            exact fin
          · simp_arith [h1]
            exact fin
end LA
/-! the laws' own defs: meetings, drawn members and notes, simple ones -/
namespace LA
open PySem SG SY
variable {T : List (Str × FDef)}
theorem cut_InR {s : Sm} (g : s.Ok) (n : Int) : InR s (s.cut n) := Sm.cut_in g n
theorem w_pair [H__law_pair T] (k : Nat) {s : Sm} (g : s.Ok) (a b : Hold) (ha : InR s a.2.1) (hb : InR s b.2.1) {M : Sto} {Q : Q1} (q : Q (.tup [hpv (mm s a b).1, hpv (mm s a b).2]) M) : callN T (k + 3) "_law_pair" [s.pv, hpv a, hpv b] M Q := by
  obtain ⟨l1, v1, w1⟩ := a
  obtain ⟨l2, v2, w2⟩ := b
  rw [call__law_pair]
  cases l1 with
  | true =>
    simp_arith [b__law_pair, hpv]
    refine w_poured k g v1 v2 fun p r h => ?_
    obtain ⟨rfl, rfl⟩ := h ha
    simp_arith [w_says _ g, says_mod g (cut_InR g _)]
    simpa [mm, hpv] using q
  | false =>
    cases l2 with
    | true =>
      simp_arith [b__law_pair, hpv]
      refine w_poured k g v2 v1 fun p r h => ?_
      obtain ⟨rfl, rfl⟩ := h hb
      simp_arith [w_says _ g, says_mod g (cut_InR g _), List.reverse_cons, List.reverse_nil]
      rw [Int.add_comm v2 v1]
      simpa [mm, hpv] using q
    | false =>
      simp_arith [b__law_pair, hpv]
      simpa [mm, hpv] using q
/-- of a member and a note, whatever it is -/
theorem w_pairN [H__law_pair T] (k : Nat) {s : Sm} (g : s.Ok) (a : Hold) (b : NHold) {M : Sto} {Q : Q1} (q : ∀ u v, Q (.tup [u, v]) M) : callN T (k + 3) "_law_pair" [s.pv, hpv a, npv b] M Q := by
  obtain ⟨l1, v1, w1⟩ := a
  obtain ⟨l2, v2⟩ := b
  rw [call__law_pair]
  cases l1 with
  | true =>
    simp_arith [b__law_pair, hpv, npv]
    refine w_poured k g v1 v2 fun p r h => ?_
    simp_arith [w_says _ g]
    exact q _ _
  | false =>
    cases l2 with
    | true =>
      simp_arith [b__law_pair, hpv, npv]
      refine w_poured k g v2 v1 fun p r h => ?_
      simp_arith [w_says _ g, List.reverse_cons, List.reverse_nil]
      exact q _ _
    | false =>
      simp_arith [b__law_pair, hpv, npv]
      exact q _ _
theorem w_noted [H__law_noted T] (k : Nat) {s : Sm} (g : s.Ok) (a : Hold) (b : NHold) (ha : InR s a.2.1) {M : Sto} {Q : Q1} (q : Q (.tup [hpv (nm s a b).1, npv (nm s a b).2]) M) : callN T (k + 3) "_law_noted" [s.pv, hpv a, npv b] M Q := by
  obtain ⟨l1, v1, w1⟩ := a
  obtain ⟨l2, v2⟩ := b
  rw [call__law_noted]
  simp_arith [b__law_noted, hpv, npv]
  refine w_poured k g v1 v2 fun p r h => ?_
  obtain ⟨rfl, rfl⟩ := h ha
  cases l1 <;> cases l2 <;> simp_arith [w_says _ g, says_mod g (cut_InR g _)] <;> simpa [nm, hpv, npv] using q
/-- both have numbers as members do, and so many as there are simple ones -/
def MetOk (ss : List Sm) : St → Prop
  | .mem _ hs => F2 (fun s (h : Hold) => InR s h.2.1) ss hs
  | .note hs => hs.length = ss.length
theorem sl64 {n : Nat} (h : n < 64) : n < sizeLine := Nat.lt_of_lt_of_le h (by decide)
theorem at3m (a b c : PV) : L2.atI [a, b, c] (-1) = some c := rfl
theorem at2m (a b : PV) : L2.atI [a, b] (-1) = some b := rfl
theorem zip3_drop {α β γ : Type} {as : List α} {bs : List β} {cs : List γ} {i : Nat} {a : α} {b : β} {c : γ} (h1 : as[i]? = some a) (h2 : bs[i]? = some b) (h3 : cs[i]? = some c) : (as.zip (bs.zip cs))[i]? = some (a, b, c) := by
  rw [List.getElem?_zip_eq_some, List.getElem?_zip_eq_some]
  exact ⟨h1, h2, h3⟩
theorem take_snoc {α : Type} {xs : List α} {i : Nat} {x : α} (h : xs[i]? = some x) : xs.take (i + 1) = xs.take i ++ [x] := by
  obtain ⟨hi, e⟩ := List.getElem?_eq_some_iff.mp h
  rw [← e, List.take_append_getElem hi]
theorem w_met_mem [H__law_met T] (k : Nat) {ss : List Sm} (hss : ∀ s ∈ ss, s.Ok) (h64 : ss.length < 64) (s : Int) (hs : List Hold) (y : St) (hx : MetOk ss (.mem s hs)) (hy : MetOk ss y) {M : Sto} {Q : Q1}
    (q : ∀ M', Le M M' → Q (.tup [oSt (meet ss (.mem s hs) y).1, oSt (meet ss (.mem s hs) y).2]) M') : callN T (k + 4) "_law_met" [.lst (ss.map Sm.pv), (St.mem s hs).pv, y.pv] M Q := by
  rw [call__law_met]
  cases y with
  | mem t js =>
    simp_arith [b__law_met, St.pv, PG.d_mn, at3m, zip3_map]
    intro p hp p2 hp2
    have ne : p ≠ p2 := fun e => by rw [e, Sto.put_same] at hp2; cases hp2
    have hp2' : M p2 = none := by rw [Sto.put_ne (Ne.symm ne)] at hp2; exact hp2
    refine forL_cps (fun i ρ M' => (∃ x6 x7 x8 x9, ρ = [some (.lst (ss.map Sm.pv)), some (St.mem s hs).pv, some (St.mem t js).pv, some (.ref p), some (.ref p2), some (.bl false), x6, x7, x8, x9, none, none]) ∧ Le M M' ∧
      M' p = some (.lst ((((mmL ss hs js).take i).map (·.1)).map hpv)) ∧ M' p2 = some (.lst ((((mmL ss hs js).take i).map (·.2)).map hpv))) _ 0 _ _ ⟨⟨_, _, _, _, rfl⟩, ((Le.refl M).put hp).put hp2', ?_, ?_⟩ ?_ (fun _ _ _ _ => trivial) ?_
    · rw [Sto.put_ne ne, Sto.put_same]; rfl
    · rw [Sto.put_same]; rfl
    · rintro i x ρ M1 c hx' ⟨⟨x6, x7, x8, x9, rfl⟩, le, m1, m2⟩ hc
      rw [Nat.zero_add] at m1 m2
      rw [List.getElem?_map] at hx'
      obtain ⟨z, hz, rfl⟩ := Option.map_eq_some_iff.mp hx'
      obtain ⟨j, z1, z2, z3⟩ := zip3_at (List.mem_of_getElem? hz)
      have gs := hss _ (List.mem_of_getElem? z1)
      have il : i < 64 := by
        have := (List.getElem?_eq_some_iff.mp hz).1
        rw [List.length_zip] at this
        omega
      have tk : (mmL ss hs js).take (i + 1) = (mmL ss hs js).take i ++ [mm z.1 z.2.1 z.2.2] := take_snoc (by unfold mmL; rw [List.getElem?_map, hz]; rfl)
      have l1 : ((((mmL ss hs js).take i).map (·.1)).map hpv).length < sizeLine := sl64 (by simp only [List.length_map, List.length_take]; omega)
      have l2 : ((((mmL ss hs js).take i).map (·.2)).map hpv).length < sizeLine := sl64 (by simp only [List.length_map, List.length_take]; omega)
      simp_arith [b__law_met_L6]
      refine w_pair k gs z.2.1 z.2.2 (hx.at_ j _ _ z1 z2) (hy.at_ j _ _ z1 z3) ?_
      simp_arith [rcv_ref m1, app_ref m1, l1]
      have m2' : (M1.put p (.lst ((((mmL ss hs js).take i).map (·.1)).map hpv ++ [hpv (mm z.1 z.2.1 z.2.2).1]))) p2 = some (.lst ((((mmL ss hs js).take i).map (·.2)).map hpv)) := by rw [Sto.put_ne (Ne.symm ne)]; exact m2
      simp_arith [rcv_ref m2', app_ref m2', l2]
      refine hc _ _ ⟨⟨_, _, _, _, rfl⟩, (le.put hp).put hp2', ?_, ?_⟩
      · rw [Sto.put_ne ne, Sto.put_same, Nat.zero_add, tk]; simp
      · rw [Sto.put_same, Nat.zero_add, tk]; simp
    · rintro ρ M1 ⟨⟨x6, x7, x8, x9, rfl⟩, le, m1, m2⟩
      have ex : (mmL ss hs js).take (0 + ((ss.zip (hs.zip js)).map fun p => PV.tup [p.1.pv, hpv p.2.1, hpv p.2.2]).length) = mmL ss hs js := List.take_of_length_le (by unfold mmL; simp)
      rw [ex] at m1 m2
      have m2' := b_tuple_ref m2
      simp_arith [St.pv, b_tuple_ref m1, m2']
      exact q M1 le
  | note js =>
    simp_arith [b__law_met, St.pv, PG.d_mn, at2m, zip3_map]
    intro p hp p2 hp2
    have ne : p ≠ p2 := fun e => by rw [e, Sto.put_same] at hp2; cases hp2
    have hp2' : M p2 = none := by rw [Sto.put_ne (Ne.symm ne)] at hp2; exact hp2
    refine forL_cps (fun i ρ M' => (∃ x6 x7 x8 x9, ρ = [some (.lst (ss.map Sm.pv)), some (St.mem s hs).pv, some (St.note js).pv, some (.ref p), some (.ref p2), some (.bl true), x6, x7, x8, x9, none, none]) ∧ Le M M' ∧
      M' p = some (.lst ((((nmL ss hs js).take i).map (·.1)).map hpv)) ∧ M' p2 = some (.lst ((((nmL ss hs js).take i).map (·.2)).map npv))) _ 0 _ _ ⟨⟨_, _, _, _, rfl⟩, ((Le.refl M).put hp).put hp2', ?_, ?_⟩ ?_ (fun _ _ _ _ => trivial) ?_
    · rw [Sto.put_ne ne, Sto.put_same]; rfl
    · rw [Sto.put_same]; rfl
    · rintro i x ρ M1 c hx' ⟨⟨x6, x7, x8, x9, rfl⟩, le, m1, m2⟩ hc
      rw [Nat.zero_add] at m1 m2
      rw [List.getElem?_map] at hx'
      obtain ⟨z, hz, rfl⟩ := Option.map_eq_some_iff.mp hx'
      obtain ⟨j, z1, z2, z3⟩ := zip3_at (List.mem_of_getElem? hz)
      have gs := hss _ (List.mem_of_getElem? z1)
      have il : i < 64 := by
        have := (List.getElem?_eq_some_iff.mp hz).1
        rw [List.length_zip] at this
        omega
      have tk : (nmL ss hs js).take (i + 1) = (nmL ss hs js).take i ++ [nm z.1 z.2.1 z.2.2] := take_snoc (by unfold nmL; rw [List.getElem?_map, hz]; rfl)
      have l1 : ((((nmL ss hs js).take i).map (·.1)).map hpv).length < sizeLine := sl64 (by simp only [List.length_map, List.length_take]; omega)
      have l2 : ((((nmL ss hs js).take i).map (·.2)).map npv).length < sizeLine := sl64 (by simp only [List.length_map, List.length_take]; omega)
      simp_arith [b__law_met_L6]
      refine w_pairN k gs z.2.1 z.2.2 fun u v => ?_
      try simp_arith []
      refine w_noted k gs z.2.1 z.2.2 (hx.at_ j _ _ z1 z2) ?_
      simp_arith [rcv_ref m1, app_ref m1, l1]
      have m2' : (M1.put p (.lst ((((nmL ss hs js).take i).map (·.1)).map hpv ++ [hpv (nm z.1 z.2.1 z.2.2).1]))) p2 = some (.lst ((((nmL ss hs js).take i).map (·.2)).map npv)) := by rw [Sto.put_ne (Ne.symm ne)]; exact m2
      simp_arith [rcv_ref m2', app_ref m2', l2]
      refine hc _ _ ⟨⟨_, _, _, _, rfl⟩, (le.put hp).put hp2', ?_, ?_⟩
      · rw [Sto.put_ne ne, Sto.put_same, Nat.zero_add, tk]; simp
      · rw [Sto.put_same, Nat.zero_add, tk]; simp
    · rintro ρ M1 ⟨⟨x6, x7, x8, x9, rfl⟩, le, m1, m2⟩
      have ex : (nmL ss hs js).take (0 + ((ss.zip (hs.zip js)).map fun p => PV.tup [p.1.pv, hpv p.2.1, npv p.2.2]).length) = nmL ss hs js := List.take_of_length_le (by unfold nmL; simp)
      rw [ex] at m1 m2
      have hl : ((nmL ss hs js).map (·.2)).length ≤ sizeLine := PG.sl6 (by unfold nmL; simp only [List.length_map, List.length_zip]; omega)
      have m2' := b_tuple_ref m2
      have hl' : (nmL ss hs js).length ≤ sizeLine := by rw [List.length_map] at hl; exact hl
      simp_arith [St.pv, b_tuple_ref m1, walk_ref m2, List.length_map, hl']
      refine compL_cps (fun i acc M' => M' = M1 ∧ acc = (((nmL ss hs js).map (·.2)).take i).map fun h => PV.bl (decide (h = (false, 0)))) _ [] 0 M1 ⟨rfl, rfl⟩ ?_ (fun i acc M' h => by rw [h.1]; exact m2) ?_
      · rintro i x acc M2 c hx' ⟨rfl, rfl⟩ hc
        rw [List.getElem?_map] at hx'
        obtain ⟨z, hz, rfl⟩ := Option.map_eq_some_iff.mp hx'
        have e := cmp_eq_npv z (false, 0) M2
        simp only [npv] at e
        simp_arith [npv, e]
        refine hc (some (PV.bl (decide (z = (false, 0))))) M2 ⟨rfl, ?_⟩
        rw [Nat.zero_add, take_snoc hz]
        simp
      · rintro acc M2 ⟨rfl, rfl⟩
        have e2 : (0 + (((nmL ss hs js).map (·.2)).map npv).length) = ((nmL ss hs js).map (·.2)).length := by simp
        rw [e2, List.take_length]
        simp_arith [bools_map, b_tuple_ref m1, m2']
        have e : (((nmL ss hs js).map (·.2)).map fun h => decide (h = (false, 0))).all id = bare ((nmL ss hs js).map (·.2)) := by
          unfold bare
          rw [List.all_map]
          congr 1
          funext h
          rw [Bool.eq_iff_iff]
          simp
        rw [e]
        have q' := q M2 le
        cases hb : bare ((nmL ss hs js).map (·.2)) with
        | true => simpa [meet, ntO, hb, oSt, St.pv] using q'
        | false => simpa [meet, ntO, hb, oSt, St.pv] using q'
theorem meet_rev (ss : List Sm) (ns : List NHold) (s : Int) (hs : List Hold) : meet ss (.note ns) (.mem s hs) = ((meet ss (.mem s hs) (.note ns)).2, (meet ss (.mem s hs) (.note ns)).1) := rfl
theorem w_met [H__law_met T] (k : Nat) {ss : List Sm} (hss : ∀ s ∈ ss, s.Ok) (h64 : ss.length < 64) (x y : St) (hx : MetOk ss x) (hy : MetOk ss y) {M : Sto} {Q : Q1}
    (q : ∀ M', Le M M' → Q (.tup [oSt (meet ss x y).1, oSt (meet ss x y).2]) M') : callN T (k + 5) "_law_met" [.lst (ss.map Sm.pv), x.pv, y.pv] M Q := by
  cases x with
  | mem s hs => exact w_met_mem (k + 1) hss h64 s hs y hx hy q
  | note ns =>
    rw [call__law_met]
    cases y with
    | note ms =>
      simp_arith [b__law_met, St.pv]
      exact q M (Le.refl M)
    | mem s hs =>
      have go := fun (Q' : Q1) (h : ∀ M', Le M M' → Q' _ M') => w_met_mem (T := T) k hss h64 s hs (.note ns) hy hx (M := M) (Q := Q') h
      simp only [St.pv] at go
      simp_arith [b__law_met, St.pv, PG.d_mn]
      refine go _ fun M' le => ?_
      simp_arith [List.reverse_cons, List.reverse_nil]
      rw [meet_rev] at q
      exact q M' le
end LA
/-! the laws' own defs: drawn members and notes, simple ones in order, the hand -/
namespace LA
open PySem SG SY
variable {T : List (Str × FDef)}
def HoldOk (s : Sm) (h : Hold) : Prop := InR s h.2.1 ∧ (h.1 = true → h.2.2 = s.says h.2.1)
/-- a number of a note -/
def InR2 (s : Sm) (n : Int) : Prop := match s with
  | .sum ws c => -2 * (Sm.sum ws c).size ≤ n ∧ n ≤ 2 * (Sm.sum ws c).size
  | .rest ws r m => 0 ≤ n ∧ n ≤ (Sm.rest ws r m).size
def NHoldOk (s : Sm) (h : NHold) : Prop := InR2 s h.2
/-- a state of these simple ones -/
def StOk (ss : List Sm) (m : Nat) : St → Prop
  | .mem t hs => 0 ≤ t ∧ t < m ∧ F2 HoldOk ss hs
  | .note hs => F2 NHoldOk ss hs ∧ bare hs = false
theorem StOk.met {ss : List Sm} {m : Nat} {x : St} (h : StOk ss m x) : MetOk ss x := by
  cases x with
  | mem t hs => exact h.2.2.imp fun _ _ _ _ h => h.1
  | note hs => exact h.1.len.symm
theorem StOk.few {ss : List Sm} {m : Nat} {x : St} (h : StOk ss m x) (l : ss.length < 64) : PG.St.few x := by
  cases x with
  | mem t hs => have := h.2.2.len; show _ < 64; omega
  | note hs => have := h.1.len; show _ < 64; omega
theorem low_le {s : Sm} (g : s.Ok) : s.low ≤ 0 := by
  cases s with
  | sum ws c => have := g.size; show -(Sm.sum ws c).size ≤ 0; omega
  | rest ws r m => exact Int.le_refl _
def headW : Sm → Str
  | .sum .. => "sum"
  | .rest .. => "rest"
theorem rest_at (s : Sm) (M : Sto) (Q : Q1) : ixS s.pv (.int 0) M Q ↔ Q (.str (headW s)) M := by
  cases s <;> simp_arith [Sm.pv, headW]
/-- one turn: a drawn hold -/
theorem member_turn [H__law_member T] (k : Nat) {s : Sm} (g : s.Ok) {h t : Addr} {n : Int} {xs : List PV} {M : Sto} {D : SG.Ends} {x1 x2 x5 x6 x7 x8 x9 x10 : Option PV} (hh : Hand M h n) (ht : M t = some (.lst xs)) (ne : t ≠ h) (hn : n < 2 ^ 47) (hx : xs.length < 64)
    (q : ∀ (hd : Hold) (M' : Sto) (y5 y6 y7 y8 y9 y10 : Option PV), HoldOk s hd → Stp h M M' (n + 4) → D.nx [some (.ref h), x1, x2, some (.ref t), some s.pv, y5, y6, y7, y8, y9, y10] (M'.put t (.lst (xs ++ [hpv hd])))) :
    wpSs (callN T (k + 2)) b__law_member_L2 [some (.ref h), x1, x2, some (.ref t), some s.pv, x5, x6, x7, x8, x9, x10] M D := by
  have z := g.size
  have lo := low_le g
  simp_arith [b__law_member_L2, w_size _ g]
  refine w_take (k + 1) hh (by decide) (by decide) (by omega) fun d M1 d0 d1 s1 => ?_
  have cs : (headW s = Str.ofString "rest" ∧ s.low = 0) ∨ (¬ headW s = Str.ofString "rest" ∧ s.low = -s.size) := by
    cases s with
    | sum ws c => exact .inr ⟨Sm.sne, rfl⟩
    | rest ws r m => exact .inl ⟨rfl, rfl⟩
  simp_arith [rest_at]
  rcases cs with ⟨e, lw⟩ | ⟨e, lw⟩
  all_goals
    simp_arith [e]
    refine w_take (k + 1) s1.hd (by omega) (by omega) (by omega) fun e M2 e0 e1 s2 => ?_
    have s2 := s1.trans s2
    simp_arith []
    refine w_ofI k (fun i => InR s i) s2.hd (by simp) (by simp) (by omega) (fun x hx => ?_) fun v M3 hv s3 => ?_
    · simp only [List.mem_cons, List.not_mem_nil, or_false] at hx
      rcases hx with rfl | rfl | rfl | rfl | rfl <;> exact ⟨_, rfl, by constructor <;> omega⟩
    have s3 := s2.trans s3
    try simp_arith []
    refine w_take (k + 1) s3.hd (by decide) (by decide) (by omega) fun w M4 w0 w1 s4 => ?_
    have s4 := s3.trans s4
    have ht4 : M4 t = some (.lst xs) := s4.fr t _ ne ht
    by_cases hd : d = 0
    · have q' := q (true, v, s.says v) M4
      simp only [hpv] at q'
      simp_arith [hd, w_says _ g, says_mod g hv, rcv_ref ht4, app_ref ht4, sl64 hx]
      exact q' _ _ _ _ _ _ ⟨hv, fun _ => rfl⟩ (s4.up (by omega))
    · have q' := q (false, v, decide (w = 0)) M4
      simp only [hpv] at q'
      simp_arith [hd, rcv_ref ht4, app_ref ht4, sl64 hx]
      exact q' _ _ _ _ _ _ ⟨hv, fun e => by cases e⟩ (s4.up (by omega))
theorem w_member [H__law_member T] (k : Nat) {ss : List Sm} (hss : ∀ s ∈ ss, s.Ok) (h64 : ss.length < 64) {h : Addr} {n : Int} (t : PV) {M : Sto} {Q : Q1} (hh : Hand M h n) (hn : n < 2 ^ 46)
    (q : ∀ (hs : List Hold) M', F2 HoldOk ss hs → Stp h M M' (n + 256) → Q (.tup [.str "member", t, .tup (hs.map hpv)]) M') : callN T (k + 3) "_law_member" [.ref h, .lst (ss.map Sm.pv), t] M Q := by
  rw [call__law_member]
  simp_arith [b__law_member]
  intro p hp
  have ne := hh.ne hp
  refine forL_cps (fun i ρ M' => (∃ x4 x5 x6 x7 x8 x9 x10, ρ = [some (.ref h), some (.lst (ss.map Sm.pv)), some t, some (.ref p), x4, x5, x6, x7, x8, x9, x10]) ∧ i ≤ ss.length ∧ ∃ hs : List Hold, M' p = some (.lst (hs.map hpv)) ∧ F2 HoldOk (ss.take i) hs ∧ Stp h M M' (n + 4 * i)) _ 0 _ _
    ⟨⟨_, _, _, _, _, _, _, rfl⟩, Nat.zero_le _, [], Sto.put_same, F2.nil, (Stp.refl (hh.up (by omega))).put ne hp⟩ ?_ (fun _ _ _ _ => trivial) ?_
  · rintro i x ρ M1 c hx ⟨⟨x4, x5, x6, x7, x8, x9, x10, rfl⟩, hi, hs, m1, f2, st⟩ hc
    rw [Nat.zero_add] at hi f2 st
    rw [List.getElem?_map] at hx
    obtain ⟨s, hs', rfl⟩ := Option.map_eq_some_iff.mp hx
    have hlt := (List.getElem?_eq_some_iff.mp hs').1
    have hl : hs.length = i := by have := f2.len; rw [List.length_take] at this; omega
    simp_arith []
    refine member_turn k (hss s (List.mem_of_getElem? hs')) st.hd m1 ne (by omega) (by rw [List.length_map]; omega) fun hd M2 y5 y6 y7 y8 y9 y10 ok s2 => ?_
    refine hc _ _ ⟨⟨_, _, _, _, _, _, _, rfl⟩, by omega, hs ++ [hd], ?_, ?_, ?_⟩
    · rw [Sto.put_same]; simp
    · rw [Nat.zero_add, take_snoc hs']; exact f2.snoc ok
    · exact ((st.trans s2).put ne hp).up (by omega)
  · rintro ρ M1 ⟨⟨x4, x5, x6, x7, x8, x9, x10, rfl⟩, hi, hs, m1, f2, st⟩
    rw [List.length_map, Nat.zero_add, List.take_length] at f2
    rw [List.length_map, Nat.zero_add] at st
    simp_arith [b_tuple_ref m1]
    exact q hs M1 f2 (st.up (by omega))
theorem note_turn [H__law_note T] (k : Nat) {s : Sm} (g : s.Ok) {h t : Addr} {n : Int} {xs : List PV} {M : Sto} {D : SG.Ends} {x1 x4 x5 x6 x7 x8 x9 : Option PV} (hh : Hand M h n) (ht : M t = some (.lst xs)) (ne : t ≠ h) (hn : n < 2 ^ 47) (hx : xs.length < 64)
    (q : ∀ (hd : NHold) (M' : Sto) (y4 y5 y6 y7 y8 : Option PV), NHoldOk s hd → Stp h M M' (n + 3) → D.nx [some (.ref h), x1, some (.ref t), some s.pv, y4, y5, y6, y7, y8, x9] (M'.put t (.lst (xs ++ [npv hd])))) :
    wpSs (callN T (k + 2)) b__law_note_L2 [some (.ref h), x1, some (.ref t), some s.pv, x4, x5, x6, x7, x8, x9] M D := by
  have z := g.size
  have n2 : (2 : Int).natAbs.log2 < 64 := by decide
  have n3 : (-2 : Int).natAbs.log2 < 64 := by decide
  cases s with
  | sum ws c =>
    have e1 := rest_at (Sm.sum ws c) M
    simp only [headW] at e1
    simp_arith [b__law_note_L2, w_size _ g, e1, d_sr, n2, n3, true_or]
    refine w_take (k + 1) hh (by omega) (by omega) (by omega) fun e M2 e0 e1 s2 => ?_
    simp_arith []
    refine w_ofI k (fun i => InR2 (.sum ws c) i) s2.hd (by simp) (by simp) (by omega) (fun x hx => ?_) fun v M3 hv s3 => ?_
    · simp only [List.mem_cons, List.not_mem_nil, or_false] at hx
      rcases hx with rfl | rfl | rfl | rfl <;> exact ⟨_, rfl, by constructor <;> omega⟩
    have s3 := s2.trans s3
    have ht3 : M3 t = some (.lst xs) := s3.fr t _ ne ht
    simp_arith [rcv_ref ht3]
    refine w_take (k + 1) s3.hd (by decide) (by decide) (by omega) fun w M4 w0 w1 s4 => ?_
    have s4 := s3.trans s4
    have ht4 : M4 t = some (.lst xs) := s4.fr t _ ne ht
    have q' := q (decide (w = 0), v) M4
    simp only [npv] at q'
    simp_arith [app_ref ht4, sl64 hx]
    exact q' _ _ _ _ _ hv (s4.up (by omega))
  | rest ws r m =>
    have e1 := rest_at (Sm.rest ws r m) M
    simp only [headW] at e1
    simp_arith [b__law_note_L2, w_size _ g, e1, n2, n3, true_or]
    refine w_take (k + 1) hh (by omega) (by omega) (by omega) fun e M2 e0 e1 s2 => ?_
    simp_arith []
    refine w_ofI k (fun i => InR2 (.rest ws r m) i) s2.hd (by simp) (by simp) (by omega) (fun x hx => ?_) fun v M3 hv s3 => ?_
    · simp only [List.mem_cons, List.not_mem_nil, or_false] at hx
      rcases hx with rfl | rfl | rfl | rfl <;> exact ⟨_, rfl, by constructor <;> omega⟩
    have s3 := s2.trans s3
    have ht3 : M3 t = some (.lst xs) := s3.fr t _ ne ht
    simp_arith [rcv_ref ht3]
    refine w_take (k + 1) s3.hd (by decide) (by decide) (by omega) fun w M4 w0 w1 s4 => ?_
    have s4 := s3.trans s4
    have ht4 : M4 t = some (.lst xs) := s4.fr t _ ne ht
    have q' := q (decide (w = 0), v) M4
    simp only [npv] at q'
    simp_arith [app_ref ht4, sl64 hx]
    exact q' _ _ _ _ _ hv (s4.up (by omega))
theorem all_bare (hs : List NHold) : (hs.map fun h => decide (h = (false, 0))).all id = bare hs := by
  unfold bare
  rw [List.all_map]
  congr 1
  funext h
  rw [Bool.eq_iff_iff]
  simp
/-- [hold == (False, 0) for hold in a stored list] -/
theorem comp_bare {hs : List NHold} {p : Addr} {M : Sto} {step : PV → Sto → (Option PV → Sto → Prop) → Prop} {Q : List PV → Sto → Prop} (m : M p = some (.lst (hs.map npv))) (hst : ∀ h k, step (npv h) M k ↔ k (some (.bl (decide (h = (false, 0))))) M)
    (q : Q (hs.map fun h => .bl (decide (h = (false, 0)))) M) : compL step (fun M' => M' p = some (.lst (hs.map npv))) (hs.map npv) [] M Q := by
  refine compL_cps (fun i acc M' => M' = M ∧ acc = (hs.take i).map fun h => PV.bl (decide (h = (false, 0)))) _ [] 0 M ⟨rfl, rfl⟩ ?_ (fun i acc M' h => by rw [h.1]; exact m) ?_
  · rintro i x acc M2 c hx' ⟨rfl, rfl⟩ hc
    rw [List.getElem?_map] at hx'
    obtain ⟨z, hz, rfl⟩ := Option.map_eq_some_iff.mp hx'
    rw [hst]
    refine hc (some (PV.bl (decide (z = (false, 0))))) M2 ⟨rfl, ?_⟩
    rw [Nat.zero_add, take_snoc hz]
    simp
  · rintro acc M2 ⟨rfl, rfl⟩
    rw [List.length_map, Nat.zero_add, List.take_length]
    exact q
theorem w_note [H__law_note T] (k : Nat) {ss : List Sm} (hss : ∀ s ∈ ss, s.Ok) (h64 : ss.length < 64) (h0 : ss ≠ []) {h : Addr} {n : Int} {M : Sto} {Q : Q1} (hh : Hand M h n) (hn : n < 2 ^ 46)
    (q : ∀ (hs : List NHold) M', F2 NHoldOk ss hs → bare hs = false → Stp h M M' (n + 256) → Q (St.note hs).pv M') : callN T (k + 3) "_law_note" [.ref h, .lst (ss.map Sm.pv)] M Q := by
  rw [call__law_note]
  simp_arith [b__law_note]
  intro p hp
  have ne := hh.ne hp
  refine forL_cps (fun i ρ M' => (∃ x3 x4 x5 x6 x7 x8, ρ = [some (.ref h), some (.lst (ss.map Sm.pv)), some (.ref p), x3, x4, x5, x6, x7, x8, none]) ∧ i ≤ ss.length ∧ ∃ hs : List NHold, M' p = some (.lst (hs.map npv)) ∧ F2 NHoldOk (ss.take i) hs ∧ Stp h M M' (n + 3 * i)) _ 0 _ _
    ⟨⟨_, _, _, _, _, _, rfl⟩, Nat.zero_le _, [], Sto.put_same, F2.nil, (Stp.refl (hh.up (by omega))).put ne hp⟩ ?_ (fun _ _ _ _ => trivial) ?_
  · rintro i x ρ M1 c hx ⟨⟨x3, x4, x5, x6, x7, x8, rfl⟩, hi, hs, m1, f2, st⟩ hc
    rw [Nat.zero_add] at hi f2 st
    rw [List.getElem?_map] at hx
    obtain ⟨s, hs', rfl⟩ := Option.map_eq_some_iff.mp hx
    have hlt := (List.getElem?_eq_some_iff.mp hs').1
    have hl : hs.length = i := by have := f2.len; rw [List.length_take] at this; omega
    simp_arith []
    refine note_turn k (hss s (List.mem_of_getElem? hs')) st.hd m1 ne (by omega) (by rw [List.length_map]; omega) fun hd M2 y4 y5 y6 y7 y8 ok s2 => ?_
    refine hc _ _ ⟨⟨_, _, _, _, _, _, rfl⟩, by omega, hs ++ [hd], ?_, ?_, ?_⟩
    · rw [Sto.put_same]; simp
    · rw [Nat.zero_add, take_snoc hs']; exact f2.snoc ok
    · exact ((st.trans s2).put ne hp).up (by omega)
  · rintro ρ M1 ⟨⟨x3, x4, x5, x6, x7, x8, rfl⟩, hi, hs, m1, f2, st⟩
    rw [List.length_map, Nat.zero_add, List.take_length] at f2
    rw [List.length_map, Nat.zero_add] at st
    have hl := f2.len
    simp_arith [walk_ref m1, List.length_map, PG.sl6 (show hs.length ≤ 64 by omega)]
    refine comp_bare m1 (fun h k => ?_) ?_
    · have e := cmp_eq_npv h (false, 0) M1
      simp only [npv] at e
      simp_arith [npv, e]
    · simp_arith [bools_map, all_bare]
      cases hb : bare hs with
      | false =>
        simp_arith [b_tuple_ref m1]
        exact q hs M1 f2 hb (st.up (by omega))
      | true =>
        cases hs with
        | nil => exact absurd (List.length_eq_zero_iff.mp hl) h0
        | cons a r =>
          have ix : L2.ixN (a :: r).length 0 = some 0 := ixN_0 _
          have e1 : L2.ixN (r.length + 1) 0 = some 0 := ixN_0 _
          simp_arith [six_ref m1, e1, List.length_map, b_tuple_ref (put_at M1 p _)]
          refine q ((true, 0) :: r) (M1.put p (.lst (npv (true, 0) :: r.map npv))) ?_ ?_ ((st.put ne hp).up (by omega))
          · refine ⟨by simpa using f2.len, fun i x y h1 h2 => ?_⟩
            cases i with
            | zero =>
              simp at h2
              rw [← h2]
              have gx := (hss x (List.mem_of_getElem? h1)).size
              show InR2 x 0
              cases x with
              | sum ws c => constructor <;> omega
              | rest ws r m => constructor <;> omega
            | succ j => exact f2.at_ (j + 1) x y h1 (by simpa using h2)
          · simp [bare]
end LA
/-! the laws' own defs: the hand, simple ones in order; what repr can show -/
namespace LA
open PySem SG SY
variable {T : List (Str × FDef)}
theorem w_hand [H__law_hand T] (k : Nat) (ns : List Int) (idx : Int) (h0 : 0 ≤ idx) {M : Sto} {Q : Q1} (q : ∀ p M', M p = none → (∃ a b, M' = M.put p (hand a b 0)) → Hand M' p 0 → Q (.ref p) M') : callN T (k + 1) "_law_hand" [.lst (ns.map .int), .int idx] M Q := by
  rw [call__law_hand]
  have n1 : (104729 : Int).natAbs.log2 < 64 := by decide
  have n2 : (69621 : Int).natAbs.log2 < 64 := by decide
  have n3 : (2 : Int).natAbs.log2 < 64 := by decide
  have n4 : Int.natAbs 10 < 2 ^ 64 := by decide
  have q : ∀ p a b, M p = none → Q (.ref p) (M.put p (hand a b 0)) := fun p a b hp => q p _ hp ⟨a, b, rfl⟩ ⟨a, b, 0, put_at _ _ _, by decide, by decide⟩
  have st := fun (cell : Int) (turn : PV → Rho → Sto → (Rho → Sto → Prop) → Prop) (done : Rho → Sto → Prop) => forL_st (turn := turn) (done := done) (f := PV.int) (M := M) (fun (b : Int × Option PV) => [some (PV.lst (ns.map .int)), some (PV.int idx), some (PV.int cell), some (PV.int b.1), b.2])
    (fun (b : Int × Option PV) (x : Int) => ((b.1 * 69621 + 2 * (if x < 0 then -x else x) + (if decide (x < 0) = true then 1 else 0)) % 2305843009213693951, some (PV.int x))) (cutP ns none (some 60)) (700001 + 104729 * idx, none)
  have go : ∀ (cell : Int) (done : Rho → Sto → Prop), (∀ b : Int × Option PV, done [some (PV.lst (ns.map .int)), some (PV.int idx), some (PV.int cell), some (PV.int b.1), b.2] M) →
      forL (fun x ρ1 M' c => wpSs (callN T k) b__law_hand_L3 (ρ1.set 4 (some x)) M' ⟨c, Q, done, c⟩) (fun _ => True) done ((cutP ns none (some 60)).map PV.int) [some (PV.lst (ns.map .int)), some (PV.int idx), some (PV.int cell), some (PV.int (700001 + 104729 * idx)), none] M := by
    intro cell done hd
    refine (st cell _ _ fun x _ b c => ?_).mpr (hd _)
    simp_arith [b__law_hand_L3, n2, n3, true_or, or_true]
  simp_arith [b__law_hand, List.length_map, cut_map, n1, true_or]
  have fin : ∀ (cell b : Int), if decide (10 ^ Int.toNat 18 ≤ cell) = true then ∀ (p : Addr), M p = none → Q (PV.ref p) (M.put p (SO.lst [PV.int cell, PV.int b, PV.int 0])) else ∀ (p : Addr), M p = none → Q (PV.ref p) (M.put p (SO.lst [PV.int 0, PV.int b, PV.int 0])) := by
    intro cell b
    split
    · exact fun p hp => q p _ _ hp
    · exact fun p hp => q p _ _ hp
  by_cases c : idx < ns.length
  · obtain ⟨x, hx, e⟩ := at_some (ns.map PV.int) idx h0 (by rw [List.length_map]; exact c)
    obtain ⟨cell, _, rfl⟩ := List.mem_map.mp hx
    rw [if_pos (decide_eq_true c)]
    refine ⟨_, e, go cell _ fun b => ?_⟩
    simp_arith [n4]
    exact fin _ _
  · rw [if_neg (by simp [c])]
    refine go 0 _ fun b => ?_
    simp_arith [n4]
    exact fin _ _
/-! ### simple ones in order -/
theorem eqb_sm (s t : Sm) : PV.eqb s.pv t.pv = decide (s = t) := by
  have hi : ∀ a b : List Int, PV.eqbs (a.map PV.int) (b.map PV.int) = decide (a = b) := eqbs_map fun a b => eqb_int a b
  cases s with
  | sum ws c =>
    cases t with
    | sum ws' c' =>
      simp only [Sm.pv, PV.eqb, PV.eqbs, hi, Bool.and_true]
      by_cases h1 : ws = ws' <;> by_cases h2 : c = c' <;> simp [h1, h2]
    | rest ws' r m =>
      have : (Str.ofString "sum" == Str.ofString "rest") = false := by decide +kernel
      simp [Sm.pv, PV.eqb, PV.eqbs, this]
  | rest ws r m =>
    cases t with
    | sum ws' c' =>
      have : (Str.ofString "rest" == Str.ofString "sum") = false := by decide +kernel
      simp [Sm.pv, PV.eqb, PV.eqbs, this]
    | rest ws' r' m' =>
      simp only [Sm.pv, PV.eqb, PV.eqbs, hi, Bool.and_true]
      by_cases h1 : ws = ws' <;> by_cases h2 : r = r' <;> by_cases h3 : m = m' <;> simp [h1, h2, h3]
def addU (acc : List Sm) (s : Sm) : List Sm := acc ++ (if s ∈ acc then [] else [s])
theorem addU_ok : ∀ (xs acc : List Sm), acc.Nodup → (xs.foldl addU acc).Nodup ∧ (∀ s, s ∈ xs.foldl addU acc ↔ s ∈ acc ∨ s ∈ xs) ∧ (xs.foldl addU acc).length ≤ acc.length + xs.length
  | [], acc, h => ⟨h, fun s => by simp, by simp⟩
  | x :: r, acc, h => by
    have nd : (addU acc x).Nodup := by
      unfold addU
      split
      · simpa using h
      · rename_i hx
        exact List.nodup_append.mpr ⟨h, by simp, fun a ha b hb => by rw [List.mem_singleton.mp hb]; exact fun e => hx (e ▸ ha)⟩
    obtain ⟨h1, h2, h3⟩ := addU_ok r (addU acc x) nd
    have hl : (addU acc x).length ≤ acc.length + 1 := by
      unfold addU
      split <;> simp
    rw [List.foldl_cons]
    refine ⟨h1, fun s => ?_, by rw [List.length_cons]; omega⟩
    rw [h2]
    unfold addU
    split
    · rename_i hx
      rw [List.append_nil, List.mem_cons]
      constructor
      · rintro (e | e)
        · exact .inl e
        · exact .inr (.inr e)
      · rintro (e | e | e)
        · exact .inl e
        · subst e; exact .inl hx
        · exact .inr e
    · rw [List.mem_append, List.mem_singleton, List.mem_cons, or_assoc]
theorem notin_sms (s : Sm) (acc : List Sm) (M : Sto) (Q : Q1) : cmpS .notin s.pv (.lst (acc.map Sm.pv)) M Q ↔ Q (.bl (!decide (s ∈ acc))) M := by
  have p2 : PV.pls (acc.map Sm.pv) = true := pls_map (fun s => s.pl) acc
  have p3 : ((acc.map Sm.pv).any fun z => PV.eqb z s.pv) = decide (s ∈ acc) := by
    rw [List.any_map, Bool.eq_iff_iff, List.any_eq_true, decide_eq_true_eq]
    constructor
    · rintro ⟨t, ht, e⟩
      have e' : decide (t = s) = true := by rw [← eqb_sm]; exact e
      rw [← of_decide_eq_true e']; exact ht
    · intro h
      exact ⟨s, h, by show PV.eqb s.pv s.pv = true; rw [eqb_sm]; simp⟩
  show inS true _ _ M Q ↔ _
  rw [in_so (so_lst M _) (.inl ⟨s.pl, p2, .inl (by have := s.dep2; omega)⟩)]
  simp only [p3, if_true]
theorem mul_one (x : PV) (b : Bool) (M : Sto) (Q : Q1) : binS .mul (.lst [x]) (.int (if b = true then 1 else 0)) M Q ↔ Q (.lst (if b = true then [x] else [])) M := by
  have s1 : 1 ≤ sizeLine := PG.sl6 (by decide)
  cases b <;> simp [binS, mulS, lo, newL, s1]
theorem cut1_2 (a b : PV) : cutP [a, b] (some 1) none = [b] := by unfold cutP HT.sIx; simp
theorem cut1_3 (a b c : PV) : cutP [a, b, c] (some 1) none = [b, c] := by unfold cutP HT.sIx; simp
theorem in_sr (x : Str) (v : Bool) (hx : (PV.str x).pl = true) (hv : (([.str "sum", .str "rest"] : List PV).any fun z => PV.eqb z (.str x)) = v) (M : Sto) (Q : Q1) : cmpS .isin (.str x) (.tup [.str "sum", .str "rest"]) M Q ↔ Q (.bl v) M := by
  have p2 : PV.pls [.str "sum", .str "rest"] = true := by decide +kernel
  show inS false _ _ M Q ↔ _
  rw [in_so (so_tup M _) (.inl ⟨hx, p2, .inl (by simp [PV.dep])⟩)]
  simp only [hv, Bool.false_eq_true, if_false]
theorem in_sum (M : Sto) (Q : Q1) : cmpS .isin (.str "sum") (.tup [.str "sum", .str "rest"]) M Q ↔ Q (.bl true) M := in_sr "sum" true (by decide +kernel) (by decide +kernel) M Q
theorem in_rest (M : Sto) (Q : Q1) : cmpS .isin (.str "rest") (.tup [.str "sum", .str "rest"]) M Q ↔ Q (.bl true) M := in_sr "rest" true (by decide +kernel) (by decide +kernel) M Q
theorem in_not (M : Sto) (Q : Q1) : cmpS .isin (.str "not") (.tup [.str "sum", .str "rest"]) M Q ↔ Q (.bl false) M := in_sr "not" false (by decide +kernel) (by decide +kernel) M Q
theorem in_and (M : Sto) (Q : Q1) : cmpS .isin (.str "and") (.tup [.str "sum", .str "rest"]) M Q ↔ Q (.bl false) M := in_sr "and" false (by decide +kernel) (by decide +kernel) M Q
theorem in_or (M : Sto) (Q : Q1) : cmpS .isin (.str "or") (.tup [.str "sum", .str "rest"]) M Q ↔ Q (.bl false) M := in_sr "or" false (by decide +kernel) (by decide +kernel) M Q
theorem addU_len (acc : List Sm) (s : Sm) : (addU acc s).length ≤ acc.length + 1 := by
  unfold addU
  split <;> simp
/-- the inner loop -/
theorem singles_turn {F : FS} (a : PV) (z : Option PV) (D : SG.Ends) (M : Sto) (s : Sm) (acc : List Sm) (hl : acc.length < 64)
    (q : D.nx [some a, some (.lst ((addU acc s).map Sm.pv)), z, some s.pv] M) : wpSs F b__law_singles_L5 [some a, some (.lst (acc.map Sm.pv)), z, some s.pv] M D := by
  have lk : acc.length + 1 ≤ sizeLine := PG.sl6 (by omega)
  have lk0 : acc.length ≤ sizeLine := PG.sl6 (by omega)
  have e : acc.map Sm.pv ++ (if (!decide (s ∈ acc)) = true then [s.pv] else []) = (addU acc s).map Sm.pv := by
    unfold addU
    by_cases h : s ∈ acc <;> simp [h]
  have lk2 : (acc.map Sm.pv).length + (if (!decide (s ∈ acc)) = true then [s.pv] else []).length ≤ sizeLine := by
    by_cases h : s ∈ acc <;> simp [h] <;> assumption
  simp_arith [b__law_singles_L5, notin_sms, mul_one, lk2, e]
  exact q
theorem singles_loop {F : FS} (a : PV) (z : Option PV) (done : Rho → Sto → Prop) (M : Sto) (rt : PV → Sto → Prop) : ∀ (xs acc : List Sm) (x3 : Option PV), acc.Nodup → acc.length + xs.length < 64 →
    (∀ y, done [some a, some (.lst ((xs.foldl addU acc).map Sm.pv)), z, y] M) →
    forL (fun x ρ1 M' c => wpSs F b__law_singles_L5 (ρ1.set 3 (some x)) M' ⟨c, rt, done, c⟩) (fun _ => True) done (xs.map Sm.pv) [some a, some (.lst (acc.map Sm.pv)), z, x3] M
  | [], acc, x3, nd, hl, q => q _
  | s :: r, acc, x3, nd, hl, q => by
    rw [List.map_cons]
    unfold forL
    rw [List.length_cons] at hl
    have := addU_len acc s
    refine singles_turn a z _ M s acc (by omega) ⟨trivial, ?_⟩
    exact singles_loop a z done M rt r (addU acc s) _ (addU_ok [s] acc nd).1 (by omega) q
/-- one turn of the outer loop -/
theorem singles_outer {F : FS} (a : PV) (b : Sy) (D : SG.Ends) (M : Sto) (acc : List Sm) (x3 : Option PV) (nd : acc.Nodup) (hl : acc.length + b.ss.length < 64) (hc : ∀ Q : Q1, Q (.lst (b.ss.map Sm.pv)) M → F "_law_singles" [b.pv] M Q)
    (q : ∀ y, D.nx [some a, some (.lst ((b.ss.foldl addU acc).map Sm.pv)), some b.pv, y] M) : wpSs F b__law_singles_L4 [some a, some (.lst (acc.map Sm.pv)), some b.pv, x3] M D := by
  have h := singles_loop (F := F) a (some b.pv) D.nx M D.rt b.ss acc x3 nd hl q
  unfold b__law_singles_L4
  simp only [SG.wpSs, SG.wpS, wpI, wpE, wpL, List.getElem?_cons_zero, List.getElem?_cons_succ, Option.some.injEq, exists_eq_left', walk_lst, bind_nm]
  refine hc _ ?_
  rw [walk_lst]
  exact h
theorem ss_few {b : Sy} {n : Nat} (h : b.sms.length < n) : b.ss.length < n := Nat.lt_of_le_of_lt (srt_len Sm.emb b.sms) h
theorem srt_sms {xs : List Sm} (nd : xs.Nodup) (M : Sto) (Q : Q1) : srtS false (.lst (xs.map Sm.pv)) M Q ↔ Q (.lst ((srt Sm.pv xs).map Sm.pv)) M := by
  rw [srt_iff Sm.emb (fun a => by have := a.dep2; omega) (.inl Sm.isT) nd, new_f]
theorem w_singles [H__law_singles T] : ∀ (a : Sy) (k : Nat), a.sms.length < 64 → ∀ {M : Sto} {Q : Q1}, Q (.lst (a.ss.map Sm.pv)) M → callN T (k + 1 + a.dep) "_law_singles" [a.pv] M Q
  | .one s, k, hl, M, Q, q => by
    rw [show k + 1 + (Sy.one s).dep = (k + 1) + 1 from rfl, call__law_singles]
    have e : (Sy.one s).ss = [s] := rfl
    rw [e] at q
    cases s with
    | sum ws c => simp_arith [b__law_singles, Sy.pv, Sm.pv, in_sum]; exact q
    | rest ws r m => simp_arith [b__law_singles, Sy.pv, Sm.pv, in_rest]; exact q
  | .no b, k, hl, M, Q, q => by
    have hl : b.sms.length < 64 := hl
    have ih : ∀ Q : Q1, Q (.lst (b.ss.map Sm.pv)) M → callN T (k + 1 + b.dep) "_law_singles" [b.pv] M Q := fun Q q => w_singles b k hl q
    have e1 : k + 1 + (Sy.no b).dep = (k + 1 + b.dep) + 1 := by simp only [Sy.dep]; omega
    rw [e1, call__law_singles]
    have hb' : b.ss.length < 64 := ss_few hl
    obtain ⟨n1, n2, n3⟩ := addU_ok b.ss [] (by simp)
    have es : srt Sm.pv (b.ss.foldl addU []) = (Sy.no b).ss := ((srt_ok Sm.emb _).same fun s => by rw [n2, Sy.ss_mem]; simp [Sy.sms]).eq Sm.emb
    simp_arith [b__law_singles, Sy.pv, in_not, cut1_2, forL]
    refine singles_outer _ b _ M [] none (by simp) (by simpa using hb') ih fun y => ?_
    simp_arith [srt_sms n1, es]
    exact q
  | .an b c, k, hl, M, Q, q => by
    have hl : b.sms.length + c.sms.length < 64 := by simpa [Sy.sms] using hl
    have lb : b.ss.length < b.sms.length + 1 := ss_few (by omega)
    have lc : c.ss.length < c.sms.length + 1 := ss_few (by omega)
    have m1 := Nat.le_max_left b.dep c.dep
    have m2 := Nat.le_max_right b.dep c.dep
    have i1 : ∀ Q : Q1, Q (.lst (b.ss.map Sm.pv)) M → callN T (k + 1 + max b.dep c.dep) "_law_singles" [b.pv] M Q := fun Q q => by
      have := w_singles b (k + (max b.dep c.dep - b.dep)) (by omega) q
      rwa [show k + (max b.dep c.dep - b.dep) + 1 + b.dep = k + 1 + max b.dep c.dep by omega] at this
    have i2 : ∀ Q : Q1, Q (.lst (c.ss.map Sm.pv)) M → callN T (k + 1 + max b.dep c.dep) "_law_singles" [c.pv] M Q := fun Q q => by
      have := w_singles c (k + (max b.dep c.dep - c.dep)) (by omega) q
      rwa [show k + (max b.dep c.dep - c.dep) + 1 + c.dep = k + 1 + max b.dep c.dep by omega] at this
    have e1 : k + 1 + (Sy.an b c).dep = (k + 1 + max b.dep c.dep) + 1 := by simp only [Sy.dep]; omega
    rw [e1, call__law_singles]
    obtain ⟨n1, n2, n3⟩ := addU_ok b.ss [] (by simp)
    obtain ⟨o1, o2, o3⟩ := addU_ok c.ss _ n1
    have es : srt Sm.pv (c.ss.foldl addU (b.ss.foldl addU [])) = (Sy.an b c).ss := ((srt_ok Sm.emb _).same fun s => by rw [o2, n2, Sy.ss_mem, Sy.ss_mem]; simp [Sy.sms]).eq Sm.emb
    simp only [List.length_nil] at n3
    simp_arith [b__law_singles, Sy.pv, in_and, cut1_3, forL]
    refine singles_outer _ b _ M [] none (by simp) (by rw [List.length_nil]; omega) i1 fun y => ?_
    simp_arith []
    refine singles_outer _ c _ M _ _ n1 (by omega) i2 fun y => ?_
    simp_arith [srt_sms o1, es]
    exact q
  | .or b c, k, hl, M, Q, q => by
    have hl : b.sms.length + c.sms.length < 64 := by simpa [Sy.sms] using hl
    have lb : b.ss.length < b.sms.length + 1 := ss_few (by omega)
    have lc : c.ss.length < c.sms.length + 1 := ss_few (by omega)
    have m1 := Nat.le_max_left b.dep c.dep
    have m2 := Nat.le_max_right b.dep c.dep
    have i1 : ∀ Q : Q1, Q (.lst (b.ss.map Sm.pv)) M → callN T (k + 1 + max b.dep c.dep) "_law_singles" [b.pv] M Q := fun Q q => by
      have := w_singles b (k + (max b.dep c.dep - b.dep)) (by omega) q
      rwa [show k + (max b.dep c.dep - b.dep) + 1 + b.dep = k + 1 + max b.dep c.dep by omega] at this
    have i2 : ∀ Q : Q1, Q (.lst (c.ss.map Sm.pv)) M → callN T (k + 1 + max b.dep c.dep) "_law_singles" [c.pv] M Q := fun Q q => by
      have := w_singles c (k + (max b.dep c.dep - c.dep)) (by omega) q
      rwa [show k + (max b.dep c.dep - c.dep) + 1 + c.dep = k + 1 + max b.dep c.dep by omega] at this
    have e1 : k + 1 + (Sy.or b c).dep = (k + 1 + max b.dep c.dep) + 1 := by simp only [Sy.dep]; omega
    rw [e1, call__law_singles]
    obtain ⟨n1, n2, n3⟩ := addU_ok b.ss [] (by simp)
    obtain ⟨o1, o2, o3⟩ := addU_ok c.ss _ n1
    have es : srt Sm.pv (c.ss.foldl addU (b.ss.foldl addU [])) = (Sy.or b c).ss := ((srt_ok Sm.emb _).same fun s => by rw [o2, n2, Sy.ss_mem, Sy.ss_mem]; simp [Sy.sms]).eq Sm.emb
    simp only [List.length_nil] at n3
    simp_arith [b__law_singles, Sy.pv, in_or, cut1_3, forL]
    refine singles_outer _ b _ M [] none (by simp) (by rw [List.length_nil]; omega) i1 fun y => ?_
    simp_arith []
    refine singles_outer _ c _ M _ _ n1 (by omega) i2 fun y => ?_
    simp_arith [srt_sms o1, es]
    exact q
end LA
/-! what meetings keep; what repr can show -/
namespace LA
open PySem SG SY
theorem Drawn.good {m d : Nat} {a : Sy} (h : Drawn m d a) (hd : d ≤ 6) : PG.Good a :=
  ⟨h.ok, by have := h.dep; omega, by
    have h1 := h.few
    have h2 : 2 ^ (d - 1) ≤ 2 ^ 5 := Nat.pow_le_pow_right (by decide) (by omega)
    omega⟩
theorem sumR {ws : List Int} {c n : Int} : InR (.sum ws c) n ↔ -(Sm.sum ws c).size ≤ n ∧ n ≤ (Sm.sum ws c).size := Iff.rfl
theorem restR {ws : List Int} {r m n : Int} : InR (.rest ws r m) n ↔ 0 ≤ n ∧ n ≤ m - 1 := Iff.rfl
theorem sumR2 {ws : List Int} {c n : Int} : InR2 (.sum ws c) n ↔ -2 * (Sm.sum ws c).size ≤ n ∧ n ≤ 2 * (Sm.sum ws c).size := Iff.rfl
theorem restR2 {ws : List Int} {r m n : Int} : InR2 (.rest ws r m) n ↔ 0 ≤ n ∧ n ≤ m - 1 := Iff.rfl
theorem cut_sum (ws : List Int) (c n : Int) : (Sm.sum ws c).cut n = if (if n < (Sm.sum ws c).size then n else (Sm.sum ws c).size) > -(Sm.sum ws c).size then (if n < (Sm.sum ws c).size then n else (Sm.sum ws c).size) else -(Sm.sum ws c).size := rfl
theorem over_sum (ws : List Int) (c n : Int) : (Sm.sum ws c).over n = n - (Sm.sum ws c).cut n := rfl
theorem over_mem {s : Sm} (g : s.Ok) {a b : Int} (ha : InR s a) (hb : InR s b) : InR s (s.over (a + b)) := by
  cases s with
  | sum ws c =>
    have z := g.size
    rw [sumR] at ha hb ⊢
    rw [over_sum, cut_sum]
    omega
  | rest ws r m =>
    have mp := PG.Ok.mpos g
    rw [restR] at *
    show 0 ≤ (0 : Int) ∧ (0 : Int) ≤ m - 1
    omega
theorem over_note {s : Sm} (g : s.Ok) {a b : Int} (ha : InR s a) (hb : InR2 s b) : InR2 s (s.over (a + b)) := by
  cases s with
  | sum ws c =>
    have z := g.size
    rw [sumR] at ha
    rw [sumR2] at hb ⊢
    rw [over_sum, cut_sum]
    omega
  | rest ws r m =>
    have mp := PG.Ok.mpos g
    rw [restR2] at *
    show 0 ≤ (0 : Int) ∧ (0 : Int) ≤ m - 1
    omega
theorem mm_ok {s : Sm} (g : s.Ok) {a b : Hold} (ha : HoldOk s a) (hb : HoldOk s b) : HoldOk s (mm s a b).1 ∧ HoldOk s (mm s a b).2 := by
  have c := cut_InR g (a.2.1 + b.2.1)
  have o := over_mem g ha.1 hb.1
  unfold mm
  split
  · exact ⟨⟨c, fun _ => rfl⟩, o, fun e => by cases e⟩
  · split
    · exact ⟨⟨o, fun e => by cases e⟩, c, fun _ => rfl⟩
    · exact ⟨ha, hb⟩
theorem nm_ok {s : Sm} (g : s.Ok) {a : Hold} {b : NHold} (ha : HoldOk s a) (hb : NHoldOk s b) : HoldOk s (nm s a b).1 ∧ NHoldOk s (nm s a b).2 := by
  have c := cut_InR g (a.2.1 + b.2)
  have o := over_note g ha.1 hb
  unfold nm
  split
  · exact ⟨⟨c, fun _ => rfl⟩, o⟩
  · exact ⟨⟨c, fun e => by cases e⟩, o⟩
theorem F2.zip3 {α β γ δ : Type} {R : α → β → Prop} {S : α → γ → Prop} {P : α → δ → Prop} {as : List α} {bs : List β} {cs : List γ} (f : α × β × γ → δ) (h1 : F2 R as bs) (h2 : F2 S as cs) (h : ∀ a b c, a ∈ as → R a b → S a c → P a (f (a, b, c))) : F2 P as ((as.zip (bs.zip cs)).map f) := by
  have l1 := h1.len
  have l2 := h2.len
  refine ⟨by simp only [List.length_map, List.length_zip]; omega, fun i x y hx hy => ?_⟩
  rw [List.getElem?_map] at hy
  obtain ⟨⟨a, b, c⟩, hz, rfl⟩ := Option.map_eq_some_iff.mp hy
  rw [List.getElem?_zip_eq_some, List.getElem?_zip_eq_some] at hz
  obtain ⟨z1, z2, z3⟩ := hz
  simp only at z1 z2 z3
  rw [hx] at z1
  cases z1
  exact h _ _ _ (List.mem_of_getElem? hx) (h1.at_ i _ _ hx z2) (h2.at_ i _ _ hx z3)
theorem ntO_ok {ss : List Sm} {m : Nat} {ns : List NHold} (h : F2 NHoldOk ss ns) : ∀ z, ntO ns = some z → StOk ss m z := fun z e => by
  unfold ntO at e
  split at e
  · cases e
  · rename_i hb
    cases e
    exact ⟨h, by simpa using hb⟩
/-- states stay states -/
theorem meet_ok {ss : List Sm} {m : Nat} (hss : ∀ s ∈ ss, s.Ok) {x y : St} (hx : StOk ss m x) (hy : StOk ss m y) : (∀ z, (meet ss x y).1 = some z → StOk ss m z) ∧ ∀ z, (meet ss x y).2 = some z → StOk ss m z := by
  cases x with
  | mem s a =>
    obtain ⟨s0, s1, fa⟩ := hx
    cases y with
    | mem t b =>
      obtain ⟨t0, t1, fb⟩ := hy
      refine ⟨fun z e => ?_, fun z e => ?_⟩
      · cases e
        refine ⟨s0, s1, ?_⟩
        unfold mmL
        rw [List.map_map]
        exact F2.zip3 _ fa fb fun u v w hu p q => (mm_ok (hss u hu) p q).1
      · cases e
        refine ⟨t0, t1, ?_⟩
        unfold mmL
        rw [List.map_map]
        exact F2.zip3 _ fa fb fun u v w hu p q => (mm_ok (hss u hu) p q).2
    | note b =>
      obtain ⟨fb, hb⟩ := hy
      refine ⟨fun z e => ?_, ntO_ok ?_⟩
      · cases e
        refine ⟨s0, s1, ?_⟩
        unfold nmL
        rw [List.map_map]
        exact F2.zip3 _ fa fb fun u v w hu p q => (nm_ok (hss u hu) p q).1
      · unfold nmL
        rw [List.map_map]
        exact F2.zip3 _ fa fb fun u v w hu p q => (nm_ok (hss u hu) p q).2
  | note b =>
    cases y with
    | mem s a =>
      obtain ⟨fb, hb⟩ := hx
      obtain ⟨s0, s1, fa⟩ := hy
      refine ⟨ntO_ok ?_, fun z e => ?_⟩
      · unfold nmL
        rw [List.map_map]
        exact F2.zip3 _ fa fb fun u v w hu p q => (nm_ok (hss u hu) p q).2
      · cases e
        refine ⟨s0, s1, ?_⟩
        unfold nmL
        rw [List.map_map]
        exact F2.zip3 _ fa fb fun u v w hu p q => (nm_ok (hss u hu) p q).1
    | note a =>
      refine ⟨fun z e => ?_, fun z e => ?_⟩
      · cases e; exact hx
      · cases e; exact hy
/-! ### repr -/
mutual
/-- plain things whose numbers have at most sixty figures -/
def PV.sb : PV → Bool
  | .int i => decide (i.natAbs < 10 ^ 60)
  | .str x => PyData.strOk x
  | .tup xs => PV.sbs xs
  | .lst xs => PV.sbs xs
  | .non => true
  | .bl _ => true
  | .ref _ => false
  | .fn _ => false
  | .emp => false
def PV.sbs : List PV → Bool
  | [] => true
  | x :: r => PV.sb x && PV.sbs r
end
mutual
def PV.wb : PV → Nat
  | .int _ => 201
  | .str x => x.cps.size
  | .tup xs => PV.wbs xs
  | .lst xs => PV.wbs xs
  | _ => 0
def PV.wbs : List PV → Nat
  | [] => 0
  | x :: r => PV.wb x + 1 + PV.wbs r
end
mutual
theorem sb_ok : ∀ v : PV, PV.sb v = true → v.pl = true ∧ v.dat.showable = true ∧ v.dat.intsShort 61 = true ∧ v.dat.weight ≤ PV.wb v
  | .non, _ => ⟨rfl, rfl, rfl, Nat.le_refl _⟩
  | .bl _, _ => ⟨rfl, rfl, rfl, Nat.le_refl _⟩
  | .int i, h => by
    unfold PV.sb at h
    have h := of_decide_eq_true h
    have hl : i.natAbs.log2 < 200 := by
      by_cases z : i.natAbs = 0
      · rw [z]; decide
      · exact (Nat.log2_lt z).mpr (by omega)
    refine ⟨by simp [PV.pl], ?_, ?_, ?_⟩
    · unfold PV.dat PyData.showable
      exact decide_eq_true (by omega)
    · unfold PV.dat PyData.intsShort
      refine decide_eq_true ?_
      have e := int_text_length_le10 (k := 60) (by decide) h
      show (Str.ofString (toString i)).length ≤ 61
      rw [ofString_length]; exact e
    · unfold PV.dat PyData.weight PV.wb
      split <;> omega
  | .str x, h => ⟨by unfold PV.pl; unfold PV.sb at h; exact h, rfl, rfl, Nat.le_refl _⟩
  | .tup xs, h => by
    unfold PV.sb at h
    obtain ⟨a, b, c, d⟩ := sbs_ok xs h
    unfold PV.dat PyData.showable PyData.intsShort PyData.weight PV.wb PV.pl
    exact ⟨a, b, c, d⟩
  | .lst xs, h => by
    unfold PV.sb at h
    obtain ⟨a, b, c, d⟩ := sbs_ok xs h
    unfold PV.dat PyData.showable PyData.intsShort PyData.weight PV.wb PV.pl
    exact ⟨a, b, c, d⟩
  | .ref _, h => by unfold PV.sb at h; cases h
  | .fn _, h => by unfold PV.sb at h; cases h
  | .emp, h => by unfold PV.sb at h; cases h
theorem sbs_ok : ∀ xs : List PV, PV.sbs xs = true → PV.pls xs = true ∧ PyData.showableAll (PV.dats xs) = true ∧ PyData.intsShortAll 61 (PV.dats xs) = true ∧ PyData.weightAll (PV.dats xs) ≤ PV.wbs xs
  | [], _ => ⟨rfl, rfl, rfl, Nat.le_refl _⟩
  | x :: r, h => by
    unfold PV.sbs at h
    rw [Bool.and_eq_true_iff] at h
    obtain ⟨a, b, c, d⟩ := sb_ok x h.1
    obtain ⟨a', b', c', d'⟩ := sbs_ok r h.2
    unfold PV.dats PyData.showableAll PyData.intsShortAll PyData.weightAll PV.wbs PV.pls
    rw [a, a', b, b', c, c']
    exact ⟨rfl, rfl, rfl, by omega⟩
end
theorem repB {v : PV} (h : PV.sb v = true) (hd : v.dep ≤ 60) (hw : PV.wb v ≤ 2 ^ 17) : repOk v := by
  obtain ⟨a, b, c, d⟩ := sb_ok v h
  refine ⟨PV.pl_ple _ a, hd, b, ?_⟩
  have h := PyData.shown_le 61 (by decide) _ (PyData.leavesShort_of_canLay0 61 _ (PV.dat_lay v a) c)
  rw [sizeLine_eq]
  omega
theorem sbs_map {α : Type} {f : α → PV} : ∀ {xs : List α}, (∀ x ∈ xs, (PV.sb (f x)) = true) → PV.sbs (xs.map f) = true
  | [], _ => by simp [PV.sbs]
  | x :: r, h => by
    rw [List.map_cons, PV.sbs, h x List.mem_cons_self, sbs_map fun y hy => h y (List.mem_cons_of_mem _ hy)]
    rfl
theorem wbs_map {α : Type} {f : α → PV} {B : Nat} : ∀ {xs : List α}, (∀ x ∈ xs, (PV.wb (f x)) ≤ B) → PV.wbs (xs.map f) ≤ xs.length * (B + 1)
  | [], _ => by simp [PV.wbs]
  | x :: r, h => by
    have h1 := h x List.mem_cons_self
    have h2 := wbs_map fun y hy => h y (List.mem_cons_of_mem _ hy)
    rw [List.map_cons, PV.wbs, List.length_cons, Nat.add_mul]
    omega
/-- of few holds, small numbers -/
def Small : St → Prop
  | .mem t hs => 0 ≤ t ∧ t < 100 ∧ hs.length < 64 ∧ ∀ h ∈ hs, -1000 < h.2.1 ∧ h.2.1 < 1000
  | .note hs => hs.length < 64 ∧ ∀ h ∈ hs, -1000 < h.2 ∧ h.2 < 1000
theorem hpv_sm {h : Hold} (b : -1000 < h.2.1 ∧ h.2.1 < 1000) : PV.sb (hpv h) = true := by
  simp only [hpv, PV.sb, PV.sbs, Bool.and_true, Bool.true_and, decide_eq_true_eq]
  omega
theorem npv_sm {h : NHold} (b : -1000 < h.2 ∧ h.2 < 1000) : PV.sb (npv h) = true := by
  simp only [npv, PV.sb, PV.sbs, Bool.and_true, Bool.true_and, decide_eq_true_eq]
  omega
theorem hpv_wt (h : Hold) : PV.wb (hpv h) ≤ 210 := by simp [hpv, PV.wb, PV.wbs]
theorem npv_wt (h : NHold) : PV.wb (npv h) ≤ 210 := by simp [npv, PV.wb, PV.wbs]
theorem mok : PyData.strOk (Str.ofString "member") = true := by decide +kernel
theorem nok : PyData.strOk (Str.ofString "note") = true := by decide +kernel
theorem msz : (Str.ofString "member").cps.size = 6 := by decide +kernel
theorem nsz : (Str.ofString "note").cps.size = 4 := by decide +kernel
theorem Small.sm {x : St} (h : Small x) : PV.sb x.pv = true := by
  cases x with
  | mem t hs =>
    obtain ⟨t0, t1, l, b⟩ := h
    have := sbs_map fun x hx => hpv_sm (b x hx)
    simp only [St.pv, PV.sb, PV.sbs, mok, this, Bool.and_true, Bool.true_and, decide_eq_true_eq]
    omega
  | note hs =>
    obtain ⟨l, b⟩ := h
    have := sbs_map fun x hx => npv_sm (b x hx)
    simp only [St.pv, PV.sb, PV.sbs, nok, this, Bool.and_true]
theorem Small.wt {x : St} (h : Small x) : PV.wb x.pv ≤ 14000 := by
  cases x with
  | mem t hs =>
    obtain ⟨t0, t1, l, b⟩ := h
    have := wbs_map (xs := hs) fun x _ => hpv_wt x
    simp only [St.pv, PV.wb, PV.wbs, msz]
    omega
  | note hs =>
    obtain ⟨l, b⟩ := h
    have := wbs_map (xs := hs) fun x _ => npv_wt x
    simp only [St.pv, PV.wb, PV.wbs, nsz]
    omega
theorem pv_dep (x : St) : x.pv.dep ≤ 3 := by
  cases x with
  | mem t hs => have := deps_hpv hs; simp only [St.pv, PV.dep, PV.deps]; change max 0 (max 0 (max (PV.deps (hs.map hpv) + 1) 0)) + 1 ≤ 3; omega
  | note hs => have := deps_npv hs; simp only [St.pv, PV.dep, PV.deps]; change max 0 (max (PV.deps (hs.map npv) + 1) 0) + 1 ≤ 3; omega
theorem InR.small {s : Sm} (g : s.Ok) {n : Int} (h : InR s n) : -1000 < n ∧ n < 1000 := by
  have z := g.size
  cases s with
  | sum ws c => rw [sumR] at h; omega
  | rest ws r m => rw [restR] at h; have : (Sm.rest ws r m).size = m - 1 := rfl; omega
theorem InR2.small {s : Sm} (g : s.Ok) {n : Int} (h : InR2 s n) : -1000 < n ∧ n < 1000 := by
  have z := g.size
  cases s with
  | sum ws c => rw [sumR2] at h; omega
  | rest ws r m => rw [restR2] at h; have : (Sm.rest ws r m).size = m - 1 := rfl; omega
theorem F2.right {α β : Type} {R : α → β → Prop} {xs : List α} {ys : List β} (h : F2 R xs ys) {y : β} (hy : y ∈ ys) : ∃ x ∈ xs, R x y := by
  obtain ⟨i, e⟩ := List.mem_iff_getElem?.mp hy
  have hi := (List.getElem?_eq_some_iff.mp e).1
  have hi' : i < xs.length := by rw [h.len]; exact hi
  exact ⟨xs[i], List.getElem_mem hi', h.at_ i _ _ (List.getElem?_eq_getElem hi') e⟩
theorem StOk.small {ss : List Sm} {m : Nat} (hss : ∀ s ∈ ss, s.Ok) (h64 : ss.length < 64) (hm : m ≤ 6) {x : St} (h : StOk ss m x) : Small x := by
  cases x with
  | mem t hs =>
    obtain ⟨t0, t1, f⟩ := h
    refine ⟨t0, by omega, by have := f.len; omega, fun h hh => ?_⟩
    obtain ⟨s, hs, p⟩ := f.right hh
    exact p.1.small (hss s hs)
  | note hs =>
    obtain ⟨f, b⟩ := h
    refine ⟨by have := f.len; omega, fun h hh => ?_⟩
    obtain ⟨s, hs, p⟩ := f.right hh
    exact InR2.small (hss s hs) p
def SmallO (o : Option St) : Prop := ∀ x, o = some x → Small x
theorem SmallO.sm {o : Option St} (h : SmallO o) : PV.sb (oSt o) = true ∧ PV.wb (oSt o) ≤ 14000 ∧ (oSt o).dep ≤ 3 := by
  cases o with
  | none => exact ⟨rfl, by simp [oSt, PV.wb], by simp [oSt, PV.dep]⟩
  | some x => exact ⟨(h x rfl).sm, (h x rfl).wt, pv_dep x⟩
theorem rep_two {o u : Option St} (h1 : SmallO o) (h2 : SmallO u) : repOk (.tup [oSt o, oSt u]) := by
  obtain ⟨a1, a2, a3⟩ := h1.sm
  obtain ⟨b1, b2, b3⟩ := h2.sm
  refine repB ?_ ?_ ?_
  · simp [PV.sb, PV.sbs, a1, b1]
  · simp only [PV.dep, PV.deps]; change max (oSt o).dep (max (oSt u).dep 0) + 1 ≤ 60; omega
  · simp only [PV.wb, PV.wbs]; omega
theorem rep_pair {x y : St} (h1 : Small x) (h2 : Small y) : repOk (.tup [x.pv, y.pv]) := rep_two (o := some x) (u := some y) (fun z e => by cases e; exact h1) (fun z e => by cases e; exact h2)
theorem rep_meet {ss : List Sm} {m : Nat} (hss : ∀ s ∈ ss, s.Ok) (h64 : ss.length < 64) (hm : m ≤ 6) {x y : St} (hx : StOk ss m x) (hy : StOk ss m y) : repOk (.tup [oSt (meet ss x y).1, oSt (meet ss x y).2]) := by
  have h := meet_ok hss hx hy
  exact rep_two (fun z e => (h.1 z e).small hss h64 hm) (fun z e => (h.2 z e).small hss h64 hm)
theorem rep_bl (b : Bool) : repOk (.bl b) := repB rfl (by simp [PV.dep]) (by simp [PV.wb])
end LA
/-! the program's own defs: shifts of rows -/
namespace PG
open PySem SG SY
variable {T : List (Str × FDef)}
theorem compL_filter {α : Type} {f g : α → PV} {p : α → Bool} {step : PV → Sto → (Option PV → Sto → Prop) → Prop} {Q : List PV → Sto → Prop} {M : Sto} : ∀ (xs : List α) (acc : List PV), (∀ x ∈ xs, ∀ k, step (f x) M k ↔ if p x = true then k (some (g x)) M else k none M) →
    (compL step (fun _ => True) (xs.map f) acc M Q ↔ Q (acc ++ (xs.filter p).map g) M)
  | [], acc, _ => by simp [compL]
  | x :: r, acc, h => by
    have ih := fun acc => compL_filter (Q := Q) r acc fun y hy => h y (List.mem_cons_of_mem _ hy)
    rw [List.map_cons]
    unfold compL
    rw [h x List.mem_cons_self]
    cases hp : p x with
    | true => simp [ih, hp]
    | false => simp [ih, hp]
def prPV (p : St × St) : PV := .tup [p.1.pv, p.2.pv]
def partPV (p : Int × List (St × St)) : PV := .tup [.int p.1, .tup (p.2.map prPV)]
abbrev Row := List (Int × List (St × St))
def rowPV (r : Row) : PV := .tup (r.map partPV)
def shiftsOf (ss : List Sm) (p : Int × List (St × St)) : Int := p.1 * ((p.2.filter fun q => isShift ss q.1 q.2).length : Int)
def shiftsN (ss : List Sm) (r : Row) : Int := (r.map (shiftsOf ss)).sum
structure RowFew (r : Row) : Prop where
  st : ∀ p ∈ r, ∀ q ∈ p.2, St.few q.1 ∧ St.few q.2
  ln : ∀ p ∈ r, p.2.length < 1000
theorem w_shifts [H_shifts T] (k : Nat) {a : Sy} (g : Good a) {r : Row} (hr : RowFew r) (M : Sto) (Q : Q1) : callN T (k + 17) "shifts" [a.pv, rowPV r] M Q ↔ Q (.int (shiftsN a.ss r)) M := by
  rw [call_shifts]
  simp_arith [b_shifts, rowPV]
  refine (forL_st (f := partPV) (M := M) (fun (b : Int × Option PV × Option PV) => [some a.pv, some (.tup (r.map partPV)), some (.int b.1), b.2.1, b.2.2, none, none]) (fun b p => (b.1 + shiftsOf a.ss p, some (.int p.1), some (.tup (p.2.map prPV)))) r (0, none, none) fun p hp b c => ?_).trans ?_
  · have lk : p.2.length ≤ sizeLine := Nat.le_trans (Nat.le_of_lt (hr.ln p hp)) (by decide)
    have hm : ((p.2.filter fun q => isShift a.ss q.1 q.2).length : Int).natAbs.log2 < 64 := by
      have h1 := List.length_filter_le (fun q : St × St => isShift a.ss q.1 q.2) p.2
      have h2 := hr.ln p hp
      refine LA.log_lt ?_ (by decide)
      omega
    simp_arith [b_shifts_L2, partPV, List.length_map, lk]
    rw [compL_filter (f := prPV) (p := fun q => isShift a.ss q.1 q.2) (g := fun _ => .int 1) p.2 []]
    · simp_arith [List.length_map, hm, or_true, true_or]
      exact Iff.rfl
    · intro q hq c
      have hf := hr.st p hp q hq
      simp_arith [prPV, w_is_shift k g hf.1 hf.2]
  · have e : ∀ (xs : Row) (b : Int × Option PV × Option PV), (xs.foldl (fun b p => (b.1 + shiftsOf a.ss p, some (PV.int p.1), some (PV.tup (p.2.map prPV)))) b).1 = b.1 + (xs.map (shiftsOf a.ss)).sum := by
      intro xs
      induction xs with
      | nil => intro b; simp
      | cons x t ih => intro b; rw [List.foldl_cons, ih]; simp; omega
    simp_arith [e, shiftsN, Int.zero_add]
end PG
/-! the laws' own defs: numbers and leadings alone -/
namespace LA
open PySem SG SY
variable {T : List (Str × FDef)}
/-- numbers and leadings, None of None -/
def bareV : Option St → PV
  | none => .non
  | some (.mem _ hs) => .lst ((hs.map fun h => ((h.1, h.2.1) : NHold)).map npv)
  | some (.note hs) => .lst (hs.map npv)
theorem w_bare [H__law_bare T] (k : Nat) (o : Option St) (ho : ∀ x, o = some x → PG.St.few x) (M : Sto) (Q : Q1) : callN T (k + 1) "_law_bare" [oSt o] M Q ↔ Q (bareV o) M := by
  rw [call__law_bare]
  cases o with
  | none => simp_arith [b__law_bare, oSt, bareV]
  | some x =>
    have hf := ho x rfl
    cases x with
    | mem t hs =>
      simp_arith [b__law_bare, oSt, St.pv, at3m, List.length_map, PG.sl6 (Nat.le_of_lt hf)]
      rw [compL_map (f := hpv) (g := fun h => npv (h.1, h.2.1)) hs []]
      · simp_arith [bareV, List.map_map]
        exact Iff.rfl
      · intro x _ c
        simp_arith [npv, hpv, PG.cut2]
    | note hs =>
      simp_arith [b__law_bare, oSt, St.pv, at2m, List.length_map, PG.sl6 (Nat.le_of_lt hf)]
      rw [compL_map (f := npv) (g := npv) hs []]
      · simp_arith [bareV]
      · intro x _ c
        simp_arith [npv, PG.cut2]
theorem bareV_pl (o : Option St) : (bareV o).pl = true ∧ (bareV o).dep ≤ 2 := by
  cases o with
  | none => exact ⟨rfl, by simp [bareV, PV.dep]⟩
  | some x =>
    cases x with
    | mem t hs => exact ⟨by simp only [bareV, PV.pl]; exact pls_npv _, by simp only [bareV, PV.dep]; have := deps_npv (hs.map fun h => ((h.1, h.2.1) : NHold)); omega⟩
    | note hs => exact ⟨by simp only [bareV, PV.pl]; exact pls_npv _, by simp only [bareV, PV.dep]; have := deps_npv hs; omega⟩
/-- who is there no more was a note -/
theorem meet_none {ss : List Sm} {x y : St} : ((meet ss x y).1 = none → ∃ hs, x = .note hs) ∧ ((meet ss x y).2 = none → ∃ hs, y = .note hs) := by
  cases x <;> cases y <;> simp [meet]
theorem zeros_bare (ss : List Sm) {hs : List NHold} (hb : bare hs = false) : (ss.map fun _ => ((false, 0) : NHold)) ≠ hs := fun e => by
  have : bare hs = true := by
    rw [← e]
    unfold bare
    rw [List.all_eq_true]
    intro h hh
    obtain ⟨_, _, rfl⟩ := List.mem_map.mp hh
    rfl
  rw [this] at hb
  cases hb
theorem eqb_bareV {ss : List Sm} {m : Nat} {o : Option St} {x : St} (hx : StOk ss m x) (hn : o = none → ∃ hs, x = .note hs) : PV.eqb (bareV o) (bareV (some x)) = decide (bareP ss o = bareP ss (some x)) := by
  have key : ∀ a b : List NHold, PV.eqb (.lst (a.map npv)) (.lst (b.map npv)) = decide (a = b) := fun a b => by rw [PV.eqb]; exact eqbs_map eqb_npv a b
  cases o with
  | none =>
    obtain ⟨hs, rfl⟩ := hn rfl
    have hz := zeros_bare ss hx.2
    simp [bareV, PV.eqb, bareP, hz]
  | some z => cases z <;> cases x <;> exact key _ _
/-- [bare, bare] != [bare, bare] -/
theorem cmp_bare {ss : List Sm} {m : Nat} {x y : St} (hx : StOk ss m x) (hy : StOk ss m y) (M : Sto) (Q : Q1) :
    cmpS .ne (.lst [bareV (meet ss x y).1, bareV (meet ss x y).2]) (.lst [bareV (some x), bareV (some y)]) M Q ↔ Q (.bl (isShift ss x y)) M := by
  have p1 := bareV_pl (meet ss x y).1
  have p2 := bareV_pl (meet ss x y).2
  have p3 := bareV_pl (some x)
  have p4 := bareV_pl (some y)
  rw [cmp_ne_lst (by simp [PV.pls, p1.1, p2.1]) (by simp [PV.pls, p3.1, p4.1]) (.inl (by simp only [PV.deps]; change max _ (max _ 0) < 64; omega))]
  have e : (!PV.eqbs [bareV (meet ss x y).1, bareV (meet ss x y).2] [bareV (some x), bareV (some y)]) = isShift ss x y := by
    rw [PV.eqbs, PV.eqbs, PV.eqbs, eqb_bareV hx meet_none.1, eqb_bareV hy meet_none.2]
    unfold isShift
    by_cases h1 : bareP ss (meet ss x y).1 = bareP ss (some x) <;> simp [h1]
  rw [e]
end LA
/-! states as keys, crowds: pairs of a state and how many -/
namespace SY
open PySem SG
open PySem.W (alike alikeAll dataLt)
theorem al_map {α : Type} {f : α → PV} (h : ∀ a b, alike (f a).dat (f b).dat = true) : ∀ xs ys : List α, alikeAll (PV.dats (xs.map f)) (PV.dats (ys.map f)) = true
  | [], ys => by simp [PV.dats, alikeAll]
  | x :: xs, [] => by simp [PV.dats, alikeAll]
  | x :: xs, y :: ys => by
    rw [List.map_cons, List.map_cons]
    simp only [PV.dats, alikeAll]
    rw [h x y, al_map h xs ys]
    rfl
theorem map_inj {α : Type} {f : α → PV} (h : ∀ a b, f a = f b → a = b) : ∀ {xs ys : List α}, xs.map f = ys.map f → xs = ys
  | [], [], _ => rfl
  | [], _ :: _, e => by simp at e
  | _ :: _, [], e => by simp at e
  | x :: xs, y :: ys, e => by
    rw [List.map_cons, List.map_cons] at e
    injection e with e1 e2
    rw [h _ _ e1, map_inj h e2]
theorem hpv_inj (a b : Hold) (e : hpv a = hpv b) : a = b := by
  obtain ⟨a1, a2, a3⟩ := a
  obtain ⟨b1, b2, b3⟩ := b
  simp only [hpv, PV.tup.injEq, List.cons.injEq, PV.bl.injEq, PV.int.injEq, and_true] at e
  rw [e.1, e.2.1, e.2.2]
theorem npv_inj (a b : NHold) (e : npv a = npv b) : a = b := by
  obtain ⟨a1, a2⟩ := a
  obtain ⟨b1, b2⟩ := b
  simp only [npv, PV.tup.injEq, List.cons.injEq, PV.bl.injEq, PV.int.injEq, and_true] at e
  rw [e.1, e.2]
theorem hpv_al (a b : Hold) : alike (hpv a).dat (hpv b).dat = true := by simp [hpv, PV.dat, PV.dats, alike, alikeAll]
theorem npv_al (a b : NHold) : alike (npv a).dat (npv b).dat = true := by simp [npv, PV.dat, PV.dats, alike, alikeAll]
theorem mok : PyData.strOk (Str.ofString "member") = true := by decide +kernel
theorem nok' : PyData.strOk (Str.ofString "note") = true := by decide +kernel
theorem mne : Str.ofString "member" ≠ Str.ofString "note" := by decide +kernel
theorem mne' : Str.ofString "note" ≠ Str.ofString "member" := by decide +kernel
namespace St
theorem pl (x : St) : x.pv.pl = true := by
  cases x <;> simp [pv, PV.pl, PV.pls, mok, nok', pls_hpv, pls_npv]
theorem inj (x y : St) (e : x.pv = y.pv) : x = y := by
  cases x with
  | mem s hs =>
    cases y with
    | mem t us =>
      simp only [pv, PV.tup.injEq, List.cons.injEq, PV.int.injEq, and_true, true_and] at e
      rw [e.1, map_inj hpv_inj e.2]
    | note us => simp [pv] at e
  | note hs =>
    cases y with
    | mem t us => simp [pv] at e
    | note us =>
      simp only [pv, PV.tup.injEq, List.cons.injEq, and_true, true_and] at e
      rw [map_inj npv_inj e]
theorem cmp (x y : St) : fcmp x.pv.dat y.pv.dat := by
  cases x with
  | mem s hs =>
    cases y with
    | mem t us => exact al_fcmp (by simp [pv, PV.dat, PV.dats, alike, alikeAll, al_map hpv_al])
    | note us =>
      simp only [pv, PV.dat, PV.dats, fcmp, fcmps]
      exact ⟨by simp [alike], fun e => by injection e with e; exact absurd e mne⟩
  | note hs =>
    cases y with
    | mem t us =>
      simp only [pv, PV.dat, PV.dats, fcmp, fcmps]
      exact ⟨by simp [alike], fun e => by injection e with e; exact absurd e mne'⟩
    | note us => exact al_fcmp (by simp [pv, PV.dat, PV.dats, alike, alikeAll, al_map npv_al])
theorem emb : Emb St.pv := ⟨inj, pl, cmp⟩
theorem dep3 (x : St) : x.pv.dep ≤ 3 := by
  cases x with
  | mem s hs =>
    have := deps_hpv hs
    simp [pv, PV.dep, PV.deps]; omega
  | note hs =>
    have := deps_npv hs
    simp [pv, PV.dep, PV.deps]; omega
end St
theorem keys_some {α : Type} {f : α → PV} {n : Nat} (h : ∀ a, ∃ k, (f a).key = some k ∧ k.depth ≤ n) : ∀ xs : List α, ∃ ks, PV.keys (xs.map f) = some ks ∧ NestedKey.depthAll ks ≤ n
  | [] => ⟨[], by simp [PV.keys], by simp [NestedKey.depthAll]⟩
  | x :: xs => by
    obtain ⟨k, e1, e2⟩ := h x
    obtain ⟨ks, e3, e4⟩ := keys_some h xs
    refine ⟨k :: ks, by rw [List.map_cons]; simp [PV.keys, e1, e3], ?_⟩
    simp only [NestedKey.depthAll]
    exact Nat.max_le.mpr ⟨e2, e4⟩
theorem hpv_key (a : Hold) : ∃ k, (hpv a).key = some k ∧ k.depth ≤ 1 := by
  obtain ⟨a1, a2, a3⟩ := a
  exact ⟨_, by simp only [hpv, PV.key, PV.keys]; rfl, by simp [NestedKey.depth, NestedKey.depthAll]⟩
theorem npv_key (a : NHold) : ∃ k, (npv a).key = some k ∧ k.depth ≤ 1 := by
  obtain ⟨a1, a2⟩ := a
  exact ⟨_, by simp only [npv, PV.key, PV.keys]; rfl, by simp [NestedKey.depth, NestedKey.depthAll]⟩
theorem St.key (x : St) : ∃ k, x.pv.key = some k ∧ k.depth ≤ 8 := by
  cases x with
  | mem s hs =>
    obtain ⟨ks, e1, e2⟩ := keys_some hpv_key hs
    refine ⟨_, by simp only [St.pv, PV.key, PV.keys, e1]; rfl, ?_⟩
    simp only [NestedKey.depth, NestedKey.depthAll]
    omega
  | note hs =>
    obtain ⟨ks, e1, e2⟩ := keys_some npv_key hs
    refine ⟨_, by simp only [St.pv, PV.key, PV.keys, e1]; rfl, ?_⟩
    simp only [NestedKey.depth, NestedKey.depthAll]
    omega
theorem St.tup (x : St) : ∃ y r, x.pv = .tup (y :: r) := by cases x <;> exact ⟨_, _, rfl⟩
theorem St.ok (x : St) : keyOk x.pv := ⟨by obtain ⟨y, r, e⟩ := x.tup; exact ⟨_, e⟩, x.pl, x.key⟩
theorem St.key_eq (x y : St) : (x.pv.key = y.pv.key) ↔ x = y := by
  constructor
  · intro e
    obtain ⟨k, e1, _⟩ := x.key
    exact x.inj y (key_inj e1 (e ▸ e1) (x.cmp y))
  · rintro rfl; rfl
/-! ### crowds -/
abbrev Cr := List (St × Int)
def kvp (p : St × Int) : PV × PV := (p.1.pv, .int p.2)
def rwp (p : St × Int) : PV := .tup [p.1.pv, .int p.2]
def Cr.get (c : Cr) (x : St) : Option Int := (c.find? fun p => decide (p.1 = x)).map (·.2)
def Cr.put (c : Cr) (x : St) (n : Int) : Cr := if (c.get x).isSome = true then c.map fun p => if p.1 = x then (p.1, n) else p else c ++ [(x, n)]
theorem pairV_kvp (c : Cr) : (c.map kvp).map pairV = c.map rwp := by rw [List.map_map]; rfl
theorem dlook_cr (c : Cr) (x : St) : dlook (c.map kvp) x.pv = (c.get x).map .int := by
  unfold dlook Cr.get
  rw [List.find?_map, Option.map_map, Option.map_map]
  have : ((fun p : PV × PV => decide (p.1.key = x.pv.key)) ∘ kvp) = fun p : St × Int => decide (p.1 = x) := by
    funext p
    simp only [Function.comp, kvp]
    exact decide_eq_decide.mpr (St.key_eq _ _)
  rw [this]
  rfl
theorem dstore_cr (c : Cr) (x : St) (n : Int) : dstore (c.map kvp) x.pv (.int n) = (c.put x n).map kvp := by
  unfold dstore Cr.put
  rw [dlook_cr, Option.isSome_map]
  split
  · rw [List.map_map, List.map_map]
    refine List.map_congr_left fun p _ => ?_
    simp only [Function.comp, kvp, St.key_eq]
    split <;> rfl
  · simp [kvp]
theorem rwp_inj (a b : St × Int) (e : rwp a = rwp b) : a = b := by
  obtain ⟨a1, a2⟩ := a
  obtain ⟨b1, b2⟩ := b
  simp only [rwp, PV.tup.injEq, List.cons.injEq, PV.int.injEq, and_true] at e
  rw [St.inj _ _ e.1, e.2]
theorem rwp_pl (a : St × Int) : (rwp a).pl = true := by simp [rwp, PV.pl, PV.pls, St.pl]
theorem rwp_cmp (a b : St × Int) : fcmp (rwp a).dat (rwp b).dat := by
  simp only [rwp, PV.dat, PV.dats, fcmp, fcmps]
  exact ⟨St.cmp _ _, fun _ => ⟨by simp [alike], fun _ => trivial⟩⟩
theorem rwp_emb : Emb rwp := ⟨rwp_inj, rwp_pl, rwp_cmp⟩
theorem rwp_dep (a : St × Int) : (rwp a).dep ≤ 4 := by
  have := a.1.dep3
  simp [rwp, PV.dep, PV.deps]
  omega
/-- the keys are unlike -/
def Cr.Nd (c : Cr) : Prop := (c.map (·.1)).Nodup
theorem Cr.Nd.nodup {c : Cr} (h : c.Nd) : c.Nodup := (List.pairwise_map.mp h).imp fun {a b} n e => n (by rw [e])
theorem Cr.get_none {c : Cr} {x : St} (h : (c.get x).isSome ≠ true) : x ∉ c.map (·.1) := fun m => by
  obtain ⟨p, hp, rfl⟩ := List.mem_map.mp m
  refine h ?_
  unfold Cr.get
  rw [Option.isSome_map, List.find?_isSome]
  exact ⟨p, hp, by simp⟩
theorem Cr.put_nd {c : Cr} (h : c.Nd) (x : St) (n : Int) : (c.put x n).Nd := by
  unfold Cr.put
  split
  · unfold Cr.Nd
    rw [List.map_map]
    have : ((fun p : St × Int => p.1) ∘ fun p => if p.1 = x then (p.1, n) else p) = fun p : St × Int => p.1 := by
      funext p
      simp only [Function.comp]
      split <;> rfl
    rw [this]
    exact h
  · rename_i g
    unfold Cr.Nd
    rw [List.map_append]
    refine List.nodup_append.mpr ⟨h, by simp, fun a ha b hb e => ?_⟩
    rw [List.map_cons, List.map_nil, List.mem_singleton] at hb
    subst hb; subst e
    exact Cr.get_none g ha
theorem Cr.put_mem {c : Cr} {x : St} {n : Int} {p : St × Int} (h : p ∈ c.put x n) : p ∈ c ∨ p = (x, n) := by
  unfold Cr.put at h
  split at h
  · obtain ⟨q, hq, rfl⟩ := List.mem_map.mp h
    split
    · rename_i e; exact .inr (by rw [e])
    · exact .inl hq
  · rcases List.mem_append.mp h with h | h
    · exact .inl h
    · exact .inr (List.mem_singleton.mp h)
theorem Cr.put_len (c : Cr) (x : St) (n : Int) : (c.put x n).length ≤ c.length + 1 := by
  unfold Cr.put
  split <;> simp
theorem srt_mem {α : Type} {f : α → PV} (h : Emb f) (xs : List α) (a : α) : a ∈ srt f xs ↔ a ∈ xs := (srt_ok h xs).mem a
/-- the dict at a holds these -/
def Dk (M : Sto) (a : PySem.Addr) (c : Cr) : Prop := ∃ t, M a = some (.dct (c.map kvp) t)
theorem Dk.dO {M : Sto} {a : PySem.Addr} {c : Cr} (h : Dk M a c) : SG.dO M (.ref a) = some (c.map kvp) := by
  obtain ⟨t, h⟩ := h
  simp [SG.dO, h]
theorem Dk.put {M : Sto} {a b : PySem.Addr} {c : Cr} {o : SO} (h : Dk M a c) (n : a ≠ b) : Dk (M.put b o) a c := by
  obtain ⟨t, h⟩ := h
  exact ⟨t, by rw [Sto.put_ne n]; exact h⟩
theorem Dk.same {M : Sto} {a : PySem.Addr} {c : Cr} {t : Array DictEntry × Nat} : Dk (M.put a (.dct (c.map kvp) t)) a c := ⟨t, Sto.put_same⟩
theorem Dk.some {M : Sto} {a : PySem.Addr} {c : Cr} (h : Dk M a c) : ∃ o, M a = some o := by
  obtain ⟨t, h⟩ := h
  exact ⟨_, h⟩
/-- sorted(d.items()) -/
theorem ditems_cr {c : Cr} (h : c.Nd) (hl : c.length ≤ sizeLine) (mt : Bool) {M : Sto} {a : PySem.Addr} (ha : Dk M a c) (Q : Q1) :
    (∃ kvs, dO M (.ref a) = some kvs ∧ kvs.length ≤ sizeLine ∧ (∀ v ∈ kvs.map pairV, v.pl = true ∧ v.dep ≤ 40) ∧ (∀ v ∈ kvs.map pairV, ∀ u ∈ kvs.map pairV, fcmp v.dat u.dat) ∧ newL mt (psort (kvs.map pairV)) M Q) ↔ newL mt ((srt rwp c).map rwp) M Q := by
  have e := ha.dO
  constructor
  · rintro ⟨kvs, e', _, _, _, q⟩
    rw [e] at e'
    cases e'
    rw [pairV_kvp, psort_of rwp_emb h.nodup] at q
    exact q
  · intro q
    refine ⟨_, e, by rw [List.length_map]; exact hl, fun v hv => ?_, fun v hv u hu => ?_, ?_⟩
    · rw [pairV_kvp] at hv
      obtain ⟨p, _, rfl⟩ := List.mem_map.mp hv
      exact ⟨rwp_pl p, by have := rwp_dep p; omega⟩
    · rw [pairV_kvp] at hv hu
      obtain ⟨p, _, rfl⟩ := List.mem_map.mp hv
      obtain ⟨q, _, rfl⟩ := List.mem_map.mp hu
      exact rwp_cmp p q
    · rw [pairV_kvp, psort_of rwp_emb h.nodup]
      exact q
theorem ditems_pick {c : Cr} (h : c.Nd) (hl : c.length ≤ sizeLine) {M : Sto} {a : PySem.Addr} (ha : Dk M a c) :
    ∃ kvs, dO M (.ref a) = some kvs ∧ kvs.length ≤ sizeLine ∧ (∀ v ∈ kvs.map pairV, v.pl = true ∧ v.dep ≤ 40) ∧ (∀ v ∈ kvs.map pairV, ∀ u ∈ kvs.map pairV, fcmp v.dat u.dat) ∧ psort (kvs.map pairV) = (srt rwp c).map rwp := by
  obtain ⟨kvs, h1, h2, h3, h4, h5⟩ := (ditems_cr h hl false ha (fun v _ => v = .lst ((srt rwp c).map rwp))).mpr (by rw [new_f])
  rw [new_f] at h5
  exact ⟨kvs, h1, h2, h3, h4, PV.lst.inj h5⟩
/-- d[x] = n -/
theorem dset_cr {c : Cr} {x : St} {n : Int} {M : Sto} {a : PySem.Addr} (ha : Dk M a c) (hl : c.length < sizeLine) (Q : Sto → Prop) : dsetS (.ref a) x.pv (.int n) M Q ↔ ∀ t, Q (M.put a (.dct ((c.put x n).map kvp) t)) := by
  obtain ⟨t, ha⟩ := ha
  simp only [dsetS, ha]
  constructor
  · rintro ⟨_, _, q⟩
    rw [dstore_cr] at q
    exact q
  · intro q
    exact ⟨x.ok, by rw [List.length_map]; exact hl, by rw [dstore_cr]; exact q⟩
/-- d[x], d.get(x, v) -/
theorem dlk_cr {c : Cr} {x : St} {M : Sto} {a : PySem.Addr} (ha : Dk M a c) (P : Option PV → Prop) : dlk M (.ref a) x.pv P ↔ P ((c.get x).map PV.int) := by
  obtain ⟨t, ha⟩ := ha
  simp only [dlk, ha, dlook_cr]
  exact ⟨fun h => h.2, fun h => ⟨x.ok, h⟩⟩
theorem Dk.isD {M : Sto} {a : PySem.Addr} {c : Cr} (h : Dk M a c) : SG.isD M (.ref a) = true := by
  obtain ⟨t, h⟩ := h
  simp [SG.isD, h]
theorem Dk.ents {M : Sto} {a : PySem.Addr} {c : Cr} (h : Dk M a c) : entsS M a = Option.some (c.map kvp) := by
  obtain ⟨t, h⟩ := h
  simp [entsS, h]
theorem enm_get {xs : List PV} : ∀ {n i : Nat} {v : PV}, (enmL n xs)[i]? = some v → ∃ x, xs[i]? = some x ∧ v = .tup [.int ((n + i : Nat) : Int), x] := by
  induction xs with
  | nil => intro n i v h; simp [enmL] at h
  | cons x r ih =>
    intro n i v h
    cases i with
    | zero => simp only [enmL, List.getElem?_cons_zero, Option.some.injEq] at h; exact ⟨x, by simp, by rw [← h]; rfl⟩
    | succ i =>
      simp only [enmL, List.getElem?_cons_succ] at h
      obtain ⟨y, h1, h2⟩ := ih h
      exact ⟨y, by simpa using h1, by rw [h2, show n + 1 + i = n + (i + 1) by omega]⟩
theorem enm_len (xs : List PV) : ∀ n, (enmL n xs).length = xs.length := by
  induction xs with
  | nil => intro n; rfl
  | cons x r ih => intro n; simp [enmL, ih]
end SY
namespace PQ
open PySem SG
def b_total : List S := [(.ret (.blt .sum [(.comp false (.tp [(.nm 2), (.nm 3)]) (.zip [(.ix (.var 0) (.cst (.int 1))), (.var 1)]) none (.bin .mul (.var 2) (.var 3)))]))]
class H_total (T : List (Str × FDef)) : Prop where
  lk_total : HasD T "total" 2 4 b_total
theorem call_total {T : List (Str × FDef)} [h : H_total T] (k : Nat) (vs : List PV) (M : Sto) (Q : Q1) : callN T (k + 1) "total" vs M Q ↔ (vs.length = 2 ∧ wpSs (callN T k) b_total (startN 4 vs) M (fnEnds Q)) := callN_has h.lk_total
def b_is_true_of : List S := [(.asg (.nm 2) (.call "total" [(.var 0), (.var 1)])),
  (.ite (.call "is_sum" [(.var 0)]) [(.ret (.call "says" [(.var 0), (.var 2)]))] []),
  (.ret (.call "says" [(.var 0), (.call "cut_to" [(.var 0), (.var 2)])]))]
class H_is_true_of (T : List (Str × FDef)) : Prop extends PG.H_cut_to T, PG.H_is_sum T, PG.H_says T, PQ.H_total T where
  lk_is_true_of : HasD T "is_true_of" 2 3 b_is_true_of
theorem call_is_true_of {T : List (Str × FDef)} [h : H_is_true_of T] (k : Nat) (vs : List PV) (M : Sto) (Q : Q1) : callN T (k + 1) "is_true_of" vs M Q ↔ (vs.length = 2 ∧ wpSs (callN T k) b_is_true_of (startN 3 vs) M (fnEnds Q)) := callN_has h.lk_is_true_of
def b_told_by : List S := [(.ite (.call "is_simple" [(.var 0)]) [(.ret (.dix (.var 1) (.var 0)))] []),
  (.ite (.cmp .eq (.ix (.var 0) (.cst (.int 0))) (.cst (.str "not"))) [(.ret (.not (.call "told_by" [(.ix (.var 0) (.cst (.int 1))), (.var 1)])))] []),
  (.asg (.nm 2) (.call "told_by" [(.ix (.var 0) (.cst (.int 1))), (.var 1)])),
  (.asg (.nm 3) (.call "told_by" [(.ix (.var 0) (.cst (.int 2))), (.var 1)])),
  (.ite (.cmp .eq (.ix (.var 0) (.cst (.int 0))) (.cst (.str "and"))) [(.ret (.and (.var 2) (.var 3)))] []),
  (.ret (.or (.var 2) (.var 3)))]
class H_told_by (T : List (Str × FDef)) : Prop extends PG.H_is_simple T where
  lk_told_by : HasD T "told_by" 2 4 b_told_by
theorem call_told_by {T : List (Str × FDef)} [h : H_told_by T] (k : Nat) (vs : List PV) (M : Sto) (Q : Q1) : callN T (k + 1) "told_by" vs M Q ↔ (vs.length = 2 ∧ wpSs (callN T k) b_told_by (startN 4 vs) M (fnEnds Q)) := callN_has h.lk_told_by
def b_by_words : List S := [(.ret (.call "told_by" [(.var 0), (.dcomp (.tp [(.nm 2), (.nm 3)]) (.zip [(.call "simples" [(.var 0)]), (.var 1)]) none (.var 2) (.var 3))]))]
class H_by_words (T : List (Str × FDef)) : Prop extends PG.H_simples T, PQ.H_told_by T where
  lk_by_words : HasD T "by_words" 2 4 b_by_words
theorem call_by_words {T : List (Str × FDef)} [h : H_by_words T] (k : Nat) (vs : List PV) (M : Sto) (Q : Q1) : callN T (k + 1) "by_words" vs M Q ↔ (vs.length = 2 ∧ wpSs (callN T k) b_by_words (startN 4 vs) M (fnEnds Q)) := callN_has h.lk_by_words
def b_is_true : List S := [(.ret (.call "by_words" [(.var 0), (.blt .tuple [(.comp false (.nm 2) (.val (.call "simples" [(.var 0)])) none (.call "is_true_of" [(.var 2), (.var 1)]))])]))]
class H_is_true (T : List (Str × FDef)) : Prop extends PQ.H_by_words T, PQ.H_is_true_of T, PG.H_simples T where
  lk_is_true : HasD T "is_true" 2 3 b_is_true
theorem call_is_true {T : List (Str × FDef)} [h : H_is_true T] (k : Nat) (vs : List PV) (M : Sto) (Q : Q1) : callN T (k + 1) "is_true" vs M Q ↔ (vs.length = 2 ∧ wpSs (callN T k) b_is_true (startN 3 vs) M (fnEnds Q)) := callN_has h.lk_is_true
def b_sorts_of : List S := [(.ret (.blt .len [(.ix (.ix (.call "simples" [(.var 0)]) (.cst (.int 0))) (.cst (.int 1)))]))]
class H_sorts_of (T : List (Str × FDef)) : Prop extends PG.H_simples T where
  lk_sorts_of : HasD T "sorts_of" 1 1 b_sorts_of
theorem call_sorts_of {T : List (Str × FDef)} [h : H_sorts_of T] (k : Nat) (vs : List PV) (M : Sto) (Q : Q1) : callN T (k + 1) "sorts_of" vs M Q ↔ (vs.length = 1 ∧ wpSs (callN T k) b_sorts_of (startN 1 vs) M (fnEnds Q)) := callN_has h.lk_sorts_of
def b_is_number : List S := [(.ite (.call "is_sum" [(.var 0)]) [(.ret (.cmp .le (.blt .abs [(.var 1)]) (.bin .mul (.var 2) (.call "size_of" [(.var 0)]))))] []),
  (.ret (.chain .le .le (.cst (.int 0)) (.var 1) (.call "size_of" [(.var 0)])))]
class H_is_number (T : List (Str × FDef)) : Prop extends PG.H_is_sum T, PG.H_size_of T where
  lk_is_number : HasD T "is_number" 3 3 b_is_number
theorem call_is_number {T : List (Str × FDef)} [h : H_is_number T] (k : Nat) (vs : List PV) (M : Sto) (Q : Q1) : callN T (k + 1) "is_number" vs M Q ↔ (vs.length = 3 ∧ wpSs (callN T k) b_is_number (startN 3 vs) M (fnEnds Q)) := callN_has h.lk_is_number
def b_is_hold : List S := [(.ite (.or (.not (.isi (.var 1) .tuple)) (.cmp .ne (.blt .len [(.var 1)]) (.cst (.int 3)))) [(.ret (.cst (.bl false)))] []),
  (.asg (.tp [(.nm 2), (.nm 3), (.nm 4)]) (.var 1)),
  (.ite (.or (.not (.isi (.var 2) .bool)) (.or (.not (.isi (.var 4) .bool)) (.not (.call "is_whole" [(.var 3)])))) [(.ret (.cst (.bl false)))] []),
  (.ret (.and (.call "is_number" [(.var 0), (.var 3), (.cst (.int 1))]) (.or (.not (.var 2)) (.cmp .eq (.var 4) (.call "says" [(.var 0), (.var 3)])))))]
class H_is_hold (T : List (Str × FDef)) : Prop extends PQ.H_is_number T, PG.H_is_whole T, PG.H_says T where
  lk_is_hold : HasD T "is_hold" 2 5 b_is_hold
theorem call_is_hold {T : List (Str × FDef)} [h : H_is_hold T] (k : Nat) (vs : List PV) (M : Sto) (Q : Q1) : callN T (k + 1) "is_hold" vs M Q ↔ (vs.length = 2 ∧ wpSs (callN T k) b_is_hold (startN 5 vs) M (fnEnds Q)) := callN_has h.lk_is_hold
def b_is_note_hold : List S := [(.ite (.or (.not (.isi (.var 1) .tuple)) (.cmp .ne (.blt .len [(.var 1)]) (.cst (.int 2)))) [(.ret (.cst (.bl false)))] []),
  (.ret (.and (.isi (.ix (.var 1) (.cst (.int 0))) .bool) (.and (.call "is_whole" [(.ix (.var 1) (.cst (.int 1)))]) (.call "is_number" [(.var 0), (.ix (.var 1) (.cst (.int 1))), (.cst (.int 2))]))))]
class H_is_note_hold (T : List (Str × FDef)) : Prop extends PQ.H_is_number T, PG.H_is_whole T where
  lk_is_note_hold : HasD T "is_note_hold" 2 2 b_is_note_hold
theorem call_is_note_hold {T : List (Str × FDef)} [h : H_is_note_hold T] (k : Nat) (vs : List PV) (M : Sto) (Q : Q1) : callN T (k + 1) "is_note_hold" vs M Q ↔ (vs.length = 2 ∧ wpSs (callN T k) b_is_note_hold (startN 2 vs) M (fnEnds Q)) := callN_has h.lk_is_note_hold
def b_are_holds : List S := [(.asg (.nm 3) (.call "simples" [(.var 0)])),
  (.ite (.or (.not (.isi (.var 1) .tuple)) (.cmp .ne (.blt .len [(.var 1)]) (.blt .len [(.var 3)]))) [(.ret (.cst (.bl false)))] []),
  (.ret (.blt .all [(.comp false (.tp [(.nm 4), (.nm 5)]) (.zip [(.var 3), (.var 1)]) none (.callv 2 [(.var 4), (.var 5)]))]))]
class H_are_holds (T : List (Str × FDef)) : Prop extends PG.H_simples T where
  lk_are_holds : HasD T "are_holds" 3 6 b_are_holds
theorem call_are_holds {T : List (Str × FDef)} [h : H_are_holds T] (k : Nat) (vs : List PV) (M : Sto) (Q : Q1) : callN T (k + 1) "are_holds" vs M Q ↔ (vs.length = 3 ∧ wpSs (callN T k) b_are_holds (startN 6 vs) M (fnEnds Q)) := callN_has h.lk_are_holds
def b_is_state : List S := [(.ite (.or (.not (.isi (.var 1) .tuple)) (.cmp .notin (.blt .len [(.var 1)]) (.tup [(.cst (.int 2)), (.cst (.int 3))]))) [(.ret (.cst (.bl false)))] []),
  (.ite (.and (.cmp .eq (.ix (.var 1) (.cst (.int 0))) (.cst (.str "member"))) (.cmp .eq (.blt .len [(.var 1)]) (.cst (.int 3)))) [(.ret (.and (.call "is_within" [(.ix (.var 1) (.cst (.int 1))), (.cst (.int 0)), (.bin .sub (.call "sorts_of" [(.var 0)]) (.cst (.int 1)))]) (.call "are_holds" [(.var 0), (.ix (.var 1) (.cst (.int 2))), (.cst (.fn "is_hold"))])))] []),
  (.ite (.or (.cmp .ne (.ix (.var 1) (.cst (.int 0))) (.cst (.str "note"))) (.cmp .ne (.blt .len [(.var 1)]) (.cst (.int 2)))) [(.ret (.cst (.bl false)))] []),
  (.ret (.and (.call "are_holds" [(.var 0), (.ix (.var 1) (.cst (.int 1))), (.cst (.fn "is_note_hold"))]) (.not (.call "is_bare" [(.ix (.var 1) (.cst (.int 1)))]))))]
class H_is_state (T : List (Str × FDef)) : Prop extends PQ.H_are_holds T, PG.H_is_bare T, PQ.H_is_hold T, PQ.H_is_note_hold T, PG.H_is_within T, PQ.H_sorts_of T where
  lk_is_state : HasD T "is_state" 2 2 b_is_state
theorem call_is_state {T : List (Str × FDef)} [h : H_is_state T] (k : Nat) (vs : List PV) (M : Sto) (Q : Q1) : callN T (k + 1) "is_state" vs M Q ↔ (vs.length = 2 ∧ wpSs (callN T k) b_is_state (startN 2 vs) M (fnEnds Q)) := callN_has h.lk_is_state
def b_fresh_hold : List S := [(.asg (.nm 2) (.call "cut_to" [(.var 0), (.ix (.ix (.var 0) (.cst (.int 1))) (.var 1))])),
  (.ret (.tup [(.cst (.bl true)), (.var 2), (.call "says" [(.var 0), (.var 2)])]))]
class H_fresh_hold (T : List (Str × FDef)) : Prop extends PG.H_cut_to T, PG.H_says T where
  lk_fresh_hold : HasD T "fresh_hold" 2 3 b_fresh_hold
theorem call_fresh_hold {T : List (Str × FDef)} [h : H_fresh_hold T] (k : Nat) (vs : List PV) (M : Sto) (Q : Q1) : callN T (k + 1) "fresh_hold" vs M Q ↔ (vs.length = 2 ∧ wpSs (callN T k) b_fresh_hold (startN 3 vs) M (fnEnds Q)) := callN_has h.lk_fresh_hold
def b_fresh : List S := [(.ret (.tup [(.cst (.str "member")), (.var 1), (.blt .tuple [(.comp false (.nm 2) (.val (.call "simples" [(.var 0)])) none (.call "fresh_hold" [(.var 2), (.var 1)]))])]))]
class H_fresh (T : List (Str × FDef)) : Prop extends PQ.H_fresh_hold T, PG.H_simples T where
  lk_fresh : HasD T "fresh" 2 3 b_fresh
theorem call_fresh {T : List (Str × FDef)} [h : H_fresh T] (k : Nat) (vs : List PV) (M : Sto) (Q : Q1) : callN T (k + 1) "fresh" vs M Q ↔ (vs.length = 2 ∧ wpSs (callN T k) b_fresh (startN 3 vs) M (fnEnds Q)) := callN_has h.lk_fresh
def b_word_of : List S := [(.ret (.call "by_words" [(.var 0), (.blt .tuple [(.comp false (.nm 2) (.val (.ix (.var 1) (.cst (.int 2)))) none (.ix (.var 2) (.cst (.int 2))))])]))]
class H_word_of (T : List (Str × FDef)) : Prop extends PQ.H_by_words T where
  lk_word_of : HasD T "word_of" 2 3 b_word_of
theorem call_word_of {T : List (Str × FDef)} [h : H_word_of T] (k : Nat) (vs : List PV) (M : Sto) (Q : Q1) : callN T (k + 1) "word_of" vs M Q ↔ (vs.length = 2 ∧ wpSs (callN T k) b_word_of (startN 3 vs) M (fnEnds Q)) := callN_has h.lk_word_of
def b_crowd_with : List S := [(.ret (.blt .tuple [(.srt false (.comp false (.tp [(.nm 1), (.nm 2)]) (.dits (.var 0)) (some (.cmp .gt (.var 2) (.cst (.int 0)))) (.tup [(.var 1), (.var 2)])))]))]
class H_crowd_with (T : List (Str × FDef)) : Prop where
  lk_crowd_with : HasD T "crowd_with" 1 3 b_crowd_with
theorem call_crowd_with {T : List (Str × FDef)} [h : H_crowd_with T] (k : Nat) (vs : List PV) (M : Sto) (Q : Q1) : callN T (k + 1) "crowd_with" vs M Q ↔ (vs.length = 1 ∧ wpSs (callN T k) b_crowd_with (startN 3 vs) M (fnEnds Q)) := callN_has h.lk_crowd_with
def b_with_more : List S := [(.dset (.var 0) (.var 1) (.bin .add (.dget (.var 0) (.var 1) (.cst (.int 0))) (.var 2)))]
class H_with_more (T : List (Str × FDef)) : Prop where
  lk_with_more : HasD T "with_more" 3 3 b_with_more
theorem call_with_more {T : List (Str × FDef)} [h : H_with_more T] (k : Nat) (vs : List PV) (M : Sto) (Q : Q1) : callN T (k + 1) "with_more" vs M Q ↔ (vs.length = 3 ∧ wpSs (callN T k) b_with_more (startN 3 vs) M (fnEnds Q)) := callN_has h.lk_with_more
def b_crowd_of_L2 : List S := [(.expr (.call "with_more" [(.var 2), (.call "fresh" [(.var 0), (.var 3)]), (.var 4)]))]
def b_crowd_of : List S := [(.asg (.nm 2) .dnew),
  (.for_ (.tp [(.nm 3), (.nm 4)]) (.enm (.var 1)) b_crowd_of_L2),
  (.ret (.call "crowd_with" [(.var 2)]))]
class H_crowd_of (T : List (Str × FDef)) : Prop extends PQ.H_crowd_with T, PQ.H_fresh T, PQ.H_with_more T where
  lk_crowd_of : HasD T "crowd_of" 2 5 b_crowd_of
theorem call_crowd_of {T : List (Str × FDef)} [h : H_crowd_of T] (k : Nat) (vs : List PV) (M : Sto) (Q : Q1) : callN T (k + 1) "crowd_of" vs M Q ↔ (vs.length = 2 ∧ wpSs (callN T k) b_crowd_of (startN 5 vs) M (fnEnds Q)) := callN_has h.lk_crowd_of
def b_counts_of_L2 : List S := [(.ite (.not (.call "is_note" [(.var 3)])) [(.augx (.var 2) (.ix (.var 3) (.cst (.int 1))) .add (.var 4))] [])]
def b_counts_of : List S := [(.asg (.nm 2) (.bin .mulM (.lst false [(.cst (.int 0))]) (.call "sorts_of" [(.var 0)]))),
  (.for_ (.tp [(.nm 3), (.nm 4)]) (.val (.var 1)) b_counts_of_L2),
  (.ret (.blt .tuple [(.var 2)]))]
class H_counts_of (T : List (Str × FDef)) : Prop extends PG.H_is_note T, PQ.H_sorts_of T where
  lk_counts_of : HasD T "counts_of" 2 5 b_counts_of
theorem call_counts_of {T : List (Str × FDef)} [h : H_counts_of T] (k : Nat) (vs : List PV) (M : Sto) (Q : Q1) : callN T (k + 1) "counts_of" vs M Q ↔ (vs.length = 2 ∧ wpSs (callN T k) b_counts_of (startN 5 vs) M (fnEnds Q)) := callN_has h.lk_counts_of
def b_notes_in : List S := [(.ret (.blt .sum [(.comp false (.tp [(.nm 1), (.nm 2)]) (.val (.var 0)) (some (.call "is_note" [(.var 1)])) (.var 2))]))]
class H_notes_in (T : List (Str × FDef)) : Prop extends PG.H_is_note T where
  lk_notes_in : HasD T "notes_in" 1 3 b_notes_in
theorem call_notes_in {T : List (Str × FDef)} [h : H_notes_in T] (k : Nat) (vs : List PV) (M : Sto) (Q : Q1) : callN T (k + 1) "notes_in" vs M Q ↔ (vs.length = 1 ∧ wpSs (callN T k) b_notes_in (startN 3 vs) M (fnEnds Q)) := callN_has h.lk_notes_in
def b_words_in_L2 : List S := [(.ite (.and (.not (.call "is_note" [(.var 4)])) (.call "word_of" [(.var 0), (.var 4)])) [(.aug 2 .add (.var 5))] [(.ite (.not (.call "is_note" [(.var 4)])) [(.aug 3 .add (.var 5))] [])])]
def b_words_in : List S := [(.asg (.tp [(.nm 2), (.nm 3)]) (.tup [(.cst (.int 0)), (.cst (.int 0))])),
  (.for_ (.tp [(.nm 4), (.nm 5)]) (.val (.var 1)) b_words_in_L2),
  (.ret (.tup [(.var 2), (.var 3)]))]
class H_words_in (T : List (Str × FDef)) : Prop extends PG.H_is_note T, PQ.H_word_of T where
  lk_words_in : HasD T "words_in" 2 6 b_words_in
theorem call_words_in {T : List (Str × FDef)} [h : H_words_in T] (k : Nat) (vs : List PV) (M : Sto) (Q : Q1) : callN T (k + 1) "words_in" vs M Q ↔ (vs.length = 2 ∧ wpSs (callN T k) b_words_in (startN 6 vs) M (fnEnds Q)) := callN_has h.lk_words_in
def b_many_in_of : List S := [(.ret (.dcomp (.tp [(.nm 1), (.nm 2)]) (.val (.var 0)) none (.var 1) (.var 2)))]
class H_many_in_of (T : List (Str × FDef)) : Prop where
  lk_many_in_of : HasD T "many_in_of" 1 3 b_many_in_of
theorem call_many_in_of {T : List (Str × FDef)} [h : H_many_in_of T] (k : Nat) (vs : List PV) (M : Sto) (Q : Q1) : callN T (k + 1) "many_in_of" vs M Q ↔ (vs.length = 1 ∧ wpSs (callN T k) b_many_in_of (startN 3 vs) M (fnEnds Q)) := callN_has h.lk_many_in_of
def b_can_meet : List S := [(.asg (.nm 3) (.ite (.cmp .eq (.var 1) (.var 2)) (.cst (.int 2)) (.cst (.int 1)))),
  (.ret (.and (.cmp .ge (.dget (.var 0) (.var 1) (.cst (.int 0))) (.var 3)) (.cmp .gt (.dget (.var 0) (.var 2) (.cst (.int 0))) (.cst (.int 0)))))]
class H_can_meet (T : List (Str × FDef)) : Prop where
  lk_can_meet : HasD T "can_meet" 3 4 b_can_meet
theorem call_can_meet {T : List (Str × FDef)} [h : H_can_meet T] (k : Nat) (vs : List PV) (M : Sto) (Q : Q1) : callN T (k + 1) "can_meet" vs M Q ↔ (vs.length = 3 ∧ wpSs (callN T k) b_can_meet (startN 4 vs) M (fnEnds Q)) := callN_has h.lk_can_meet
def b_stirs_L3 : List S := [(.ite (.and (.call "can_meet" [(.var 2), (.var 4), (.var 5)]) (.cmp .ne (.call "meet" [(.var 0), (.var 4), (.var 5)]) (.tup [(.var 4), (.var 5)]))) [(.expr (.mth .append (.var 3) [(.tup [(.var 4), (.var 5)])]))] [])]
def b_stirs_L2 : List S := [(.for_ (.nm 5) (.dkeys (.var 2)) b_stirs_L3)]
def b_stirs : List S := [(.asg (.tp [(.nm 2), (.nm 3)]) (.tup [(.call "many_in_of" [(.var 1)]), (.lst true [])])),
  (.for_ (.nm 4) (.dkeys (.var 2)) b_stirs_L2),
  (.ret (.blt .tuple [(.srt false (.var 3))]))]
class H_stirs (T : List (Str × FDef)) : Prop extends PQ.H_can_meet T, PQ.H_many_in_of T, PG.H_meet T where
  lk_stirs : HasD T "stirs" 2 6 b_stirs
theorem call_stirs {T : List (Str × FDef)} [h : H_stirs T] (k : Nat) (vs : List PV) (M : Sto) (Q : Q1) : callN T (k + 1) "stirs" vs M Q ↔ (vs.length = 2 ∧ wpSs (callN T k) b_stirs (startN 6 vs) M (fnEnds Q)) := callN_has h.lk_stirs
def b_is_calm : List S := [(.ret (.cmp .eq (.call "stirs" [(.var 0), (.var 1)]) (.tup [])))]
class H_is_calm (T : List (Str × FDef)) : Prop extends PQ.H_stirs T where
  lk_is_calm : HasD T "is_calm" 2 2 b_is_calm
theorem call_is_calm {T : List (Str × FDef)} [h : H_is_calm T] (k : Nat) (vs : List PV) (M : Sto) (Q : Q1) : callN T (k + 1) "is_calm" vs M Q ↔ (vs.length = 2 ∧ wpSs (callN T k) b_is_calm (startN 2 vs) M (fnEnds Q)) := callN_has h.lk_is_calm
def b_is_entry : List S := [(.ite (.or (.not (.isi (.var 1) .tuple)) (.cmp .ne (.blt .len [(.var 1)]) (.cst (.int 2)))) [(.ret (.cst (.bl false)))] []),
  (.ret (.and (.call "is_state" [(.var 0), (.ix (.var 1) (.cst (.int 0)))]) (.and (.call "is_whole" [(.ix (.var 1) (.cst (.int 1)))]) (.cmp .gt (.ix (.var 1) (.cst (.int 1))) (.cst (.int 0))))))]
class H_is_entry (T : List (Str × FDef)) : Prop extends PQ.H_is_state T, PG.H_is_whole T where
  lk_is_entry : HasD T "is_entry" 2 2 b_is_entry
theorem call_is_entry {T : List (Str × FDef)} [h : H_is_entry T] (k : Nat) (vs : List PV) (M : Sto) (Q : Q1) : callN T (k + 1) "is_entry" vs M Q ↔ (vs.length = 2 ∧ wpSs (callN T k) b_is_entry (startN 2 vs) M (fnEnds Q)) := callN_has h.lk_is_entry
def b_is_crowd : List S := [(.ite (.or (.not (.isi (.var 1) .tuple)) (.not (.blt .all [(.comp false (.nm 2) (.val (.var 1)) none (.call "is_entry" [(.var 0), (.var 2)]))]))) [(.ret (.cst (.bl false)))] []),
  (.ret (.blt .all [(.comp false (.tp [(.nm 3), (.nm 4)]) (.zip [(.var 1), (.sl (.var 1) (some (.cst (.int 1))) none)]) none (.cmp .lt (.ix (.var 3) (.cst (.int 0))) (.ix (.var 4) (.cst (.int 0)))))]))]
class H_is_crowd (T : List (Str × FDef)) : Prop extends PQ.H_is_entry T where
  lk_is_crowd : HasD T "is_crowd" 2 5 b_is_crowd
theorem call_is_crowd {T : List (Str × FDef)} [h : H_is_crowd T] (k : Nat) (vs : List PV) (M : Sto) (Q : Q1) : callN T (k + 1) "is_crowd" vs M Q ↔ (vs.length = 2 ∧ wpSs (callN T k) b_is_crowd (startN 5 vs) M (fnEnds Q)) := callN_has h.lk_is_crowd
end PQ
/-! the program's own defs: what is true of counts -/
namespace SY
/-- what all together are worth -/
def Sm.tot (s : Sm) (cs : List Int) : Int := ((s.ws.zip cs).map fun p => p.1 * p.2).sum
def Sm.tru (s : Sm) (cs : List Int) : Bool := if s.isSum = true then s.says (s.tot cs) else s.says (s.cut (s.tot cs))
/-- whether a saying is so, by the truths of its simple ones -/
def Sy.val (f : Sm → Bool) : Sy → Bool
  | .one s => f s
  | .no a => !(a.val f)
  | .an a b => a.val f && b.val f
  | .or a b => a.val f || b.val f
theorem Sy.val_congr {f g : Sm → Bool} : ∀ (a : Sy), (∀ s ∈ a.sms, f s = g s) → a.val f = a.val g
  | .one s, h => h s (by simp [Sy.sms])
  | .no a, h => by simp only [Sy.val]; rw [Sy.val_congr a fun s hs => h s (by simpa [Sy.sms] using hs)]
  | .an a b, h => by
    simp only [Sy.val]
    rw [Sy.val_congr a fun s hs => h s (by simp [Sy.sms, hs]), Sy.val_congr b fun s hs => h s (by simp [Sy.sms, hs])]
  | .or a b, h => by
    simp only [Sy.val]
    rw [Sy.val_congr a fun s hs => h s (by simp [Sy.sms, hs]), Sy.val_congr b fun s hs => h s (by simp [Sy.sms, hs])]
theorem Sm.keyOk (s : Sm) : SG.keyOk s.pv := by
  obtain ⟨y, r, k, e, hk, hd, hp, _⟩ := s.item
  exact ⟨⟨_, e⟩, hp, k, hk, hd⟩
end SY
namespace PQ
open PySem SG SY PG LA
variable {T : List (Str × FDef)}
theorem w_log {w : Int} (h : -9 ≤ w ∧ w ≤ 9) : w.natAbs.log2 < 64 := LA.log_lt (by omega) (by decide)
theorem w_total [H_total T] (k : Nat) {s : Sm} (g : s.Ok) (cs : List Int) (M : Sto) (Q : Q1) : callN T (k + 1) "total" [s.pv, .tup (cs.map .int)] M Q ↔ Q (.int (s.tot cs)) M := by
  have l6 := g.ws.l6
  have hz : (s.ws.zip cs).length ≤ sizeLine := PG.sl6 (by rw [List.length_zip]; omega)
  have e1 : ∀ M Q, ixS s.pv (.int 1) M Q ↔ Q (.tup (s.ws.map .int)) M := fun M Q => by cases s <;> simp_arith [Sm.pv, Sm.ws]
  rw [call_total]
  simp_arith [b_total, e1, zip2_map, List.length_map, hz]
  rw [compL_map (f := fun p : Int × Int => PV.tup [.int p.1, .int p.2]) (g := fun p => .int (p.1 * p.2)) (s.ws.zip cs) []]
  · simp_arith [ints_map]
    exact Iff.rfl
  · intro p hp c
    have := g.ws.w p.1 (List.of_mem_zip hp).1
    simp_arith [w_log this]
theorem w_is_true_of [H_is_true_of T] (k : Nat) {s : Sm} (g : s.Ok) (cs : List Int) (M : Sto) (Q : Q1) : callN T (k + 4) "is_true_of" [s.pv, .tup (cs.map .int)] M Q ↔ Q (.bl (s.tru cs)) M := by
  rw [call_is_true_of]
  simp_arith [b_is_true_of, w_total (k + 2) g, w_is_sum]
  unfold Sm.tru
  cases s.isSum with
  | true => simp_arith [w_says]
  | false => simp_arith [w_cut_to _ g, w_says]
theorem d_na : decide ((Str.ofString "not") = Str.ofString "and") = false := by decide +kernel
theorem d_oa : decide ((Str.ofString "or") = Str.ofString "and") = false := by decide +kernel
theorem w_told_by [H_told_by T] {f : Sm → Bool} {d : Addr} {kvs : List (PV × PV)} {t : Array DictEntry × Nat} {M : Sto} (hd : M d = some (.dct kvs t)) : ∀ (a : Sy) (k : Nat), a.Ok → (∀ s ∈ a.sms, dlook kvs s.pv = some (.bl (f s))) → ∀ Q : Q1, callN T (k + 4 + a.dep) "told_by" [a.pv, .ref d] M Q ↔ Q (.bl (a.val f)) M
  | .one s, k, g, hl, Q => by
    have gs : s.Ok := g s (by simp [Sy.sms])
    have h1 := hl s (by simp [Sy.sms])
    have dx : ∀ Q : Q1, dlk M (.ref d) s.pv (fun o => ∃ v, o = some v ∧ Q v M) ↔ Q (.bl (f s)) M := fun Q => by
      simp only [dlk, hd, h1]
      constructor
      · rintro ⟨_, v, e2, q⟩
        cases e2
        exact q
      · intro q
        exact ⟨s.keyOk, _, rfl, q⟩
    rw [show k + 4 + (Sy.one s).dep = k + 4 + 1 from rfl, call_told_by]
    simp_arith [b_told_by, Sy.pv, w_is_simple k gs, Sy.val]
    exact dx Q
  | .no a, k, g, hl, Q => by
    have ih := w_told_by (f := f) hd a k (fun s hs => g s (by simpa [Sy.sms] using hs)) (fun s hs => hl s (by simpa [Sy.sms] using hs))
    have d1 := a.dep1
    rw [show k + 4 + (Sy.no a).dep = (k + 4 + a.dep) + 1 by simp [Sy.dep]; omega, call_told_by]
    have e4 : k + 4 + a.dep = (k + a.dep) + 4 := by omega
    have i1 := fun M Q => w_is_simple_not (T := T) (k + a.dep) a M Q (Str.ofString "not")
    rw [← e4] at i1
    simp_arith [b_told_by, Sy.pv, i1, ih, Sy.val]
  | .an a b, k, g, hl, Q => by
    have d1 := a.dep1
    have ia := w_told_by (f := f) hd a (k + (max a.dep b.dep - a.dep)) (fun s hs => g s (by simp [Sy.sms, hs])) (fun s hs => hl s (by simp [Sy.sms, hs]))
    have ib := w_told_by (f := f) hd b (k + (max a.dep b.dep - b.dep)) (fun s hs => g s (by simp [Sy.sms, hs])) (fun s hs => hl s (by simp [Sy.sms, hs]))
    rw [show k + (max a.dep b.dep - a.dep) + 4 + a.dep = k + 4 + max a.dep b.dep by omega] at ia
    rw [show k + (max a.dep b.dep - b.dep) + 4 + b.dep = k + 4 + max a.dep b.dep by omega] at ib
    rw [show k + 4 + (Sy.an a b).dep = (k + 4 + max a.dep b.dep) + 1 by simp only [Sy.dep]; omega, call_told_by]
    have i1 := fun M Q => w_is_simple_no (T := T) (k + max a.dep b.dep) a b M Q (Str.ofString "and")
    rw [show k + max a.dep b.dep + 4 = k + 4 + max a.dep b.dep by omega] at i1
    simp_arith [b_told_by, Sy.pv, i1, ia, ib, Sy.val, d_an]
    cases a.val f <;> simp_arith [Bool.true_and, Bool.false_and]
  | .or a b, k, g, hl, Q => by
    have d1 := a.dep1
    have ia := w_told_by (f := f) hd a (k + (max a.dep b.dep - a.dep)) (fun s hs => g s (by simp [Sy.sms, hs])) (fun s hs => hl s (by simp [Sy.sms, hs]))
    have ib := w_told_by (f := f) hd b (k + (max a.dep b.dep - b.dep)) (fun s hs => g s (by simp [Sy.sms, hs])) (fun s hs => hl s (by simp [Sy.sms, hs]))
    rw [show k + (max a.dep b.dep - a.dep) + 4 + a.dep = k + 4 + max a.dep b.dep by omega] at ia
    rw [show k + (max a.dep b.dep - b.dep) + 4 + b.dep = k + 4 + max a.dep b.dep by omega] at ib
    rw [show k + 4 + (Sy.or a b).dep = (k + 4 + max a.dep b.dep) + 1 by simp only [Sy.dep]; omega, call_told_by]
    have i1 := fun M Q => w_is_simple_no (T := T) (k + max a.dep b.dep) a b M Q (Str.ofString "or")
    rw [show k + max a.dep b.dep + 4 = k + 4 + max a.dep b.dep by omega] at i1
    simp_arith [b_told_by, Sy.pv, i1, ia, ib, Sy.val, d_on, d_oa]
    cases a.val f <;> simp_arith [Bool.true_or, Bool.false_or]
theorem dstore_new {kvs : List (PV × PV)} {k v : PV} (h : ∀ p ∈ kvs, p.1.key ≠ k.key) : dstore kvs k v = kvs ++ [(k, v)] := by
  have : dlook kvs k = none := by
    unfold dlook
    rw [Option.map_eq_none_iff, List.find?_eq_none]
    intro p hp
    simpa using h p hp
  unfold dstore
  rw [this]
  simp
theorem dcompL_map {α : Type} {f kf vf : α → PV} {step : PV → Sto → (Option (PV × PV) → Sto → Prop) → Prop} {Q : List (PV × PV) → Sto → Prop} {M : Sto} : ∀ (xs : List α) (acc : List (PV × PV)), (∀ x ∈ xs, ∀ k, step (f x) M k ↔ k (some (kf x, vf x)) M) →
    (xs.map fun x => (kf x).key).Nodup → (∀ x ∈ xs, ∀ p ∈ acc, p.1.key ≠ (kf x).key) → (dcompL step (fun _ => True) (xs.map f) acc M Q ↔ Q (acc ++ xs.map fun x => (kf x, vf x)) M)
  | [], acc, _, _, _ => by simp [dcompL]
  | x :: r, acc, h, nd, ha => by
    rw [List.map_cons] at nd
    obtain ⟨n1, n2⟩ := List.nodup_cons.mp nd
    have ih := dcompL_map (Q := Q) r (acc ++ [(kf x, vf x)]) (fun y hy => h y (List.mem_cons_of_mem _ hy)) n2 fun y hy p hp => by
      rcases List.mem_append.mp hp with z | z
      · exact ha y (List.mem_cons_of_mem _ hy) p z
      · rw [List.mem_singleton.mp z]
        intro e
        exact n1 (List.mem_map.mpr ⟨y, hy, e.symm⟩)
    rw [List.map_cons]
    unfold dcompL
    rw [h x List.mem_cons_self]
    simp only [true_and]
    rw [dstore_new (ha x List.mem_cons_self), ih]
    simp
theorem keys_int : ∀ ws : List Int, PV.keys (ws.map PV.int) = some (ws.map NestedKey.num)
  | [] => rfl
  | x :: t => by simp [PV.keys, PV.key, keys_int t]
theorem keys_inj (ws vs : List Int) (h : PV.keys (ws.map PV.int) = PV.keys (vs.map PV.int)) : ws = vs := by
  rw [keys_int, keys_int] at h
  have h := Option.some.inj h
  exact List.map_inj_right (fun x y e => by cases e; rfl) |>.mp h
theorem Sm_key_inj {s t : Sm} (e : s.pv.key = t.pv.key) : s = t := by
  have this := keys_inj
  have hk : ∀ ws : List Int, ∃ ks, PV.keys (ws.map PV.int) = some ks := fun ws => ⟨_, keys_int ws⟩
  cases s with
  | sum ws c =>
    cases t with
    | sum vs d =>
      obtain ⟨k1, h1⟩ := hk ws
      obtain ⟨k2, h2⟩ := hk vs
      simp [Sm.pv, PV.key, PV.keys, h1, h2] at e
      rw [this ws vs (by rw [h1, h2, e.1]), e.2]
    | rest vs r m =>
      obtain ⟨k1, h1⟩ := hk ws
      obtain ⟨k2, h2⟩ := hk vs
      simp [Sm.pv, PV.key, PV.keys, h1, h2] at e
  | rest ws r m =>
    cases t with
    | sum vs d =>
      obtain ⟨k1, h1⟩ := hk ws
      obtain ⟨k2, h2⟩ := hk vs
      simp [Sm.pv, PV.key, PV.keys, h1, h2] at e
    | rest vs r' m' =>
      obtain ⟨k1, h1⟩ := hk ws
      obtain ⟨k2, h2⟩ := hk vs
      simp [Sm.pv, PV.key, PV.keys, h1, h2] at e
      rw [this ws vs (by rw [h1, h2, e.1]), e.2.1, e.2.2]
theorem ss_nodup (a : Sy) : a.ss.Nodup := (srt_ok Sm.emb a.sms).nodup
theorem look_ss {f : Sm → Bool} : ∀ {ss : List Sm} {s : Sm}, s ∈ ss → dlook (ss.map fun s => (s.pv, PV.bl (f s))) s.pv = some (.bl (f s))
  | t :: r, s, h => by
    by_cases e : t.pv.key = s.pv.key
    · have := Sm_key_inj e
      subst this
      simp [dlook]
    · have hs : s ∈ r := by
        rcases List.mem_cons.mp h with z | z
        · exact absurd (by rw [z]) e
        · exact z
      have := look_ss (f := f) hs
      unfold dlook at this ⊢
      rw [List.map_cons, List.find?_cons_of_neg (by simpa using e)]
      exact this
/-- by the words of its simple ones -/
theorem w_by_words [H_by_words T] (k : Nat) {a : Sy} (g : Good a) (f : Sm → Bool) {M : Sto} {Q : Q1} (q : ∀ M', Le M M' → Q (.bl (a.val f)) M') : callN T (k + 14) "by_words" [a.pv, .tup (a.ss.map fun s => .bl (f s))] M Q := by
  have hl := g.len
  rw [call_by_words]
  have hz : zipL (a.ss.map Sm.pv) (a.ss.map fun s => PV.bl (f s)) = a.ss.map fun s => PV.tup [s.pv, .bl (f s)] := by
    generalize a.ss = ss
    induction ss with
    | nil => rfl
    | cons x r ih => simp [zipL, ih]
  simp_arith [b_by_words, w_simples _ g, hz, List.length_map, PG.sl6 (Nat.le_of_lt hl)]
  rw [dcompL_map (f := fun s => PV.tup [s.pv, .bl (f s)]) (kf := Sm.pv) (vf := fun s => .bl (f s)) a.ss []]
  · intro p t hp
    have e : k + 13 = (k + 9 - a.dep) + 4 + a.dep := by have := g.dep; omega
    have w := w_told_by (T := T) (f := f) (d := p) (kvs := a.ss.map fun s => (s.pv, .bl (f s))) (t := t) (M := M.put p (.dct (a.ss.map fun s => (s.pv, .bl (f s))) t)) (put_at _ _ _) a (k + 9 - a.dep) g.ok (fun s hs => look_ss ((a.ss_mem s).mpr hs))
    rw [← e] at w
    rw [List.nil_append, w]
    exact q _ ((Le.refl M).put hp)
  · intro s hs c
    simp_arith [s.keyOk]
  · have := ss_nodup a
    rw [List.nodup_iff_pairwise_ne, List.pairwise_map]
    exact (List.nodup_iff_pairwise_ne.mp this).imp fun {x y} n e => n (Sm_key_inj e)
  · intro x _ p hp
    cases hp
theorem w_is_true [H_is_true T] (k : Nat) {a : Sy} (g : Good a) (cs : List Int) {M : Sto} {Q : Q1} (q : ∀ M', Le M M' → Q (.bl (a.val fun s => s.tru cs)) M') : callN T (k + 15) "is_true" [a.pv, .tup (cs.map .int)] M Q := by
  have hl := g.len
  rw [call_is_true]
  simp_arith [b_is_true, PG.w_simples _ g, List.length_map, PG.sl6 (Nat.le_of_lt hl)]
  rw [compL_map (f := Sm.pv) (g := fun s => .bl (s.tru cs)) a.ss []]
  · simp_arith []
    exact w_by_words k g _ q
  · intro s hs c
    simp_arith [w_is_true_of (k + 10) (g.ss hs)]
theorem w_sorts_of [H_sorts_of T] (k : Nat) {a : Sy} (g : Good a) {m : Nat} (hm : ∀ s ∈ a.sms, s.ws.length = m) (M : Sto) (Q : Q1) : callN T (k + 14) "sorts_of" [a.pv] M Q ↔ Q (.int m) M := by
  rw [call_sorts_of]
  have ne : a.ss ≠ [] := fun e => by
    cases hq : a.sms with
    | nil => exact a.ne hq
    | cons s r =>
      have : s ∈ a.ss := (a.ss_mem s).mpr (by rw [hq]; exact List.mem_cons_self)
      rw [e] at this
      cases this
  have hm' : ∀ s ∈ a.ss, s.ws.length = m := fun s hs => hm s ((a.ss_mem s).mp hs)
  simp_arith [b_sorts_of, PG.w_simples _ g]
  cases he : a.ss with
  | nil => exact absurd he ne
  | cons s r =>
    have hs := hm' s (by rw [he]; exact List.mem_cons_self)
    simp_arith []
    cases s <;> simp_arith [Sm.pv, List.length_map] <;> simp only [Sm.ws] at hs <;> rw [hs]
/-- one of a sort who just joined -/
def frH (t : Nat) (s : Sm) : Hold := (true, s.cut (s.ws.getD t 0), s.says (s.cut (s.ws.getD t 0)))
theorem w_fresh [H_fresh T] (k : Nat) {a : Sy} (g : Good a) {m : Nat} (hm : ∀ s ∈ a.sms, s.ws.length = m) {t : Nat} (ht : t < m) (M : Sto) (Q : Q1) : callN T (k + 14) "fresh" [a.pv, .int t] M Q ↔ Q (St.mem t (a.ss.map (frH t))).pv M := by
  have hl := g.len
  rw [call_fresh]
  simp_arith [b_fresh, PG.w_simples _ g, List.length_map, PG.sl6 (Nat.le_of_lt hl)]
  rw [compL_map (f := Sm.pv) (g := fun s => hpv (frH t s)) a.ss []]
  · simp_arith [St.pv, List.map_map]
    exact Iff.rfl
  · intro s hs c
    have gs := g.ss hs
    have lw := hm s ((a.ss_mem s).mp hs)
    have e1 : ∀ M Q, ixS s.pv (.int 1) M Q ↔ Q (.tup (s.ws.map .int)) M := fun M Q => by cases s <;> simp_arith [Sm.pv, Sm.ws]
    have e2 : L2.atI (s.ws.map PV.int) (t : Int) = some (.int (s.ws.getD t 0)) := by
      rw [at_n _ _ (by simp; omega)]
      simp [lw, ht]
    rw [show k + 13 = (k + 12) + 1 from rfl, call_fresh_hold]
    simp_arith [b_fresh_hold, e1, e2, w_cut_to _ gs, w_says, frH, hpv]
end PQ
namespace LZ
open PySem SG
def b__law_hand : List S := [(.asg (.nm 2) (.ite (.cmp .lt (.var 1) (.blt .len [(.var 0)])) (.ix (.var 0) (.var 1)) (.cst (.int 0)))),
  (.asg (.nm 3) (.bin .mul (.bin .mod (.blt .abs [(.var 2)]) (.bin .mul (.bin .mul (.bin .mul (.bin .pow (.cst (.int 10)) (.cst (.int 60))) (.bin .pow (.cst (.int 10)) (.cst (.int 60)))) (.bin .pow (.cst (.int 10)) (.cst (.int 60)))) (.bin .pow (.cst (.int 10)) (.cst (.int 60))))) (.blt .int [(.cmp .ge (.blt .abs [(.var 2)]) (.bin .pow (.cst (.int 10)) (.cst (.int 18))))]))),
  (.ret (.lst true [(.var 3), (.bin .add (.bin .add (.bin .mod (.var 2) (.cst (.int 2305843009213693951))) (.bin .mul (.cst (.int 15485863)) (.var 1))) (.cst (.int 29))), (.cst (.int 0))]))]
class H__law_hand (T : List (Str × FDef)) : Prop where
  lk__law_hand : HasD T "_law_hand" 2 4 b__law_hand
theorem call__law_hand {T : List (Str × FDef)} [h : H__law_hand T] (k : Nat) (vs : List PV) (M : Sto) (Q : Q1) : callN T (k + 1) "_law_hand" vs M Q ↔ (vs.length = 2 ∧ wpSs (callN T k) b__law_hand (startN 4 vs) M (fnEnds Q)) := callN_has h.lk__law_hand
def b__law_take : List S := [(.ite (.cmp .gt (.ix (.var 0) (.cst (.int 0))) (.cst (.int 0))) [(.asg (.nm 2) (.bin .mod (.ix (.var 0) (.cst (.int 0))) (.var 1))), (.six (.var 0) (.cst (.int 0)) (.bin .fdiv (.ix (.var 0) (.cst (.int 0))) (.var 1))), (.ret (.var 2))] []),
  (.six (.var 0) (.cst (.int 2)) (.bin .add (.ix (.var 0) (.cst (.int 2))) (.cst (.int 1)))),
  (.asg (.nm 3) (.lst false [(.cst (.int 2147483647)), (.cst (.int 2147483629)), (.cst (.int 2147483587)), (.cst (.int 2147483579)), (.cst (.int 2147483563)), (.cst (.int 2147483549)), (.cst (.int 2147483543)), (.cst (.int 2147483497))])),
  (.asg (.nm 4) (.ix (.var 3) (.bin .mod (.ix (.var 0) (.cst (.int 2))) (.cst (.int 8))))),
  (.asg (.nm 5) (.bin .mod (.bin .pow (.bin .add (.ix (.var 0) (.cst (.int 1))) (.bin .mul (.cst (.int 104729)) (.ix (.var 0) (.cst (.int 2))))) (.cst (.int 5))) (.var 4))),
  (.ret (.bin .mod (.bin .fdiv (.bin .mod (.bin .mul (.var 5) (.bin .add (.bin .mod (.var 5) (.cst (.int 1013))) (.ix (.var 0) (.cst (.int 2))))) (.var 4)) (.cst (.int 11))) (.var 1)))]
class H__law_take (T : List (Str × FDef)) : Prop where
  lk__law_take : HasD T "_law_take" 2 6 b__law_take
theorem call__law_take {T : List (Str × FDef)} [h : H__law_take T] (k : Nat) (vs : List PV) (M : Sto) (Q : Q1) : callN T (k + 1) "_law_take" vs M Q ↔ (vs.length = 2 ∧ wpSs (callN T k) b__law_take (startN 6 vs) M (fnEnds Q)) := callN_has h.lk__law_take
def b__law_of : List S := [(.ret (.ix (.var 1) (.call "_law_take" [(.var 0), (.blt .len [(.var 1)])])))]
class H__law_of (T : List (Str × FDef)) : Prop extends LZ.H__law_take T where
  lk__law_of : HasD T "_law_of" 2 2 b__law_of
theorem call__law_of {T : List (Str × FDef)} [h : H__law_of T] (k : Nat) (vs : List PV) (M : Sto) (Q : Q1) : callN T (k + 1) "_law_of" vs M Q ↔ (vs.length = 2 ∧ wpSs (callN T k) b__law_of (startN 2 vs) M (fnEnds Q)) := callN_has h.lk__law_of
def b__law_simple : List S := [(.asg (.tp [(.nm 2), (.nm 3)]) (.tup [(.call "_law_take" [(.var 0), (.cst (.int 5))]), (.call "_law_take" [(.var 0), (.cst (.int 4))])])),
  (.asg (.nm 4) (.blt .tuple [(.comp false (.nm 5) (.rng (.var 1)) none (.call "_law_of" [(.var 0), (.lst false [(.cst (.int 0)), (.cst (.int 1)), (.neg (.cst (.int 1))), (.cst (.int 2)), (.cst (.int 9)), (.neg (.cst (.int 9))), (.bin .sub (.call "_law_take" [(.var 0), (.cst (.int 19))]) (.cst (.int 9)))])]))])),
  (.ite (.cmp .lt (.var 2) (.cst (.int 3))) [(.ret (.tup [(.cst (.str "sum")), (.var 4), (.ix (.lst false [(.bin .sub (.call "_law_take" [(.var 0), (.cst (.int 9))]) (.cst (.int 4))), (.bin .sub (.call "_law_take" [(.var 0), (.cst (.int 41))]) (.cst (.int 20))), (.cst (.int 20)), (.neg (.cst (.int 20)))]) (.var 3))]))] []),
  (.asg (.nm 6) (.bin .add (.cst (.int 2)) (.call "_law_take" [(.var 0), (.cst (.int 8))]))),
  (.ret (.tup [(.cst (.str "rest")), (.var 4), (.call "_law_take" [(.var 0), (.var 6)]), (.var 6)]))]
class H__law_simple (T : List (Str × FDef)) : Prop extends LZ.H__law_of T, LZ.H__law_take T where
  lk__law_simple : HasD T "_law_simple" 2 7 b__law_simple
theorem call__law_simple {T : List (Str × FDef)} [h : H__law_simple T] (k : Nat) (vs : List PV) (M : Sto) (Q : Q1) : callN T (k + 1) "_law_simple" vs M Q ↔ (vs.length = 2 ∧ wpSs (callN T k) b__law_simple (startN 7 vs) M (fnEnds Q)) := callN_has h.lk__law_simple
def b__law_saying : List S := [(.asg (.tp [(.nm 4), (.nm 5)]) (.tup [(.call "_law_take" [(.var 0), (.cst (.int 6))]), (.call "_law_take" [(.var 0), (.blt .len [(.var 1)])])])),
  (.dset (.var 3) (.cst (.str "forms")) (.bin .sub (.dix (.var 3) (.cst (.str "forms"))) (.cst (.int 1)))),
  (.ite (.or (.cmp .gt (.var 4) (.cst (.int 3))) (.or (.cmp .lt (.var 2) (.cst (.int 2))) (.cmp .lt (.dix (.var 3) (.cst (.str "forms"))) (.cst (.int 1))))) [(.ret (.ix (.var 1) (.var 5)))] []),
  (.asg (.nm 6) (.call "_law_saying" [(.var 0), (.var 1), (.bin .sub (.var 2) (.cst (.int 1))), (.var 3)])),
  (.ite (.cmp .eq (.var 4) (.cst (.int 0))) [(.ret (.tup [(.cst (.str "not")), (.var 6)]))] []),
  (.ret (.tup [(.ix (.lst false [(.cst (.str "and")), (.cst (.str "or")), (.cst (.str "and"))]) (.bin .sub (.var 4) (.cst (.int 1)))), (.var 6), (.call "_law_saying" [(.var 0), (.var 1), (.bin .sub (.var 2) (.cst (.int 1))), (.var 3)])]))]
class H__law_saying (T : List (Str × FDef)) : Prop extends LZ.H__law_take T where
  lk__law_saying : HasD T "_law_saying" 4 7 b__law_saying
theorem call__law_saying {T : List (Str × FDef)} [h : H__law_saying T] (k : Nat) (vs : List PV) (M : Sto) (Q : Q1) : callN T (k + 1) "_law_saying" vs M Q ↔ (vs.length = 4 ∧ wpSs (callN T k) b__law_saying (startN 7 vs) M (fnEnds Q)) := callN_has h.lk__law_saying
end LZ
/-! the laws' own defs (k01 to k12): draws, simple sayings -/
namespace LZ
open PySem SG SY
open LA (Le hand log_lt)
variable {T : List (Str × FDef)}
/-- the hand at h has given at most n times -/
def Hand (M : Sto) (h : Addr) (n : Int) : Prop := ∃ a b c, M h = some (hand a b c) ∧ (0 ≤ b ∧ b < 2 ^ 62) ∧ 0 ≤ c ∧ c ≤ n
/-- M', behind some draws: all else stays -/
structure Stp (h : Addr) (M M' : Sto) (n : Int) : Prop where
  hd : Hand M' h n
  fr : ∀ t o, t ≠ h → M t = some o → M' t = some o
theorem Hand.up {M : Sto} {h : Addr} {n n' : Int} (x : Hand M h n) (e : n ≤ n') : Hand M h n' := by
  obtain ⟨a, b, c, e1, eb, e2, e3⟩ := x
  exact ⟨a, b, c, e1, eb, e2, by omega⟩
theorem Stp.up {M M' : Sto} {h : Addr} {n n' : Int} (x : Stp h M M' n) (e : n ≤ n') : Stp h M M' n' := ⟨x.hd.up e, x.fr⟩
theorem Stp.refl {M : Sto} {h : Addr} {n : Int} (x : Hand M h n) : Stp h M M n := ⟨x, fun _ _ _ e => e⟩
theorem Stp.trans {h : Addr} {M M' M'' : Sto} {n n' : Int} (a : Stp h M M' n) (b : Stp h M' M'' n') : Stp h M M'' n' := ⟨b.hd, fun t o ht e => b.fr t o ht (a.fr t o ht e)⟩
theorem Hand.ne {M : Sto} {h t : Addr} {n : Int} (x : Hand M h n) (e : M t = none) : t ≠ h := fun q => by
  obtain ⟨a, b, c, e1, _⟩ := x
  rw [q, e1] at e
  cases e
theorem Hand.put {M : Sto} {h t : Addr} {n : Int} {o : SO} (x : Hand M h n) (ne : t ≠ h) : Hand (M.put t o) h n := by
  obtain ⟨a, b, c, e1, e2⟩ := x
  exact ⟨a, b, c, (Sto.put_ne (Ne.symm ne)).trans e1, e2⟩
theorem Stp.put {M M' : Sto} {h t : Addr} {n : Int} {o : SO} (x : Stp h M M' n) (ne : t ≠ h) (e : M t = none) : Stp h M (M'.put t o) n :=
  ⟨x.hd.put ne, fun u q hu hq => by
    have : u ≠ t := fun z => by rw [z, e] at hq; cases hq
    rw [Sto.put_ne this]
    exact x.fr u q hu hq⟩
theorem Hand.le {M M' : Sto} {h : Addr} {n : Int} (x : Hand M h n) (a : Le M M') : Hand M' h n := by
  obtain ⟨a', b, c, e1, e2⟩ := x
  exact ⟨a', b, c, a _ _ e1, e2⟩
theorem Stp.le {h : Addr} {M M' M'' : Sto} {n : Int} (a : Stp h M M' n) (b : Le M' M'') : Stp h M M'' n := ⟨a.hd.le b, fun t o ht e => b t o (a.fr t o ht e)⟩
theorem w_hand [H__law_hand T] (k : Nat) (ns : List Int) (idx : Int) (h0 : 0 ≤ idx) (h3 : idx ≤ 3) {M : Sto} {Q : Q1} (q : ∀ p M', M p = none → Le M M' → Hand M' p 0 → Q (.ref p) M') : callN T (k + 1) "_law_hand" [.lst (ns.map .int), .int idx] M Q := by
  rw [call__law_hand]
  have n1 : (15485863 : Int).natAbs.log2 < 64 := by decide
  have n4 : Int.natAbs 10 < 2 ^ 64 := by decide
  have n5 : ((10 : Int) ^ Int.toNat 60).natAbs.log2 + ((10 : Int) ^ Int.toNat 60).natAbs.log2 < 1000000 := by decide +kernel
  have n6 : ((10 : Int) ^ Int.toNat 60 * 10 ^ Int.toNat 60).natAbs.log2 + ((10 : Int) ^ Int.toNat 60).natAbs.log2 < 1000000 := by decide +kernel
  have n7 : ((10 : Int) ^ Int.toNat 60 * 10 ^ Int.toNat 60 * 10 ^ Int.toNat 60).natAbs.log2 + ((10 : Int) ^ Int.toNat 60).natAbs.log2 < 1000000 := by decide +kernel
  have p1 : (0 : Int) < 10 ^ Int.toNat 60 * 10 ^ Int.toNat 60 * 10 ^ Int.toNat 60 * 10 ^ Int.toNat 60 := by decide +kernel
  have p2 : (0 : Int) < 2305843009213693951 := by decide
  have p3 : (0 : Int) ≤ 60 ∧ (60 : Int) ≤ 1000000 ∧ (0 : Int) ≤ 18 ∧ (18 : Int) ≤ 1000000 := by decide
  have fin : ∀ cell : Int, wpSs (callN T k) (b__law_hand.drop 1) [some (.lst (ns.map .int)), some (.int idx), some (.int cell), none] M (fnEnds Q) := fun cell => by
    have z1 := Int.emod_nonneg cell (show (2305843009213693951 : Int) ≠ 0 by decide)
    have z2 := Int.emod_lt_of_pos cell p2
    have g1 : ∀ b : Bool, (if b = true then (1 : Int) else 0).natAbs.log2 < 64 := fun b => by cases b <;> decide
    simp_arith [b__law_hand, List.drop, n1, n4, n5, n6, n7, p1, p2, p3.1, p3.2.1, p3.2.2.1, p3.2.2.2, g1]
    intro p hp
    exact q p _ hp ((Le.refl M).put hp) ⟨_, _, 0, put_at _ _ _, by omega, by decide, by decide⟩
  simp only [b__law_hand, List.drop] at fin
  simp_arith [b__law_hand, List.length_map]
  by_cases c : idx < ns.length
  · obtain ⟨x, hx, e⟩ := at_some (ns.map PV.int) idx h0 (by rw [List.length_map]; exact c)
    obtain ⟨cell, _, rfl⟩ := List.mem_map.mp hx
    rw [if_pos (decide_eq_true c)]
    refine ⟨_, e, ?_⟩
    have := fin cell
    simp_arith [] at this ⊢
    exact this
  · rw [if_neg (by simp [c])]
    have := fin 0
    simp_arith [] at this ⊢
    exact this
theorem pw_ok {b c : Int} (hb : 0 ≤ b ∧ b < 2 ^ 62) (hc : 0 ≤ c ∧ c < 2 ^ 40) : (b + 104729 * c).natAbs < 2 ^ 64 := by omega
theorem w_take [H__law_take T] (k : Nat) {h : Addr} {n many : Int} {M : Sto} {Q : Q1} (hm : Hand M h n) (h1 : 0 < many) (h2 : many < 2 ^ 200) (h4 : n < 2 ^ 39)
    (q : ∀ d M', 0 ≤ d → d < many → Stp h M M' (n + 1) → Q (.int d) M') : callN T (k + 1) "_law_take" [.ref h, .int many] M Q := by
  obtain ⟨a, b, c, hm, hb, c0, cn⟩ := hm
  have fr : ∀ (a' b' c' : Int) t o, t ≠ h → M t = some o → (M.put h (hand a' b' c')) t = some o := fun a' b' c' t o ht e => (Sto.put_ne ht).trans e
  rw [call__law_take]
  have n1 : many.natAbs.log2 < 9000 := Nat.lt_trans (log_lt (k := 200) (by omega) (by decide)) (by decide)
  have n2 : (104729 : Int).natAbs.log2 < 64 := by decide
  have n6 : (11 : Int).natAbs.log2 < 9000 := by decide
  have hm2 := put_at M h (hand a b (c + 1))
  have pw := pw_ok hb (c := c + 1) (by omega)
  have p5 : (0 : Int) ≤ 5 ∧ (5 : Int) ≤ 1000000 := by decide
  simp_arith [b__law_take, ix_ref hm, six_ref hm, ix_ref hm2, h1, n1, n2, n6, pw, p5.1, p5.2]
  by_cases pa : 0 < a
  · simp_arith [pa, ixN_30]
    exact q _ _ (Int.emod_nonneg _ (by omega)) (Int.emod_lt_of_pos _ h1) ⟨⟨_, _, _, put_at _ _ _, hb, c0, by omega⟩, fr _ _ _⟩
  · simp_arith [pa, ixN_32]
    obtain ⟨x, hx, e⟩ := at_some [PV.int 2147483647, PV.int 2147483629, PV.int 2147483587, PV.int 2147483579, PV.int 2147483563, PV.int 2147483549, PV.int 2147483543, PV.int 2147483497] ((c + 1) % 8) (Int.emod_nonneg _ (by decide)) (Int.emod_lt_of_pos _ (by decide))
    have hp : ∃ p : Int, x = .int p ∧ 0 < p ∧ p < 2 ^ 32 := by
      simp only [List.mem_cons, List.not_mem_nil, or_false] at hx
      rcases hx with rfl | rfl | rfl | rfl | rfl | rfl | rfl | rfl <;> exact ⟨_, rfl, by decide, by decide⟩
    obtain ⟨p, rfl, p0, p1⟩ := hp
    refine ⟨_, e, ?_⟩
    have key : ((b + 104729 * (c + 1)) ^ Int.toNat 5 % p).natAbs.log2 < 64 := by
      have z1 := Int.emod_nonneg ((b + 104729 * (c + 1)) ^ Int.toNat 5) (show p ≠ 0 by omega)
      have z2 := Int.emod_lt_of_pos ((b + 104729 * (c + 1)) ^ Int.toNat 5) p0
      exact log_lt (by omega) (by decide)
    simp_arith [ix_ref hm2, p0, key, n2, n6, h1, pw, p5.1, p5.2]
    exact q _ _ (Int.emod_nonneg _ (by omega)) (Int.emod_lt_of_pos _ h1) ⟨⟨_, _, _, put_at _ _ _, hb, by omega, by omega⟩, fr _ _ _⟩
theorem w_of [H__law_of T] (k : Nat) {h : Addr} {n : Int} {xs : List PV} {M : Sto} {Q : Q1} (hm : Hand M h n) (h0 : xs ≠ []) (h1 : xs.length < 1000) (h4 : n < 2 ^ 39)
    (q : ∀ x M', x ∈ xs → Stp h M M' (n + 1) → Q x M') : callN T (k + 2) "_law_of" [.ref h, .lst xs] M Q := by
  rw [call__law_of]
  simp_arith [b__law_of]
  have hl : 0 < xs.length := by cases xs with | nil => exact absurd rfl h0 | cons _ _ => simp
  refine w_take k hm (by omega) (by omega) h4 fun d M' d0 d1 st => ?_
  simp_arith []
  obtain ⟨x, hx, e⟩ := at_some xs d d0 d1
  exact ⟨x, e, q x M' hx st⟩
theorem w_ofI [H__law_of T] (k : Nat) {h : Addr} {n : Int} {xs : List PV} {M : Sto} {Q : Q1} (P : Int → Prop) (hm : Hand M h n) (h0 : xs ≠ []) (h1 : xs.length < 1000) (h4 : n < 2 ^ 39) (hx : ∀ x ∈ xs, ∃ i, x = .int i ∧ P i)
    (q : ∀ i M', P i → Stp h M M' (n + 1) → Q (.int i) M') : callN T (k + 2) "_law_of" [.ref h, .lst xs] M Q :=
  w_of k hm h0 h1 h4 fun x M' hm' st => by
    obtain ⟨i, rfl, p⟩ := hx x hm'
    exact q i M' p st
theorem w_simple [H__law_simple T] (k : Nat) {h : Addr} {n : Int} {m : Nat} {M : Sto} {Q : Q1} (hm : Hand M h n) (m1 : 1 ≤ m) (m6 : m ≤ 6) (h4 : n < 2 ^ 38)
    (q : ∀ (s : Sm) M', s.Ok → s.ws.length = m → Stp h M M' (n + 20) → Q s.pv M') : callN T (k + 3) "_law_simple" [.ref h, .int m] M Q := by
  rw [call__law_simple]
  simp_arith [b__law_simple]
  refine w_take (k + 1) hm (by decide) (by decide) (by omega) fun way M1 y0 y1 s1 => ?_
  refine w_take (k + 1) s1.hd (by decide) (by decide) (by omega) fun far M2 f0 f1 s2 => ?_
  have s2 := s1.trans s2
  simp_arith [rng_len]
  refine ⟨by omega, by omega, PG.sl6 (by omega), ?_⟩
  refine compL_cps (fun i acc M' => ∃ ws : List Int, acc = ws.map .int ∧ ws.length = i ∧ (∀ w ∈ ws, -9 ≤ w ∧ w ≤ 9) ∧ Stp h M M' (n + 2 + 2 * i)) _ [] 0 M2 ⟨[], rfl, rfl, fun w hw => (by cases hw), s2.up (by omega)⟩ ?_ (fun _ _ _ _ => trivial) ?_
  · rintro i x acc M2 c hx ⟨ws, rfl, hl, hw, st⟩ hc
    obtain ⟨rfl, hlt⟩ := rng0_get hx
    simp_arith [] at hl hw st hc ⊢
    refine w_take (k + 1) st.hd (by decide) (by decide) (by omega) fun d M3 d0 d1 s3 => ?_
    simp_arith []
    refine w_ofI k (fun i => -9 ≤ i ∧ i ≤ 9) s3.hd (by simp) (by simp) (by omega) (fun x hx => ?_) fun w M4 hw4 s4 => ?_
    · simp only [List.mem_cons, List.not_mem_nil, or_false] at hx
      rcases hx with rfl | rfl | rfl | rfl | rfl | rfl | rfl <;> exact ⟨_, rfl, by omega, by omega⟩
    refine hc (some (.int w)) M4 ⟨ws ++ [w], by simp, by simp [hl], fun v hv => ?_, (st.trans (s3.trans s4)).up (by omega)⟩
    rcases List.mem_append.mp hv with q | q
    · exact hw v q
    · rw [List.mem_singleton.mp q]; exact hw4
  · rintro acc M3 ⟨ws, rfl, hl, hw, st⟩
    simp_arith [rng_len] at hl st ⊢
    have wk : WsOk ws := ⟨by omega, by omega, hw⟩
    by_cases e : way < 3
    · simp_arith [e]
      refine w_take (k + 1) st.hd (by decide) (by decide) (by omega) fun g M4 g0 g1 s4 => ?_
      have s4 := st.trans s4
      simp_arith []
      refine w_take (k + 1) s4.hd (by decide) (by decide) (by omega) fun g2 M5 g20 g21 s5 => ?_
      have s5 := s4.trans s5
      simp_arith []
      obtain ⟨x, hx, e⟩ := at_some [PV.int (g - 4), PV.int (g2 - 20), PV.int 20, PV.int (-20)] far f0 (by simpa using f1)
      have hp : ∃ c : Int, x = .int c ∧ -20 ≤ c ∧ c ≤ 20 := by
        simp only [List.mem_cons, List.not_mem_nil, or_false] at hx
        rcases hx with rfl | rfl | rfl | rfl <;> exact ⟨_, rfl, by omega, by omega⟩
      obtain ⟨c, rfl, c0, c1⟩ := hp
      refine ⟨_, e, ?_⟩
      exact q (.sum ws c) M5 ⟨wk, c0, c1⟩ (show ws.length = m by omega) (s5.up (by omega))
    · simp_arith [e]
      refine w_take (k + 1) st.hd (by decide) (by decide) (by omega) fun g M4 g0 g1 s4 => ?_
      have s4 := st.trans s4
      simp_arith []
      refine w_take (k + 1) s4.hd (by omega) (by omega) (by omega) fun r M5 r0 r1 s5 => ?_
      have s5 := s4.trans s5
      exact q (.rest ws r (2 + g)) M5 ⟨wk, by omega, by omega, by omega, by omega⟩ (show ws.length = m by omega) (s5.up (by omega))
end LZ
/-! the laws' own defs (k01 to k12): drawn sayings -/
namespace LZ
open PySem SG SY
open LA (Le hand log_lt)
variable {T : List (Str × FDef)}
abbrev forms (f : Int) (t : Array DictEntry × Nat) : SO := .dks [(.inr (Str.ofString "forms"), .int f)] t
/-- the pot at p has so many forms left -/
def Pot (M : Sto) (p : Addr) (f : Int) : Prop := ∃ t, M p = some (forms f t)
theorem pot_look (M : Sto) {p : Addr} {f : Int} (h : Pot M p f) (P : Option PV → Prop) : dlk M (.ref p) (.str (Str.ofString "forms")) P ↔ P (some (.int f)) := by
  obtain ⟨t, h⟩ := h
  simp only [dlk, h]
  constructor
  · rintro ⟨n, e, q⟩
    cases e
    simpa [klook] using q
  · intro q
    exact ⟨_, rfl, by simpa [klook] using q⟩
theorem pot_set (M : Sto) {p : Addr} {f g : Int} (h : Pot M p f) (Q : Sto → Prop) : dsetS (.ref p) (.str (Str.ofString "forms")) (.int g) M Q ↔ ∀ t, Q (M.put p (forms g t)) := by
  obtain ⟨t, h⟩ := h
  simp only [dsetS, h]
  constructor
  · rintro ⟨n, e, _, q⟩
    cases e
    simpa [kput] using q
  · intro q
    exact ⟨_, rfl, by show 1 < sizeLine; decide, by simpa [kput] using q⟩
/-- a saying of simple ones of a pool -/
structure From (ps : List Sm) (d : Nat) (a : Sy) : Prop where
  sub : ∀ s ∈ a.sms, s ∈ ps
  dep : a.dep ≤ d
structure Aft (h p : Addr) (M M' : Sto) (n f : Int) : Prop where
  hd : Hand M' h n
  pot : Pot M' p f
  fr : ∀ t o, t ≠ h → t ≠ p → M t = some o → M' t = some o
theorem Aft.trans {h p : Addr} {M M' M'' : Sto} {n f n' f' : Int} (a : Aft h p M M' n f) (b : Aft h p M' M'' n' f') : Aft h p M M'' n' f' := ⟨b.hd, b.pot, fun t o h1 h2 e => b.fr t o h1 h2 (a.fr t o h1 h2 e)⟩
theorem Aft.up {h p : Addr} {M M' : Sto} {n f n' : Int} (a : Aft h p M M' n f) (e : n ≤ n') : Aft h p M M' n' f := ⟨a.hd.up e, a.pot, a.fr⟩
theorem at_and {w : Int} (h : w = 1 ∨ w = 2 ∨ w = 3) : ∃ b : Bool, L2.atI [PV.str (Str.ofString "and"), PV.str (Str.ofString "or"), PV.str (Str.ofString "and")] (w - 1) = some (.str (if b = true then Str.ofString "and" else Str.ofString "or")) := by
  rcases h with rfl | rfl | rfl
  · exact ⟨true, rfl⟩
  · exact ⟨false, rfl⟩
  · exact ⟨true, rfl⟩
theorem w_saying [H__law_saying T] {ps : List Sm} (p0 : ps ≠ []) (p1 : ps.length < 1000) : ∀ (d k : Nat) {h p : Addr} {n f : Int} {M : Sto} {Q : Q1}, Hand M h n → Pot M p f → p ≠ h → n + 2 ^ (d + 2) < 2 ^ 38 →
    (∀ a M' f', From ps (d + 1) a → (a.sms.length : Int) + f' ≤ f → (if f ≤ 1 then f - 1 else -d) ≤ f' → Aft h p M M' (n + 2 ^ (d + 2) - 2) f' → Q a.pv M') → callN T (k + 2 + d) "_law_saying" [.ref h, .lst (ps.map Sm.pv), .int (d + 1 : Nat), .ref p] M Q := by
  intro d
  induction d with
  | zero =>
    intro k h p n f M Q hh hp ne hn q
    rw [show k + 2 + 0 = (k + 1) + 1 from rfl, call__law_saying]
    have l0 : 0 < ps.length := by cases ps with | nil => exact absurd rfl p0 | cons _ _ => simp
    simp_arith [b__law_saying, List.length_map]
    refine w_take k hh (by decide) (by decide) (by omega) fun w M1 w0 w1 s1 => ?_
    refine w_take k s1.hd (by omega) (by omega) (by omega) fun i M2 i0 i1 s2 => ?_
    have s2 := s1.trans s2
    have hp2 : Pot M2 p f := by obtain ⟨t, e⟩ := hp; exact ⟨t, s2.fr p _ ne e⟩
    rw [pot_look M2 hp2]
    simp_arith []
    rw [pot_set M2 hp2]
    intro t
    have hp3 : Pot (M2.put p (forms (f - 1) t)) p (f - 1) := ⟨t, put_at _ _ _⟩
    have hd3 : Hand (M2.put p (forms (f - 1) t)) h (n + 2) := (s2.hd.put ne).up (by omega)
    obtain ⟨x, hx, e⟩ := at_some (ps.map Sm.pv) i i0 (by simpa using i1)
    obtain ⟨s, hs, rfl⟩ := List.mem_map.mp hx
    have fin : Q s.pv (M2.put p (forms (f - 1) t)) := q (.one s) _ (f - 1) ⟨fun z hz => by simp only [Sy.sms, List.mem_singleton] at hz; rw [hz]; exact hs, by simp [Sy.dep]⟩ (by simp [Sy.sms]; omega) (by split <;> omega)
      ⟨hd3.up (by simp; omega), hp3, fun u o h1 h2 e => by rw [Sto.put_ne h2]; exact s2.fr u o h1 e⟩
    simp_arith []
    by_cases c1 : 3 < w
    · simp_arith [c1]
      exact ⟨_, e, fin⟩
    · simp_arith [c1]
      exact ⟨_, e, fin⟩
  | succ d ih =>
    intro k h p n f M Q hh hp ne hn q
    have pw : (2 : Int) ^ (d + 1 + 2) = 2 * 2 ^ (d + 2) := by rw [show d + 1 + 2 = (d + 2) + 1 by omega, Int.pow_succ]; omega
    have p4 : (4 : Int) ≤ 2 ^ (d + 2) := by
      have h1 : (1 : Nat) ≤ 2 ^ d := Nat.one_le_two_pow
      have h2 : (2 : Nat) ^ (d + 2) = 4 * 2 ^ d := by rw [Nat.pow_add]; omega
      have h3 : ((2 : Int) ^ (d + 2)) = ((2 ^ (d + 2) : Nat) : Int) := by simp
      omega
    rw [pw] at hn q
    rw [show k + 2 + (d + 1) = (k + 2 + d) + 1 by omega, call__law_saying]
    have l0 : 0 < ps.length := by cases ps with | nil => exact absurd rfl p0 | cons _ _ => simp
    have e0 : ((d + 1 + 1 : Nat) : Int) - 1 = ((d + 1 : Nat) : Int) := by omega
    have e1 : decide (((d + 1 + 1 : Nat) : Int) < 2) = false := decide_eq_false (by omega)
    simp_arith [b__law_saying, List.length_map]
    rw [show k + 2 + d = (k + 1 + d) + 1 by omega]
    refine w_take (k + 1 + d) hh (by decide) (by decide) (by omega) fun w M1 w0 w1 s1 => ?_
    refine w_take (k + 1 + d) s1.hd (by omega) (by omega) (by omega) fun i M2 i0 i1 s2 => ?_
    have s2 := s1.trans s2
    have hp2 : Pot M2 p f := by obtain ⟨t, e⟩ := hp; exact ⟨t, s2.fr p _ ne e⟩
    rw [pot_look M2 hp2]
    simp_arith []
    rw [pot_set M2 hp2]
    intro t
    have hp3 : Pot (M2.put p (forms (f - 1) t)) p (f - 1) := ⟨t, put_at _ _ _⟩
    have hd3 : Hand (M2.put p (forms (f - 1) t)) h (n + 2) := (s2.hd.put ne).up (by omega)
    have a3 : Aft h p M (M2.put p (forms (f - 1) t)) (n + 2) (f - 1) := ⟨hd3, hp3, fun u o h1 h2 e => by rw [Sto.put_ne h2]; exact s2.fr u o h1 e⟩
    obtain ⟨x, hx, e⟩ := at_some (ps.map Sm.pv) i i0 (by simpa using i1)
    obtain ⟨s, hs, rfl⟩ := List.mem_map.mp hx
    have fin : Q s.pv (M2.put p (forms (f - 1) t)) := q (.one s) _ (f - 1) ⟨fun z hz => by simp only [Sy.sms, List.mem_singleton] at hz; rw [hz]; exact hs, by simp [Sy.dep]⟩ (by simp [Sy.sms]; omega) (by split <;> omega)
      (a3.up (by omega))
    generalize M2.put p (forms (f - 1) t) = M3 at *
    simp_arith [e1, e0]
    by_cases c1 : 3 < w
    · simp_arith [c1]
      exact ⟨_, e, fin⟩
    · simp_arith [c1]
      rw [pot_look M3 hp3]
      simp_arith []
      by_cases c2 : f - 1 < 1
      · simp_arith [c2]
        exact ⟨_, e, fin⟩
      · simp_arith [c2]
        rw [show k + 1 + d + 1 = k + 2 + d by omega]
        refine ih k hd3 hp3 ne (by omega) fun a M4 f4 fa la ma aa => ?_
        have a4 := a3.trans aa
        simp_arith []
        by_cases y : w = 0
        · simp_arith [y]
          exact q (.no a) M4 f4 ⟨fa.sub, by have := fa.dep; simp only [Sy.dep]; omega⟩ (by simp only [Sy.sms]; omega) (by split at ma <;> split <;> omega) (a4.up (by omega))
        · simp_arith [y]
          obtain ⟨b, eb⟩ := at_and (w := w) (by omega)
          refine ⟨_, eb, ?_⟩
          refine ih k a4.hd a4.pot ne (by omega) fun a' M5 f5 fa' la' ma' aa' => ?_
          have a5 := (a4.trans aa').up (show n + 2 + 2 ^ (d + 2) - 2 + 2 ^ (d + 2) - 2 ≤ n + 2 * 2 ^ (d + 2) - 2 by omega)
          have mm : (if f ≤ 1 then f - 1 else -((d + 1 : Nat) : Int)) ≤ f5 := by split at ma <;> split at ma' <;> split <;> omega
          have lb : ((a.sms ++ a'.sms).length : Int) + f5 ≤ f := by rw [List.length_append]; omega
          have sb : ∀ s ∈ a.sms ++ a'.sms, s ∈ ps := fun s hs => by
            rcases List.mem_append.mp hs with z | z
            · exact fa.sub s z
            · exact fa'.sub s z
          have dd := fa.dep
          have dd' := fa'.dep
          cases b with
          | true => exact q (.an a a') M5 f5 ⟨sb, by simp only [Sy.dep]; omega⟩ lb mm a5
          | false => exact q (.or a a') M5 f5 ⟨sb, by simp only [Sy.dep]; omega⟩ lb mm a5
/-- a drawn saying is a good one -/
theorem From.good {ps : List Sm} {d : Nat} {a : Sy} (h : From ps d a) (hd : d ≤ 8) (hs : ∀ s ∈ ps, s.Ok) (hl : a.sms.length < 64) : PG.Good a := ⟨fun s hm => hs s (h.sub s hm), by have := h.dep; omega, hl⟩
end LZ
/-! things of any kind: what holds of all of them -/
namespace AN
open PySem SG SY
open LA (PV.wb PV.wbs)
mutual
/-- data whose numbers are at most B -/
def okB (B : Nat) : PV → Bool
  | .int i => decide (i.natAbs ≤ B)
  | .str x => PyData.strOk x
  | .tup xs => okBs B xs
  | .lst xs => okBs B xs
  | .ref _ => false
  | .fn _ => false
  | .non => true
  | .bl _ => true
  | .emp => true
def okBs (B : Nat) : List PV → Bool
  | [] => true
  | x :: r => okB B x && okBs B r
end
theorem okBs_iff {B : Nat} : ∀ xs : List PV, okBs B xs = true ↔ ∀ x ∈ xs, okB B x = true
  | [] => by simp [okBs]
  | x :: r => by rw [okBs, Bool.and_eq_true, okBs_iff r, List.forall_mem_cons]
theorem deps_le_iff {d : Nat} : ∀ xs : List PV, PV.deps xs ≤ d ↔ ∀ x ∈ xs, PV.dep x ≤ d
  | [] => by simp [PV.deps]
  | x :: r => by rw [PV.deps, List.forall_mem_cons, ← deps_le_iff r]; exact Nat.max_le
theorem wbs_append : ∀ xs ys : List PV, LA.PV.wbs (xs ++ ys) = LA.PV.wbs xs + LA.PV.wbs ys
  | [], ys => by simp [LA.PV.wbs]
  | x :: r, ys => by rw [List.cons_append, LA.PV.wbs, LA.PV.wbs, wbs_append r ys]; omega
theorem wbs_rev : ∀ xs : List PV, LA.PV.wbs xs.reverse = LA.PV.wbs xs
  | [] => rfl
  | x :: r => by rw [List.reverse_cons, wbs_append, wbs_rev r, LA.PV.wbs, LA.PV.wbs, LA.PV.wbs]; omega
theorem wbs_take_drop (xs : List PV) (n : Nat) : LA.PV.wbs (xs.take n) + LA.PV.wbs (xs.drop n) = LA.PV.wbs xs := by
  rw [← wbs_append, List.take_append_drop]
theorem wbs_mem {x : PV} : ∀ {xs : List PV}, x ∈ xs → LA.PV.wb x + 1 ≤ LA.PV.wbs xs
  | y :: r, h => by
    rw [LA.PV.wbs]
    rcases List.mem_cons.mp h with e | h
    · rw [e]; omega
    · have := wbs_mem h; omega
theorem wbs_len : ∀ xs : List PV, xs.length ≤ LA.PV.wbs xs
  | [] => Nat.zero_le _
  | x :: r => by have := wbs_len r; rw [LA.PV.wbs, List.length_cons]; omega
/-- a thing: its numbers at most B, so deep, so heavy -/
structure Th (B d w : Nat) (v : PV) : Prop where
  ok : okB B v = true
  dep : v.dep ≤ d
  wt : LA.PV.wb v ≤ w
structure Ths (B d w : Nat) (xs : List PV) : Prop where
  ok : ∀ x ∈ xs, okB B x = true
  dep : ∀ x ∈ xs, x.dep ≤ d
  wt : LA.PV.wbs xs ≤ w
mutual
theorem okB_up {B B' : Nat} (h : B ≤ B') : ∀ v : PV, okB B v = true → okB B' v = true
  | .int i, e => by simp only [okB, decide_eq_true_eq] at e ⊢; omega
  | .str x, e => by simpa [okB] using e
  | .tup xs, e => by simp only [okB] at e ⊢; exact okBs_up h xs e
  | .lst xs, e => by simp only [okB] at e ⊢; exact okBs_up h xs e
  | .ref _, e => by simp [okB] at e
  | .fn _, e => by simp [okB] at e
  | .non, _ => rfl
  | .bl _, _ => rfl
  | .emp, _ => rfl
theorem okBs_up {B B' : Nat} (h : B ≤ B') : ∀ xs : List PV, okBs B xs = true → okBs B' xs = true
  | [], _ => rfl
  | x :: r, e => by
    rw [okBs, Bool.and_eq_true] at e ⊢
    exact ⟨okB_up h x e.1, okBs_up h r e.2⟩
end
theorem Th.up {B d w B' d' w' : Nat} {v : PV} (t : Th B d w v) (h1 : B ≤ B') (h2 : d ≤ d') (h3 : w ≤ w') : Th B' d' w' v := ⟨okB_up h1 v t.ok, Nat.le_trans t.dep h2, Nat.le_trans t.wt h3⟩
theorem Ths.up {B d w B' d' w' : Nat} {v : List PV} (t : Ths B d w v) (h1 : B ≤ B') (h2 : d ≤ d') (h3 : w ≤ w') : Ths B' d' w' v := ⟨fun x hx => okB_up h1 x (t.ok x hx), fun x hx => Nat.le_trans (t.dep x hx) h2, Nat.le_trans t.wt h3⟩
theorem Ths.tup {B d w : Nat} {xs : List PV} (t : Ths B d w xs) : Th B (d + 1) w (.tup xs) :=
  ⟨by rw [okB]; exact (okBs_iff xs).mpr t.ok, by rw [PV.dep]; have := (deps_le_iff xs).mpr t.dep; omega, by rw [LA.PV.wb]; exact t.wt⟩
theorem Ths.lst {B d w : Nat} {xs : List PV} (t : Ths B d w xs) : Th B (d + 1) w (.lst xs) :=
  ⟨by rw [okB]; exact (okBs_iff xs).mpr t.ok, by rw [PV.dep]; have := (deps_le_iff xs).mpr t.dep; omega, by rw [LA.PV.wb]; exact t.wt⟩
theorem Th.untup {B d w : Nat} {xs : List PV} (t : Th B d w (.tup xs)) : Ths B (d - 1) w xs :=
  ⟨(okBs_iff xs).mp (by have := t.ok; rwa [okB] at this), (deps_le_iff xs).mp (by have := t.dep; rw [PV.dep] at this; omega), by have := t.wt; rwa [LA.PV.wb] at this⟩
theorem Ths.nil {B d w : Nat} : Ths B d w [] := ⟨fun _ h => (by cases h), fun _ h => (by cases h), by rw [LA.PV.wbs]; exact Nat.zero_le _⟩
theorem Ths.cons {B d w u : Nat} {x : PV} {xs : List PV} (a : Th B d w x) (b : Ths B d u xs) : Ths B d (w + 1 + u) (x :: xs) :=
  ⟨List.forall_mem_cons.mpr ⟨a.ok, b.ok⟩, List.forall_mem_cons.mpr ⟨a.dep, b.dep⟩, by rw [LA.PV.wbs]; have := a.wt; have := b.wt; omega⟩
theorem Ths.one {B d w : Nat} {x : PV} (a : Th B d w x) : Ths B d (w + 1) [x] := Ths.cons a (Ths.nil (w := 0))
theorem Ths.append {B d w u : Nat} {xs ys : List PV} (a : Ths B d w xs) (b : Ths B d u ys) : Ths B d (w + u) (xs ++ ys) :=
  ⟨fun x hx => (List.mem_append.mp hx).elim (a.ok x) (b.ok x), fun x hx => (List.mem_append.mp hx).elim (a.dep x) (b.dep x), by rw [wbs_append]; exact Nat.add_le_add a.wt b.wt⟩
theorem Ths.take {B d w : Nat} {xs : List PV} (a : Ths B d w xs) (n : Nat) : Ths B d w (xs.take n) :=
  ⟨fun x hx => a.ok x (List.mem_of_mem_take hx), fun x hx => a.dep x (List.mem_of_mem_take hx), by have := wbs_take_drop xs n; have := a.wt; omega⟩
theorem Ths.drop {B d w : Nat} {xs : List PV} (a : Ths B d w xs) (n : Nat) : Ths B d w (xs.drop n) :=
  ⟨fun x hx => a.ok x (List.mem_of_mem_drop hx), fun x hx => a.dep x (List.mem_of_mem_drop hx), by have := wbs_take_drop xs n; have := a.wt; omega⟩
theorem Ths.rev {B d w : Nat} {xs : List PV} (a : Ths B d w xs) : Ths B d w xs.reverse :=
  ⟨fun x hx => a.ok x (List.mem_reverse.mp hx), fun x hx => a.dep x (List.mem_reverse.mp hx), by rw [wbs_rev]; exact a.wt⟩
theorem Ths.mem {B d w : Nat} {x : PV} {xs : List PV} (a : Ths B d w xs) (h : x ∈ xs) : Th B d w x := ⟨a.ok x h, a.dep x h, by have := wbs_mem h; have := a.wt; omega⟩
theorem cut_to {xs : List PV} {i : Int} (h : 0 ≤ i) : cutP xs none (some i) = xs.take i.toNat := by
  unfold cutP
  rw [show HT.sIx xs.length 0 none = 0 from rfl, show HT.sIx xs.length xs.length (some i) = min i.toNat xs.length by unfold HT.sIx; dsimp only; rw [if_neg (by omega)]]
  rw [List.drop_zero, Nat.sub_zero, List.take_eq_take_iff]
  omega
theorem cut_from {xs : List PV} {i : Int} (h : 0 ≤ i) : cutP xs (some i) none = xs.drop i.toNat := by
  unfold cutP
  rw [show HT.sIx xs.length xs.length none = xs.length from rfl, show HT.sIx xs.length 0 (some i) = min i.toNat xs.length by unfold HT.sIx; dsimp only; rw [if_neg (by omega)]]
  rw [List.take_of_length_le (by rw [List.length_drop]; omega)]
  rcases Nat.le_total i.toNat xs.length with z | z
  · rw [Nat.min_eq_left z]
  · rw [Nat.min_eq_right z, List.drop_length, List.drop_eq_nil_of_le z]
/-- a place of a tuple exchanged -/
theorem Ths.swap {B d w u : Nat} {xs : List PV} {y : PV} {n : Nat} {z : PV} (a : Ths B d w xs) (hz : xs[n]? = some z) (h : Th B d (LA.PV.wb z + u) y) : Ths B d (w + u) (xs.take n ++ [y] ++ xs.drop (n + 1)) := by
  have hn : n < xs.length := by
    rcases Nat.lt_or_ge n xs.length with q | q
    · exact q
    · rw [List.getElem?_eq_none q] at hz; cases hz
  have e : xs.drop n = z :: xs.drop (n + 1) := by
    rw [List.drop_eq_getElem_cons hn]
    rw [List.getElem?_eq_getElem hn] at hz
    rw [Option.some.inj hz]
  have t := wbs_take_drop xs n
  rw [e, LA.PV.wbs] at t
  refine ⟨fun x hx => ?_, fun x hx => ?_, ?_⟩
  · rcases List.mem_append.mp hx with hx | hx
    · rcases List.mem_append.mp hx with hx | hx
      · exact (a.take n).ok x hx
      · rw [List.mem_singleton.mp hx]; exact h.ok
    · exact (a.drop (n + 1)).ok x hx
  · rcases List.mem_append.mp hx with hx | hx
    · rcases List.mem_append.mp hx with hx | hx
      · exact (a.take n).dep x hx
      · rw [List.mem_singleton.mp hx]; exact h.dep
    · exact (a.drop (n + 1)).dep x hx
  · rw [wbs_append, wbs_append, LA.PV.wbs, LA.PV.wbs]
    have := h.wt
    have := a.wt
    omega
/-! ### what is told of anything -/
mutual
theorem okB_all {B : Nat} (hB : B < 10 ^ 60) : ∀ v : PV, okB B v = true → v.ple = true ∧ v.dat.showable = true ∧ v.dat.leavesShort 61 = true ∧ v.dat.weight ≤ LA.PV.wb v
  | .non, _ => ⟨rfl, rfl, rfl, Nat.le_refl _⟩
  | .bl _, _ => ⟨rfl, rfl, rfl, Nat.le_refl _⟩
  | .emp, _ => ⟨rfl, rfl, rfl, Nat.le_refl _⟩
  | .int i, h => by
    rw [okB, decide_eq_true_eq] at h
    have h : i.natAbs < 10 ^ 60 := Nat.lt_of_le_of_lt h hB
    have hl : i.natAbs.log2 < 200 := by
      by_cases z : i.natAbs = 0
      · rw [z]; decide
      · exact (Nat.log2_lt z).mpr (by omega)
    refine ⟨by simp [PV.ple], ?_, ?_, ?_⟩
    · unfold PV.dat PyData.showable
      exact decide_eq_true (by omega)
    · unfold PV.dat PyData.leavesShort
      refine decide_eq_true ?_
      have e := int_text_length_le10 (k := 60) (by decide) h
      show (Str.ofString (toString i)).length ≤ 61
      rw [ofString_length]; exact e
    · unfold PV.dat PyData.weight LA.PV.wb
      split <;> omega
  | .str x, h => by
    rw [okB] at h
    refine ⟨by rw [PV.ple]; exact h, rfl, ?_, Nat.le_refl _⟩
    unfold PV.dat PyData.leavesShort
    rw [List.all_eq_true]
    intro c hc
    unfold PyData.strOk at h
    rw [Array.all_eq_true'] at h
    have := h c (Array.mem_toList_iff.mp hc)
    simp only [decide_eq_true_eq] at this ⊢
    omega
  | .tup xs, h => by
    rw [okB] at h
    obtain ⟨a, b, c, d⟩ := okBs_all hB xs h
    unfold PV.dat PyData.showable PyData.leavesShort PyData.weight LA.PV.wb PV.ple
    exact ⟨a, b, c, d⟩
  | .lst xs, h => by
    rw [okB] at h
    obtain ⟨a, b, c, d⟩ := okBs_all hB xs h
    unfold PV.dat PyData.showable PyData.leavesShort PyData.weight LA.PV.wb PV.ple
    exact ⟨a, b, c, d⟩
  | .ref _, h => by rw [okB] at h; cases h
  | .fn _, h => by rw [okB] at h; cases h
theorem okBs_all {B : Nat} (hB : B < 10 ^ 60) : ∀ xs : List PV, okBs B xs = true → PV.ples xs = true ∧ PyData.showableAll (PV.dats xs) = true ∧ PyData.leavesShortAll 61 (PV.dats xs) = true ∧ PyData.weightAll (PV.dats xs) ≤ LA.PV.wbs xs
  | [], _ => ⟨rfl, rfl, rfl, Nat.le_refl _⟩
  | x :: r, h => by
    rw [okBs, Bool.and_eq_true] at h
    obtain ⟨a, b, c, d⟩ := okB_all hB x h.1
    obtain ⟨a', b', c', d'⟩ := okBs_all hB r h.2
    unfold PV.dats PyData.showableAll PyData.leavesShortAll PyData.weightAll LA.PV.wbs PV.ples
    rw [a, a', b, b', c, c']
    exact ⟨rfl, rfl, rfl, by omega⟩
end
theorem Th.ple {B d w : Nat} {v : PV} (t : Th B d w v) (hB : B < 10 ^ 60) : v.ple = true := (okB_all hB v t.ok).1
theorem Th.rep {B d w : Nat} {v : PV} (t : Th B d w v) (hB : B < 10 ^ 60) (hd : d ≤ 60) (hw : w ≤ 2 ^ 17) : repOk v := by
  obtain ⟨a, b, c, e⟩ := okB_all hB v t.ok
  refine ⟨a, Nat.le_trans t.dep hd, b, ?_⟩
  have h := PyData.shown_le 61 (by decide) _ c
  have := t.wt
  rw [sizeLine_eq]
  omega
theorem now_of {v : PV} (h : v.ple = true) (M : Sto) : v.now M = v := by
  cases v with
  | ref a => unfold PV.ple at h; cases h
  | _ => rfl
/-- the word that a thing is -/
def isT (w : Str) : PV → Bool
  | .str y => decide (y = w)
  | _ => false
def isN : PV → Bool
  | .tup [] => true
  | _ => false
theorem eqb_w (x : PV) (w : Str) : PV.eqb x (.str w) = isT w x := by
  cases x with
  | str y =>
    rw [eqb_str, isT, Bool.eq_iff_iff, beq_iff_eq, decide_eq_true_eq]
  | _ => unfold PV.eqb isT; rfl
theorem eqb_w' (x : PV) (w : Str) : PV.eqb (.str w) x = isT w x := by
  cases x with
  | str y =>
    rw [eqb_str, isT, Bool.eq_iff_iff, beq_iff_eq, decide_eq_true_eq]
    exact eq_comm
  | _ => unfold PV.eqb isT; rfl
theorem eqb_n (x : PV) : PV.eqb x (.tup []) = isN x := by
  cases x with
  | tup xs => cases xs <;> simp [PV.eqb, PV.eqbs, isN]
  | _ => unfold PV.eqb isN; rfl
theorem eq_w {x : PV} (h : x.ple = true) (w : Str) (M : Sto) (Q : Q1) : cmpS .eq x (.str w) M Q ↔ Q (.bl (isT w x)) M := by
  have e : eqS M x (.str w) = isT w x := by unfold eqS; rw [now_of h]; exact eqb_w x w
  show cmpOk M x (.str w) ∧ Q (.bl (eqS M x (.str w))) M ↔ _
  rw [e]
  exact ⟨fun q => q.2, fun q => ⟨.inr (.inr ⟨h, rfl⟩), q⟩⟩
theorem ne_w {x : PV} (h : x.ple = true) (w : Str) (M : Sto) (Q : Q1) : cmpS .ne x (.str w) M Q ↔ Q (.bl (!isT w x)) M := by
  have e : eqS M x (.str w) = isT w x := by unfold eqS; rw [now_of h]; exact eqb_w x w
  show cmpOk M x (.str w) ∧ Q (.bl (!eqS M x (.str w))) M ↔ _
  rw [e]
  exact ⟨fun q => q.2, fun q => ⟨.inr (.inr ⟨h, rfl⟩), q⟩⟩
theorem eq_n {x : PV} (h : x.ple = true) (M : Sto) (Q : Q1) : cmpS .eq x (.tup []) M Q ↔ Q (.bl (isN x)) M := by
  have e : eqS M x (.tup []) = isN x := by unfold eqS; rw [now_of h]; exact eqb_n x
  show cmpOk M x (.tup []) ∧ Q (.bl (eqS M x (.tup []))) M ↔ _
  rw [e]
  exact ⟨fun q => q.2, fun q => ⟨.inr (.inr ⟨h, rfl⟩), q⟩⟩
theorem ne_n {x : PV} (h : x.ple = true) (M : Sto) (Q : Q1) : cmpS .ne x (.tup []) M Q ↔ Q (.bl (!isN x)) M := by
  have e : eqS M x (.tup []) = isN x := by unfold eqS; rw [now_of h]; exact eqb_n x
  show cmpOk M x (.tup []) ∧ Q (.bl (!eqS M x (.tup []))) M ↔ _
  rw [e]
  exact ⟨fun q => q.2, fun q => ⟨.inr (.inr ⟨h, rfl⟩), q⟩⟩
theorem in_w {x : PV} (h : x.ple = true) (ws : List Str) (M : Sto) (Q : Q1) : cmpS .isin x (.tup (ws.map .str)) M Q ↔ Q (.bl (ws.any fun w => isT w x)) M := by
  have e : ((ws.map PV.str).any fun z => PV.eqb z x) = ws.any fun w => isT w x := by
    rw [List.any_map]
    exact congrArg (List.any ws) (funext fun w => eqb_w' x w)
  show inS false _ _ M Q ↔ _
  rw [in_so (so_tup M _) (.inr ⟨h, rfl, fun z hz => by obtain ⟨t, _, q⟩ := List.mem_map.mp hz; exact ⟨t, q.symm⟩⟩), e]
  simp only [Bool.false_eq_true, if_false]
theorem notin_w {x : PV} (h : x.ple = true) (ws : List Str) (M : Sto) (Q : Q1) : cmpS .notin x (.tup (ws.map .str)) M Q ↔ Q (.bl (!ws.any fun w => isT w x)) M := by
  have e : ((ws.map PV.str).any fun z => PV.eqb z x) = ws.any fun w => isT w x := by
    rw [List.any_map]
    exact congrArg (List.any ws) (funext fun w => eqb_w' x w)
  show inS true _ _ M Q ↔ _
  rw [in_so (so_tup M _) (.inr ⟨h, rfl, fun z hz => by obtain ⟨t, _, q⟩ := List.mem_map.mp hz; exact ⟨t, q.symm⟩⟩), e]
  simp only [if_true]
/-- isinstance of anything -/
def isA (t : Ty) : PV → Bool
  | .bl _ => match t with | .int => true | .bool => true | _ => false
  | .int _ => match t with | .int => true | _ => false
  | .str _ => match t with | .str => true | _ => false
  | .tup _ => match t with | .tuple => true | _ => false
  | .lst _ => match t with | .list => true | _ => false
  | _ => false
theorem isi_any {x : PV} (h : x.ple = true) (M : Sto) (t : Ty) : isiS x M t = some (isA t x) := by
  cases x with
  | ref a => unfold PV.ple at h; cases h
  | fn a => unfold PV.ple at h; cases h
  | _ => rfl
/-- the text of a number -/
theorem strOk_of (s : String) : PyData.strOk (Str.ofString s) = true := by
  unfold PyData.strOk
  rw [Str.ofString_eq_toList, Array.all_eq_true']
  intro c hc
  simp only [List.mem_toArray, List.mem_map] at hc
  obtain ⟨x, _, rfl⟩ := hc
  have := x.valid
  refine decide_eq_true ?_
  show x.val.toNat < 0x110000
  rcases this with q | ⟨_, q⟩ <;> omega
theorem th_str {B d w : Nat} (s : String) (h : s.length ≤ w) : Th B d w (.str (Str.ofString s)) :=
  ⟨by rw [okB]; exact strOk_of s, by unfold PV.dep; exact Nat.zero_le _, by rw [LA.PV.wb]; exact Nat.le_trans (Nat.le_of_eq (ofString_length s)) h⟩
theorem th_int {B d w : Nat} {i : Int} (h : i.natAbs ≤ B) (hw : 201 ≤ w) : Th B d w (.int i) := ⟨by rw [okB]; exact decide_eq_true h, by unfold PV.dep; exact Nat.zero_le _, by rw [LA.PV.wb]; exact hw⟩
theorem th_bl {B d w : Nat} (b : Bool) : Th B d w (.bl b) := ⟨rfl, by unfold PV.dep; exact Nat.zero_le _, by unfold LA.PV.wb; exact Nat.zero_le _⟩
theorem th_non {B d w : Nat} : Th B d w .non := ⟨rfl, by unfold PV.dep; exact Nat.zero_le _, by unfold LA.PV.wb; exact Nat.zero_le _⟩
theorem th_emp {B d w : Nat} (h : 1 ≤ d) : Th B d w .emp := ⟨rfl, by unfold PV.dep; exact h, by unfold LA.PV.wb; exact Nat.zero_le _⟩
end AN
/-! states of anything: what the program tells -/
namespace AN
open PySem SG SY
open PG (Good)
variable {T : List (Str × FDef)}
def isWh : PV → Bool
  | .int _ => true
  | _ => false
/-- whole numbers within bounds -/
def inB (a b : Int) : PV → Bool
  | .int i => decide (a ≤ i) && decide (i ≤ b)
  | _ => false
theorem w_is_whole [PG.H_is_whole T] (k : Nat) {v : PV} (h : v.ple = true) (M : Sto) (Q : Q1) : callN T (k + 1) "is_whole" [v] M Q ↔ Q (.bl (isWh v)) M := by
  rw [PG.call_is_whole]
  cases v with
  | ref _ => unfold PV.ple at h; cases h
  | fn _ => unfold PV.ple at h; cases h
  | _ => simp_arith [PG.b_is_whole, isi_any h, isA, isWh]
theorem w_is_within [PG.H_is_within T] (k : Nat) {v : PV} (h : v.ple = true) (a b : Int) (M : Sto) (Q : Q1) : callN T (k + 2) "is_within" [v, .int a, .int b] M Q ↔ Q (.bl (inB a b v)) M := by
  cases v with
  | int i => exact PG.w_is_within k i a b M Q
  | ref _ => unfold PV.ple at h; cases h
  | fn _ => unfold PV.ple at h; cases h
  | _ =>
    rw [PG.call_is_within]
    simp_arith [PG.b_is_within, w_is_whole k h, isWh, isA, inB]
/-- a number of a hold -/
def numB (s : Sm) (n t : Int) : Bool := if s.isSum = true then decide ((if n < 0 then -n else n) ≤ t * s.size) else decide (0 ≤ n) && decide (n ≤ s.size)
theorem w_is_number [PQ.H_is_number T] (k : Nat) {s : Sm} (g : s.Ok) (n t : Int) (ht : t.natAbs.log2 < 64) (M : Sto) (Q : Q1) : callN T (k + 3) "is_number" [s.pv, .int n, .int t] M Q ↔ Q (.bl (numB s n t)) M := by
  rw [PQ.call_is_number]
  cases e : s.isSum with
  | true =>
    simp_arith [PQ.b_is_number, PG.w_is_sum, e, PG.w_size_of k g, ht, numB, true_or]
  | false =>
    simp_arith [PQ.b_is_number, PG.w_is_sum, e, PG.w_size_of k g, numB]
    by_cases c : 0 ≤ n <;> simp [c]
def holdB (s : Sm) : PV → Bool
  | .tup [.bl l, .int n, .bl w] => numB s n 1 && (!l || decide (w = s.says n))
  | _ => false
def noteB (s : Sm) : PV → Bool
  | .tup [.bl _, .int n] => numB s n 2
  | _ => false
theorem eq_bl (a b : Bool) (M : Sto) (Q : Q1) : cmpS .eq (.bl a) (.bl b) M Q ↔ Q (.bl (decide (a = b))) M := by
  show cmpOk M (.bl a) (.bl b) ∧ Q (.bl (PV.eqb (.bl a) (.bl b))) M ↔ _
  have e : PV.eqb (.bl a) (.bl b) = decide (a = b) := by cases a <;> cases b <;> (unfold PV.eqb; rfl)
  rw [e]
  exact ⟨fun q => q.2, fun q => ⟨.inr (.inl ⟨rfl, rfl, .inl (Nat.zero_le _)⟩), q⟩⟩
theorem ples_cons {x : PV} {r : List PV} (h : PV.ples (x :: r) = true) : x.ple = true ∧ PV.ples r = true := by
  rw [PV.ples, Bool.and_eq_true] at h; exact h
theorem ple_tup {xs : List PV} (h : (PV.tup xs).ple = true) : PV.ples xs = true := by rw [PV.ple] at h; exact h
theorem w_is_hold [PQ.H_is_hold T] (k : Nat) {s : Sm} (g : s.Ok) {v : PV} (hv : v.ple = true) (M : Sto) (Q : Q1) : callN T (k + 4) "is_hold" [s.pv, v] M Q ↔ Q (.bl (holdB s v)) M := by
  rw [PQ.call_is_hold]
  cases v with
  | ref _ => unfold PV.ple at hv; cases hv
  | fn _ => unfold PV.ple at hv; cases hv
  | tup xs =>
    have hx := ple_tup hv
    match xs, hx with
    | [], _ => simp_arith [PQ.b_is_hold, holdB]
    | [_], _ => simp_arith [PQ.b_is_hold, holdB]
    | [_, _], _ => simp_arith [PQ.b_is_hold, holdB]
    | x :: y :: z :: u :: r, _ =>
      have e : ¬ ((r.length + 1 + 1 + 1 + 1 : Nat) : Int) = 3 := by omega
      simp_arith [PQ.b_is_hold, holdB, e]
    | [x, y, z], hx =>
      obtain ⟨p1, hx⟩ := ples_cons hx
      obtain ⟨p2, hx⟩ := ples_cons hx
      obtain ⟨p3, _⟩ := ples_cons hx
      cases x with
      | bl l =>
        cases z with
        | bl w =>
          cases y with
          | int n =>
            simp_arith [PQ.b_is_hold, holdB, isi_any p2, isA, isWh, w_is_whole (k + 2) p2, w_is_number k g n 1 (by decide), PG.w_says (k + 1), eq_bl]
            cases numB s n 1 <;> cases l <;> simp
          | _ => simp_arith [PQ.b_is_hold, holdB, isA, isWh, w_is_whole (k + 2) p2]
        | _ => simp_arith [PQ.b_is_hold, holdB, isi_any p3, isA]
      | _ => simp_arith [PQ.b_is_hold, holdB, isi_any p1, isA]
  | _ => simp_arith [PQ.b_is_hold, holdB, isi_any hv, isA]
theorem w_is_note_hold [PQ.H_is_note_hold T] (k : Nat) {s : Sm} (g : s.Ok) {v : PV} (hv : v.ple = true) (M : Sto) (Q : Q1) : callN T (k + 4) "is_note_hold" [s.pv, v] M Q ↔ Q (.bl (noteB s v)) M := by
  rw [PQ.call_is_note_hold]
  cases v with
  | ref _ => unfold PV.ple at hv; cases hv
  | fn _ => unfold PV.ple at hv; cases hv
  | tup xs =>
    have hx := ple_tup hv
    match xs, hx with
    | [], _ => simp_arith [PQ.b_is_note_hold, noteB]
    | [_], _ => simp_arith [PQ.b_is_note_hold, noteB]
    | x :: y :: z :: r, _ =>
      have e : ¬ ((r.length + 1 + 1 + 1 : Nat) : Int) = 2 := by omega
      simp_arith [PQ.b_is_note_hold, noteB, e]
    | [x, y], hx =>
      obtain ⟨p1, hx⟩ := ples_cons hx
      obtain ⟨p2, _⟩ := ples_cons hx
      cases x with
      | bl l =>
        cases y with
        | int n => simp_arith [PQ.b_is_note_hold, noteB, isA, isWh, w_is_whole (k + 2) p2, w_is_number k g n 2 (by decide)]
        | _ => simp_arith [PQ.b_is_note_hold, noteB, isA, isWh, w_is_whole (k + 2) p2]
      | _ => simp_arith [PQ.b_is_note_hold, noteB, isi_any p1, isA]
  | _ => simp_arith [PQ.b_is_note_hold, noteB, isi_any hv, isA]
/-- something for each simple saying -/
def holdsB (ss : List Sm) (f : Sm → PV → Bool) : PV → Bool
  | .tup hs => decide (hs.length = ss.length) && (ss.zip hs).all fun p => f p.1 p.2
  | _ => false
theorem zipL_any : ∀ (ss : List Sm) (hs : List PV), zipL (ss.map Sm.pv) hs = (ss.zip hs).map fun p => .tup [p.1.pv, p.2]
  | [], hs => by cases hs <;> simp [zipL]
  | s :: ss, [] => by simp [zipL]
  | s :: ss, h :: hs => by simp [zipL, zipL_any ss hs]
theorem ples_mem : ∀ {xs : List PV}, PV.ples xs = true → ∀ x ∈ xs, x.ple = true
  | x :: r, h, y, hy => by
    obtain ⟨a, b⟩ := ples_cons h
    rcases List.mem_cons.mp hy with e | hy
    · rw [e]; exact a
    · exact ples_mem b y hy
theorem w_are_holds [PQ.H_are_holds T] (k : Nat) {a : Sy} (g : Good a) (f : Str) (fb : Sm → PV → Bool) (hf : ∀ s ∈ a.ss, ∀ h : PV, h.ple = true → ∀ (M : Sto) (Q : Q1), callN T (k + 13) f [s.pv, h] M Q ↔ Q (.bl (fb s h)) M) {v : PV} (hv : v.ple = true) (M : Sto) (Q : Q1) :
    callN T (k + 14) "are_holds" [a.pv, v, .fn f] M Q ↔ Q (.bl (holdsB a.ss fb v)) M := by
  rw [PQ.call_are_holds]
  have few : a.ss.length < 64 := g.len
  cases v with
  | ref _ => unfold PV.ple at hv; cases hv
  | fn _ => unfold PV.ple at hv; cases hv
  | tup hs =>
    have hx := ple_tup hv
    simp_arith [PQ.b_are_holds, PG.w_simples k g, List.length_map, holdsB]
    by_cases c : hs.length = a.ss.length
    · have c' : ((hs.length : Nat) : Int) = ((a.ss.length : Nat) : Int) := by omega
      have lz : (a.ss.zip hs).length ≤ sizeLine := PG.sl6 (by rw [List.length_zip]; omega)
      simp_arith [c, zipL_any, List.length_map, lz, Bool.true_and]
      rw [compL_map (f := fun p : Sm × PV => .tup [p.1.pv, p.2]) (g := fun p => .bl (fb p.1 p.2)) (a.ss.zip hs) []]
      · simp_arith [bools_map]
        rw [List.all_map]
        exact Iff.rfl
      · intro p hp cc
        have h1 := List.of_mem_zip hp
        simp_arith [hf p.1 h1.1 p.2 (ples_mem hx _ h1.2)]
    · have c' : ¬ ((hs.length : Nat) : Int) = ((a.ss.length : Nat) : Int) := by omega
      simp_arith [c, c', Bool.false_and]
  | _ => simp_arith [PQ.b_are_holds, PG.w_simples k g, holdsB, isi_any hv, isA]

theorem notin23 (n : Int) (M : Sto) (Q : Q1) : cmpS .notin (.int n) (.tup [.int 2, .int 3]) M Q ↔ Q (.bl (!(decide (n = 2) || decide (n = 3)))) M := by
  show inS true _ _ M Q ↔ _
  rw [in_so (so_tup M _) (.inl ⟨rfl, rfl, .inl (Nat.zero_le _)⟩)]
  have e : (([.int 2, .int 3] : List PV).any fun z => PV.eqb z (.int n)) = (decide (n = 2) || decide (n = 3)) := by
    rw [List.any_cons, List.any_cons, List.any_nil, eqb_int, eqb_int, Bool.or_false, Bool.eq_iff_iff, Bool.or_eq_true, Bool.or_eq_true, beq_iff_eq, beq_iff_eq, decide_eq_true_eq, decide_eq_true_eq]
    constructor <;> rintro (h | h) <;> omega
  simp only [e, if_true]
/-- nothing is held -/
def bareH : PV → Bool
  | .tup [.bl l, .int n] => !l && decide (n = 0)
  | _ => false
def bareB : PV → Bool
  | .tup hs => hs.all bareH
  | _ => false
theorem noteB_form {s : Sm} {v : PV} (h : noteB s v = true) : ∃ n : NHold, v = npv n := by
  match v, h with
  | .tup [.bl l, .int n], _ => exact ⟨(l, n), rfl⟩
theorem notes_form : ∀ {ss : List Sm} {hs : List PV}, hs.length = ss.length → ((ss.zip hs).all fun p => noteB p.1 p.2) = true → ∃ ns : List NHold, hs = ns.map npv
  | [], [], _, _ => ⟨[], rfl⟩
  | s :: ss, h :: hs, e, q => by
    rw [List.zip_cons_cons, List.all_cons, Bool.and_eq_true] at q
    obtain ⟨n, e1⟩ := noteB_form q.1
    obtain ⟨ns, e2⟩ := notes_form (by simpa using e) q.2
    have e1 : h = npv n := e1
    exact ⟨n :: ns, by rw [e1, e2]; rfl⟩
  | s :: ss, [], e, _ => by simp at e
  | [], h :: hs, e, _ => by simp at e
theorem bareB_npv (ns : List NHold) : bareB (.tup (ns.map npv)) = bare ns := by
  unfold bare
  show ((ns.map npv).all bareH) = _
  rw [List.all_map]
  congr 1
  funext h
  obtain ⟨l, n⟩ := h
  rw [Bool.eq_iff_iff]
  cases l <;> simp [bareH, npv, Function.comp]
/-- a member or a note, by the clauses -/
def stB (ss : List Sm) (m : Int) : PV → Bool
  | .tup [x, y] => isT "note" x && (holdsB ss noteB y && !bareB y)
  | .tup [x, y, z] => isT "member" x && (inB 0 (m - 1) y && holdsB ss holdB z)
  | _ => false
theorem isT_nm {x : PV} (h : isT "member" x = true) : isT "note" x = false := by
  cases x with
  | str y =>
    rw [isT, decide_eq_true_eq] at h
    rw [isT, h]
    decide +kernel
  | _ => rfl
theorem w_is_state [PQ.H_is_state T] (k : Nat) {a : Sy} (g : Good a) {m : Nat} (hm : ∀ s ∈ a.sms, s.ws.length = m) {v : PV} (hv : v.ple = true) (M : Sto) (Q : Q1) : callN T (k + 15) "is_state" [a.pv, v] M Q ↔ Q (.bl (stB a.ss m v)) M := by
  rw [PQ.call_is_state]
  have few := g.len
  have h1 : ∀ s ∈ a.ss, ∀ h : PV, h.ple = true → ∀ (M : Sto) (Q : Q1), callN T (k + 13) "is_hold" [s.pv, h] M Q ↔ Q (.bl (holdB s h)) M := fun s hs h hh M Q => w_is_hold (k + 9) (g.ss hs) hh M Q
  have h2 : ∀ s ∈ a.ss, ∀ h : PV, h.ple = true → ∀ (M : Sto) (Q : Q1), callN T (k + 13) "is_note_hold" [s.pv, h] M Q ↔ Q (.bl (noteB s h)) M := fun s hs h hh M Q => w_is_note_hold (k + 9) (g.ss hs) hh M Q
  cases v with
  | ref _ => unfold PV.ple at hv; cases hv
  | fn _ => unfold PV.ple at hv; cases hv
  | tup xs =>
    have hx := ple_tup hv
    match xs, hx with
    | [], _ => simp_arith [PQ.b_is_state, stB, notin23, Bool.or_false, Bool.false_or]
    | [_], _ => simp_arith [PQ.b_is_state, stB, notin23, Bool.or_false, Bool.false_or]
    | x :: y :: z :: u :: r, _ =>
      have e : ¬ ((r.length + 1 + 1 + 1 + 1 : Nat) : Int) = 3 := by omega
      have e' : ¬ ((r.length + 1 + 1 + 1 + 1 : Nat) : Int) = 2 := by omega
      simp_arith [PQ.b_is_state, stB, notin23, e, e', Bool.or_false]
    | [x, y], hx =>
      obtain ⟨p1, hx⟩ := ples_cons hx
      obtain ⟨p2, _⟩ := ples_cons hx
      simp_arith [PQ.b_is_state, stB, notin23, Bool.or_false, Bool.or_true, eq_w p1, ne_w p1, w_are_holds k g "is_note_hold" noteB h2 p2]
      cases isT "note" x with
      | false => cases isT "member" x <;> simp_arith [Bool.false_and]
      | true =>
        have key : (if holdsB a.ss noteB y = true then callN T (k + 14) (Str.ofString "is_bare") [y] M fun x M1 => ∃ k, truS M1 x = some k ∧ Q (PV.bl !k) M1 else Q (PV.bl (holdsB a.ss noteB y)) M) ↔ Q (PV.bl (holdsB a.ss noteB y && !bareB y)) M := by
          cases c : holdsB a.ss noteB y with
          | false => simp_arith [Bool.false_and]
          | true =>
            cases y with
            | tup hs =>
              rw [holdsB, Bool.and_eq_true, decide_eq_true_eq] at c
              obtain ⟨ns, rfl⟩ := notes_form c.1 c.2
              rw [bareB_npv]
              have ln : ns.length ≤ sizeLine := PG.sl6 (by have := c.1; rw [List.length_map] at this; omega)
              simp_arith [PG.w_is_bare (k + 13) ns ln, Bool.true_and]
            | _ => cases c
        cases isT "member" x <;> simp_arith [Bool.true_and] <;> exact key
    | [x, y, z], hx =>
      obtain ⟨p1, hx⟩ := ples_cons hx
      obtain ⟨p2, hx⟩ := ples_cons hx
      obtain ⟨p3, _⟩ := ples_cons hx
      simp_arith [PQ.b_is_state, stB, notin23, Bool.or_false, Bool.or_true, eq_w p1, ne_w p1, PQ.w_sorts_of k g hm, w_is_within (k + 12) p2, w_are_holds k g "is_hold" holdB h1 p3]
      cases isT "member" x <;> cases inB 0 ((m : Int) - 1) y <;> cases isT "note" x <;> simp
  | _ => simp_arith [PQ.b_is_state, stB, isi_any hv, isA]
end AN
namespace Zk06
open PySem PySem.Spec PyProof.Rows L2 SG
def top (i : Nat) : Stmt := PySem.Challenge.pw_strangersay_k06_states_of_anything.main.body.getD i (.Pass ⟨0, 0, 0, 0⟩)
def s_is_whole : Src := ⟨"is_whole", top 9, ⟨["thing"], ["thing"], PG.b_is_whole⟩⟩
def s_is_within : Src := ⟨"is_within", top 10, ⟨["thing", "low", "high"], ["thing", "low", "high"], PG.b_is_within⟩⟩
def s_is_worths : Src := ⟨"is_worths", top 11, ⟨["thing"], ["thing", "worth"], PG.b_is_worths⟩⟩
def s_is_simple : Src := ⟨"is_simple", top 12, ⟨["thing"], ["thing"], PG.b_is_simple⟩⟩
def s_simples_in : Src := ⟨"simples_in", top 13, ⟨["thing", "depth"], ["thing", "depth", "one", "other"], PG.b_simples_in⟩⟩
def s_simples : Src := ⟨"simples", top 14, ⟨["saying"], ["saying"], PG.b_simples⟩⟩
def s_sorts_of : Src := ⟨"sorts_of", top 15, ⟨["saying"], ["saying"], PQ.b_sorts_of⟩⟩
def s_is_sum : Src := ⟨"is_sum", top 17, ⟨["simple"], ["simple"], PG.b_is_sum⟩⟩
def s_size_of : Src := ⟨"size_of", top 18, ⟨["simple"], ["simple", "worth"], PG.b_size_of⟩⟩
def s_says : Src := ⟨"says", top 19, ⟨["simple", "number"], ["simple", "number"], PG.b_says⟩⟩
def s_is_number : Src := ⟨"is_number", top 20, ⟨["simple", "number", "times"], ["simple", "number", "times"], PQ.b_is_number⟩⟩
def s_is_hold : Src := ⟨"is_hold", top 27, ⟨["simple", "hold"], ["simple", "hold", "leads", "number", "word"], PQ.b_is_hold⟩⟩
def s_is_note_hold : Src := ⟨"is_note_hold", top 28, ⟨["simple", "hold"], ["simple", "hold"], PQ.b_is_note_hold⟩⟩
def s_are_holds : Src := ⟨"are_holds", top 29, ⟨["saying", "holds", "look"], ["saying", "holds", "look", "some", "simple", "hold"], PQ.b_are_holds⟩⟩
def s_is_bare : Src := ⟨"is_bare", top 30, ⟨["holds"], ["holds", "hold"], PG.b_is_bare⟩⟩
def s_is_state : Src := ⟨"is_state", top 31, ⟨["saying", "thing"], ["saying", "thing"], PQ.b_is_state⟩⟩
def s__law_hand : Src := ⟨"_law_hand", top 33, ⟨["_law_script", "_law_k"], ["_law_script", "_law_k", "_law_cell", "_law_own"], LZ.b__law_hand⟩⟩
def s__law_take : Src := ⟨"_law_take", top 34, ⟨["_law_hand_here", "_law_many"], ["_law_hand_here", "_law_many", "_law_digit", "_law_primes", "_law_prime", "_law_drawn"], LZ.b__law_take⟩⟩
def s__law_of : Src := ⟨"_law_of", top 35, ⟨["_law_hand_here", "_law_some"], ["_law_hand_here", "_law_some"], LZ.b__law_of⟩⟩
def s__law_simple : Src := ⟨"_law_simple", top 36, ⟨["_law_hand_here", "_law_sorts"], ["_law_hand_here", "_law_sorts", "_law_way", "_law_far", "_law_worths", "_law_sort", "_law_m"], LZ.b__law_simple⟩⟩
def s__law_saying : Src := ⟨"_law_saying", top 37, ⟨["_law_hand_here", "_law_pool", "_law_deep", "_law_pot"], ["_law_hand_here", "_law_pool", "_law_deep", "_law_pot", "_law_way", "_law_at", "_law_inner"], LZ.b__law_saying⟩⟩
def b__law_size : List S := [(.ite (.cmp .eq (.ix (.var 0) (.cst (.int 0))) (.cst (.str "rest"))) [(.ret (.bin .sub (.ix (.var 0) (.cst (.int 3))) (.cst (.int 1))))] []),
  (.ret (.blt .max [(.bin .add (.comp false (.nm 1) (.val (.ix (.var 0) (.cst (.int 1)))) none (.blt .abs [(.var 1)])) (.lst false [(.bin .add (.blt .abs [(.ix (.var 0) (.cst (.int 2)))]) (.cst (.int 1)))]))]))]
def s__law_size : Src := ⟨"_law_size", top 38, ⟨["_law_simple_here"], ["_law_simple_here", "_law_worth"], b__law_size⟩⟩
def b__law_so : List S := [(.ret (.ite (.cmp .eq (.ix (.var 0) (.cst (.int 0))) (.cst (.str "rest"))) (.cmp .eq (.var 1) (.ix (.var 0) (.cst (.int 2)))) (.cmp .ge (.var 1) (.ix (.var 0) (.cst (.int 2))))))]
def s__law_so : Src := ⟨"_law_so", top 39, ⟨["_law_simple_here", "_law_number"], ["_law_simple_here", "_law_number"], b__law_so⟩⟩
def b__law_hold : List S := [(.asg (.nm 3) (.bin .mul (.call "_law_size" [(.var 1)]) (.ix (.lst false [(.cst (.int 1)), (.cst (.int 2))]) (.blt .int [(.and (.var 2) (.cmp .eq (.ix (.var 1) (.cst (.int 0))) (.cst (.str "sum"))))])))),
  (.asg (.nm 4) (.ite (.cmp .eq (.ix (.var 1) (.cst (.int 0))) (.cst (.str "rest"))) (.cst (.int 0)) (.bin .sub (.cst (.int 0)) (.var 3)))),
  (.asg (.nm 5) (.comp false (.nm 6) (.val (.tup [(.neg (.cst (.int 1))), (.cst (.int 0)), (.cst (.int 1))])) none (.blt .min [(.var 3), (.blt .max [(.var 4), (.bin .add (.ix (.var 1) (.cst (.int 2))) (.var 6))])]))),
  (.asg (.nm 7) (.call "_law_of" [(.var 0), (.bin .add (.lst false [(.var 4), (.var 3), (.cst (.int 0)), (.bin .add (.var 4) (.call "_law_take" [(.var 0), (.bin .add (.bin .sub (.var 3) (.var 4)) (.cst (.int 1)))]))]) (.var 5))])),
  (.asg (.tp [(.nm 8), (.nm 9)]) (.tup [(.cmp .eq (.call "_law_take" [(.var 0), (.cst (.int 2))]) (.cst (.int 0))), (.cmp .eq (.call "_law_take" [(.var 0), (.cst (.int 2))]) (.cst (.int 0)))])),
  (.ite (.var 2) [(.ret (.tup [(.var 8), (.var 7)]))] []),
  (.ret (.tup [(.var 8), (.var 7), (.ite (.var 8) (.call "_law_so" [(.var 1), (.var 7)]) (.var 9))]))]
def s__law_hold : Src := ⟨"_law_hold", top 40, ⟨["_law_hand_here", "_law_simple_here", "_law_as_note"], ["_law_hand_here", "_law_simple_here", "_law_as_note", "_law_size_here", "_law_low", "_law_near", "_law_by", "_law_number", "_law_leads", "_law_word"], b__law_hold⟩⟩
def b__law_state : List S := [(.asg (.nm 3) (.cmp .eq (.call "_law_take" [(.var 0), (.cst (.int 3))]) (.cst (.int 0)))),
  (.asg (.nm 4) (.comp true (.nm 5) (.val (.var 1)) none (.call "_law_hold" [(.var 0), (.var 5), (.var 3)]))),
  (.ite (.not (.var 3)) [(.ret (.tup [(.cst (.str "member")), (.call "_law_take" [(.var 0), (.var 2)]), (.blt .tuple [(.var 4)])]))] []),
  (.ite (.cmp .eq (.comp false (.nm 6) (.val (.var 4)) (some (.cmp .ne (.var 6) (.tup [(.cst (.bl false)), (.cst (.int 0))]))) (.var 6)) (.lst false [])) [(.six (.var 4) (.call "_law_take" [(.var 0), (.blt .len [(.var 4)])]) (.tup [(.cst (.bl true)), (.cst (.int 0))]))] []),
  (.ret (.tup [(.cst (.str "note")), (.blt .tuple [(.var 4)])]))]
def s__law_state : Src := ⟨"_law_state", top 41, ⟨["_law_hand_here", "_law_some", "_law_sorts"], ["_law_hand_here", "_law_some", "_law_sorts", "_law_as_note", "_law_holds", "_law_simple_here", "_law_hold_here"], b__law_state⟩⟩
def b__law_is_hold : List S := [(.ite (.or (.not (.isi (.var 1) .tuple)) (.or (.cmp .ne (.blt .len [(.var 1)]) (.bin .sub (.cst (.int 3)) (.blt .int [(.var 2)]))) (.not (.isi (.ix (.var 1) (.cst (.int 0))) .bool)))) [(.ret (.cst (.bl false)))] []),
  (.ite (.or (.not (.isi (.ix (.var 1) (.cst (.int 1))) .int)) (.isi (.ix (.var 1) (.cst (.int 1))) .bool)) [(.ret (.cst (.bl false)))] []),
  (.asg (.nm 3) (.bin .mul (.call "_law_size" [(.var 0)]) (.ix (.lst false [(.cst (.int 1)), (.cst (.int 2))]) (.blt .int [(.and (.var 2) (.cmp .eq (.ix (.var 0) (.cst (.int 0))) (.cst (.str "sum"))))])))),
  (.ite (.not (.chain .le .le (.ix (.lst false [(.bin .sub (.cst (.int 0)) (.var 3)), (.cst (.int 0))]) (.blt .int [(.cmp .eq (.ix (.var 0) (.cst (.int 0))) (.cst (.str "rest")))])) (.ix (.var 1) (.cst (.int 1))) (.var 3))) [(.ret (.cst (.bl false)))] []),
  (.ret (.or (.var 2) (.and (.isi (.ix (.var 1) (.cst (.int 2))) .bool) (.or (.not (.ix (.var 1) (.cst (.int 0)))) (.cmp .eq (.ix (.var 1) (.cst (.int 2))) (.call "_law_so" [(.var 0), (.ix (.var 1) (.cst (.int 1)))]))))))]
def s__law_is_hold : Src := ⟨"_law_is_hold", top 42, ⟨["_law_simple_here", "_law_given", "_law_as_note"], ["_law_simple_here", "_law_given", "_law_as_note", "_law_size_here"], b__law_is_hold⟩⟩
def b__law_is_state : List S := [(.ite (.or (.not (.isi (.var 2) .tuple)) (.or (.cmp .eq (.var 2) (.tup [])) (.not (.isi (.ix (.var 2) (.cst (.int 0))) .str)))) [(.ret (.cst (.bl false)))] []),
  (.asg (.nm 3) (.cmp .eq (.ix (.var 2) (.cst (.int 0))) (.cst (.str "note")))),
  (.ite (.or (.cmp .notin (.ix (.var 2) (.cst (.int 0))) (.tup [(.cst (.str "member")), (.cst (.str "note"))])) (.or (.cmp .ne (.blt .len [(.var 2)]) (.bin .sub (.cst (.int 3)) (.blt .int [(.var 3)]))) (.not (.isi (.ix (.var 2) (.neg (.cst (.int 1)))) .tuple)))) [(.ret (.cst (.bl false)))] []),
  (.ite (.cmp .ne (.blt .len [(.ix (.var 2) (.neg (.cst (.int 1))))]) (.blt .len [(.var 0)])) [(.ret (.cst (.bl false)))] []),
  (.ite (.not (.blt .all [(.comp false (.tp [(.nm 4), (.nm 5)]) (.zip [(.var 0), (.ix (.var 2) (.neg (.cst (.int 1))))]) none (.call "_law_is_hold" [(.var 4), (.var 5), (.var 3)]))])) [(.ret (.cst (.bl false)))] []),
  (.ite (.var 3) [(.ret (.cmp .ne (.comp false (.nm 5) (.val (.ix (.var 2) (.cst (.int 1)))) (some (.cmp .ne (.var 5) (.tup [(.cst (.bl false)), (.cst (.int 0))]))) (.var 5)) (.lst false [])))] []),
  (.ret (.and (.isi (.ix (.var 2) (.cst (.int 1))) .int) (.and (.not (.isi (.ix (.var 2) (.cst (.int 1))) .bool)) (.chain .le .lt (.cst (.int 0)) (.ix (.var 2) (.cst (.int 1))) (.var 1)))))]
def s__law_is_state : Src := ⟨"_law_is_state", top 43, ⟨["_law_some", "_law_sorts", "_law_given"], ["_law_some", "_law_sorts", "_law_given", "_law_as_note", "_law_simple_here", "_law_hold_here"], b__law_is_state⟩⟩
def b__law_odd_L7 : List S := [(.asg (.nm 3) (.call "_law_of" [(.var 0), (.lst false [(.tup [(.var 3)]), (.lst false [(.var 3)]), (.tup [(.var 3), (.cst (.bl false))])])]))]
def b__law_odd : List S := [(.asg (.nm 2) (.lst false [(.cst .non), (.cst (.bl true)), (.cst (.bl false)), (.cst (.int 0)), (.neg (.cst (.int 1))), (.cst (.int 1)), (.cst (.str "")), (.cst (.str "member")), (.cst (.str "note")), (.cst (.str "state")), (.tup []), (.lst false []), .emp, (.tup [(.cst (.bl false)), (.cst (.int 0))]), (.tup [(.cst (.bl true)), (.cst (.int 0))])])),
  (.ite (.isi (.var 1) .bool) [(.asg (.nm 2) (.lst false [(.not (.var 1)), (.not (.var 1)), (.not (.var 1)), (.blt .int [(.var 1)]), (.cst .non), (.blt .str [(.var 1)])]))] [(.ite (.isi (.var 1) .int) [(.asg (.nm 2) (.bin .add (.var 2) (.lst false [(.bin .add (.var 1) (.cst (.int 1))), (.bin .sub (.var 1) (.cst (.int 1))), (.bin .add (.var 1) (.cst (.int 1))), (.bin .sub (.var 1) (.cst (.int 1))), (.bin .sub (.cst (.int 0)) (.var 1)), (.bin .mul (.var 1) (.cst (.int 2))), (.blt .str [(.var 1)])])))] [])]),
  (.asg (.nm 3) (.call "_law_of" [(.var 0), (.var 2)])),
  (.for_ (.nm 4) (.rng (.call "_law_of" [(.var 0), (.lst false [(.cst (.int 0)), (.cst (.int 0)), (.cst (.int 0)), (.cst (.int 0)), (.cst (.int 0)), (.cst (.int 1)), (.cst (.int 8))])])) b__law_odd_L7),
  (.ret (.var 3))]
def s__law_odd : Src := ⟨"_law_odd", top 44, ⟨["_law_hand_here", "_law_given"], ["_law_hand_here", "_law_given", "_law_thing", "_law_found", "_law_turn"], b__law_odd⟩⟩
def b__law_bent : List S := [(.asg (.nm 3) (.call "_law_take" [(.var 0), (.cst (.int 12))])),
  (.ite (.or (.not (.isi (.var 1) .tuple)) (.cmp .eq (.var 1) (.tup []))) [(.ret (.call "_law_odd" [(.var 0), (.var 1)]))] []),
  (.asg (.tp [(.nm 4), (.nm 5)]) (.tup [(.call "_law_take" [(.var 0), (.blt .len [(.var 1)])]), (.call "_law_take" [(.var 0), (.blt .len [(.var 1)])])])),
  (.ite (.and (.cmp .lt (.var 3) (.cst (.int 9))) (.cmp .gt (.var 2) (.cst (.int 0)))) [(.ret (.bin .add (.bin .add (.sl (.var 1) none (some (.var 4))) (.tup [(.call "_law_bent" [(.var 0), (.ix (.var 1) (.var 4)), (.bin .sub (.var 2) (.cst (.int 1)))])])) (.sl (.var 1) (some (.bin .add (.var 4) (.cst (.int 1)))) none)))] []),
  (.asg (.nm 6) (.lst false [(.bin .add (.sl (.var 1) none (some (.var 4))) (.sl (.var 1) (some (.bin .add (.var 4) (.cst (.int 1)))) none)), (.bin .add (.sl (.var 1) none (some (.bin .add (.var 4) (.cst (.int 1))))) (.sl (.var 1) (some (.var 4)) none)), (.rev (.var 1)), (.blt .list [(.var 1)]), (.ix (.var 1) (.var 4))])),
  (.asg (.nm 6) (.bin .add (.var 6) (.lst false [(.bin .add (.bin .add (.sl (.var 1) none (some (.var 4))) (.tup [(.call "_law_odd" [(.var 0), (.var 4)])])) (.sl (.var 1) (some (.var 4)) none)), (.bin .add (.var 1) (.tup [(.call "_law_odd" [(.var 0), (.var 4)])]))]))),
  (.ret (.call "_law_of" [(.var 0), (.bin .add (.var 6) (.lst false [(.bin .add (.bin .add (.sl (.var 1) none (some (.var 4))) (.tup [(.ix (.var 1) (.var 5))])) (.sl (.var 1) (some (.bin .add (.var 4) (.cst (.int 1)))) none))]))]))]
def s__law_bent : Src := ⟨"_law_bent", top 45, ⟨["_law_hand_here", "_law_given", "_law_deep"], ["_law_hand_here", "_law_given", "_law_deep", "_law_way", "_law_at", "_law_other", "_law_some"], b__law_bent⟩⟩
def b_law_L11 : List S := [(.asg (.nm 11) (.call "_law_bent" [(.var 2), (.var 9), (.cst (.int 4))])), (.expr (.mth .append (.var 8) [(.ite (.cmp .eq (.call "_law_take" [(.var 2), (.cst (.int 5))]) (.cst (.int 0))) (.call "_law_bent" [(.var 2), (.var 11), (.cst (.int 4))]) (.var 11))]))]
def b_law_L7 : List S := [(.asg (.nm 9) (.call "_law_state" [(.var 2), (.var 7), (.var 3)])), (.ite (.cmp .isnot (.call "is_state" [(.var 5), (.var 9)]) (.cst (.bl true))) [(.ret (.cst (.bl false)))] []), (.for_ (.nm 10) (.rng (.cst (.int 4))) b_law_L11), (.expr (.mth .append (.var 8) [(.ite (.cmp .eq (.ix (.var 9) (.cst (.int 0))) (.cst (.str "member"))) (.tup [(.cst (.str "note")), (.ix (.var 9) (.neg (.cst (.int 1))))]) (.tup [(.cst (.str "member")), (.cst (.int 0)), (.ix (.var 9) (.neg (.cst (.int 1))))]))]))]
def b_law_L15 : List S := [(.asg (.tp [(.nm 13), (.nm 14)]) (.tup [(.blt .repr [(.var 12)]), (.call "is_state" [(.var 5), (.var 12)])])), (.ite (.or (.not (.isi (.var 14) .bool)) (.or (.cmp .ne (.var 14) (.call "_law_is_state" [(.var 7), (.var 3), (.var 12)])) (.cmp .ne (.blt .repr [(.var 12)]) (.var 13)))) [(.ret (.cst (.bl false)))] [])]
def b_law_L1 : List S := [(.asg (.nm 2) (.call "_law_hand" [(.var 0), (.var 1)])), (.asg (.tp [(.nm 3), (.nm 4)]) (.tup [(.bin .add (.cst (.int 1)) (.call "_law_take" [(.var 2), (.cst (.int 4))])), (.bin .add (.cst (.int 1)) (.call "_law_take" [(.var 2), (.cst (.int 6))]))])), (.asg (.nm 5) (.call "_law_saying" [(.var 2), (.comp false (.nm 6) (.rng (.var 4)) none (.call "_law_simple" [(.var 2), (.var 3)])), (.cst (.int 8)), (.klit [(.cst (.str "forms")), (.cst (.int 12))])])), (.asg (.nm 7) (.call "simples" [(.var 5)])), (.asg (.nm 8) (.lst true [(.tup [(.cst (.str "note")), (.bin .mul (.tup [(.tup [(.cst (.bl false)), (.cst (.int 0))])]) (.blt .len [(.var 7)]))]), (.tup [(.cst (.str "member")), (.cst (.int 0)), (.tup [])]), (.tup [(.cst (.str "note")), (.tup [])]), (.cst .non), (.cst (.str ""))])), (.for_ (.nm 6) (.rng (.cst (.int 5))) b_law_L7), (.for_ (.nm 12) (.val (.bin .add (.var 8) (.lst false [(.call "_law_state" [(.var 2), (.tup [(.tup [(.cst (.str "sum")), (.bin .mul (.tup [(.cst (.int 1))]) (.var 3)), (.cst (.int 4))])]), (.var 3)])]))) b_law_L15)]
def b_law : List S := [(.for_ (.nm 1) (.rng (.bin .add (.cst (.int 1)) (.blt .min [(.cst (.int 3)), (.blt .len [(.var 0)])]))) b_law_L1),
  (.ret (.cst (.bl true)))]
def s_law : Src := ⟨"law", top 46, ⟨["_law_script"], ["_law_script", "_law_k", "_law_hand_here", "_law_sorts", "_law_many", "_law_saying_here", "_law_turn", "_law_some", "_law_seen", "_law_good", "_law_again", "_law_bent_here", "_law_given", "_law_kept", "_law_told"], b_law⟩⟩
def srcs : List Src := [s_is_whole, s_is_within, s_is_worths, s_is_simple, s_simples_in, s_simples, s_sorts_of, s_is_sum, s_size_of, s_says, s_is_number, s_is_hold, s_is_note_hold, s_are_holds, s_is_bare, s_is_state, s__law_hand, s__law_take, s__law_of, s__law_simple, s__law_saying, s__law_size, s__law_so, s__law_hold, s__law_state, s__law_is_hold, s__law_is_state, s__law_odd, s__law_bent, s_law]
def cns : List (Str × PV) := [("BARE", (.tup [(.bl false), (.int 0)])), ("MEMBER", (.str "member")), ("MEMBER_PARTS", (.int 3)), ("MOST_BOUND", (.int 20)), ("MOST_DEPTH", (.int 8)), ("MOST_PARTS", (.int 9)), ("MOST_SORTS", (.int 6)), ("MOST_WORTH", (.int 9)), ("NOTE", (.str "note")), ("NOTE_PARTS", (.int 2)), ("REST_PARTS", (.int 4)), ("SUM_PARTS", (.int 3)), ("TWO_PARTS", (.int 3))]
def fns0 : List Str := ["is_whole", "is_within", "is_worths", "is_simple", "simples_in", "simples", "sorts_of", "is_sum", "size_of", "says", "is_number", "is_hold", "is_note_hold", "are_holds", "is_bare", "is_state", "_law_hand", "_law_take", "_law_of", "_law_simple"]
def fns1 : List Str := ["_law_saying", "_law_size", "_law_so", "_law_hold", "_law_state", "_law_is_hold", "_law_is_state", "_law_odd", "_law_bent", "law"]
def nfo : Nfo := ⟨fns0 ++ fns1, cns⟩
theorem ok_is_whole : SrcOk nfo s_is_whole := ⟨⟨by kernel_rfl, by kernel_rfl, by kernel_rfl, by decide +kernel, by decide +kernel, by decide +kernel, by decide +kernel⟩, fun _ _ _ _ _ _ us hl => match us, hl with | [_], _ => by kernel_rfl, by decide +kernel⟩
theorem ok_is_within : SrcOk nfo s_is_within := ⟨⟨by kernel_rfl, by kernel_rfl, by kernel_rfl, by decide +kernel, by decide +kernel, by decide +kernel, by decide +kernel⟩, fun _ _ _ _ _ _ us hl => match us, hl with | [_, _, _], _ => by kernel_rfl, by decide +kernel⟩
theorem ok_is_worths : SrcOk nfo s_is_worths := ⟨⟨by kernel_rfl, by kernel_rfl, by kernel_rfl, by decide +kernel, by decide +kernel, by decide +kernel, by decide +kernel⟩, fun _ _ _ _ _ _ us hl => match us, hl with | [_], _ => by kernel_rfl, by decide +kernel⟩
theorem ok_is_simple : SrcOk nfo s_is_simple := ⟨⟨by kernel_rfl, by kernel_rfl, by kernel_rfl, by decide +kernel, by decide +kernel, by decide +kernel, by decide +kernel⟩, fun _ _ _ _ _ _ us hl => match us, hl with | [_], _ => by kernel_rfl, by decide +kernel⟩
theorem ok_simples_in : SrcOk nfo s_simples_in := ⟨⟨by kernel_rfl, by kernel_rfl, by kernel_rfl, by decide +kernel, by decide +kernel, by decide +kernel, by decide +kernel⟩, fun _ _ _ _ _ _ us hl => match us, hl with | [_, _], _ => by kernel_rfl, by decide +kernel⟩
theorem ok_simples : SrcOk nfo s_simples := ⟨⟨by kernel_rfl, by kernel_rfl, by kernel_rfl, by decide +kernel, by decide +kernel, by decide +kernel, by decide +kernel⟩, fun _ _ _ _ _ _ us hl => match us, hl with | [_], _ => by kernel_rfl, by decide +kernel⟩
theorem ok_sorts_of : SrcOk nfo s_sorts_of := ⟨⟨by kernel_rfl, by kernel_rfl, by kernel_rfl, by decide +kernel, by decide +kernel, by decide +kernel, by decide +kernel⟩, fun _ _ _ _ _ _ us hl => match us, hl with | [_], _ => by kernel_rfl, by decide +kernel⟩
theorem ok_is_sum : SrcOk nfo s_is_sum := ⟨⟨by kernel_rfl, by kernel_rfl, by kernel_rfl, by decide +kernel, by decide +kernel, by decide +kernel, by decide +kernel⟩, fun _ _ _ _ _ _ us hl => match us, hl with | [_], _ => by kernel_rfl, by decide +kernel⟩
theorem ok_size_of : SrcOk nfo s_size_of := ⟨⟨by kernel_rfl, by kernel_rfl, by kernel_rfl, by decide +kernel, by decide +kernel, by decide +kernel, by decide +kernel⟩, fun _ _ _ _ _ _ us hl => match us, hl with | [_], _ => by kernel_rfl, by decide +kernel⟩
theorem ok_says : SrcOk nfo s_says := ⟨⟨by kernel_rfl, by kernel_rfl, by kernel_rfl, by decide +kernel, by decide +kernel, by decide +kernel, by decide +kernel⟩, fun _ _ _ _ _ _ us hl => match us, hl with | [_, _], _ => by kernel_rfl, by decide +kernel⟩
theorem ok_is_number : SrcOk nfo s_is_number := ⟨⟨by kernel_rfl, by kernel_rfl, by kernel_rfl, by decide +kernel, by decide +kernel, by decide +kernel, by decide +kernel⟩, fun _ _ _ _ _ _ us hl => match us, hl with | [_, _, _], _ => by kernel_rfl, by decide +kernel⟩
theorem ok_is_hold : SrcOk nfo s_is_hold := ⟨⟨by kernel_rfl, by kernel_rfl, by kernel_rfl, by decide +kernel, by decide +kernel, by decide +kernel, by decide +kernel⟩, fun _ _ _ _ _ _ us hl => match us, hl with | [_, _], _ => by kernel_rfl, by decide +kernel⟩
theorem ok_is_note_hold : SrcOk nfo s_is_note_hold := ⟨⟨by kernel_rfl, by kernel_rfl, by kernel_rfl, by decide +kernel, by decide +kernel, by decide +kernel, by decide +kernel⟩, fun _ _ _ _ _ _ us hl => match us, hl with | [_, _], _ => by kernel_rfl, by decide +kernel⟩
theorem ok_are_holds : SrcOk nfo s_are_holds := ⟨⟨by kernel_rfl, by kernel_rfl, by kernel_rfl, by decide +kernel, by decide +kernel, by decide +kernel, by decide +kernel⟩, fun _ _ _ _ _ _ us hl => match us, hl with | [_, _, _], _ => by kernel_rfl, by decide +kernel⟩
theorem ok_is_bare : SrcOk nfo s_is_bare := ⟨⟨by kernel_rfl, by kernel_rfl, by kernel_rfl, by decide +kernel, by decide +kernel, by decide +kernel, by decide +kernel⟩, fun _ _ _ _ _ _ us hl => match us, hl with | [_], _ => by kernel_rfl, by decide +kernel⟩
theorem ok_is_state : SrcOk nfo s_is_state := ⟨⟨by kernel_rfl, by kernel_rfl, by kernel_rfl, by decide +kernel, by decide +kernel, by decide +kernel, by decide +kernel⟩, fun _ _ _ _ _ _ us hl => match us, hl with | [_, _], _ => by kernel_rfl, by decide +kernel⟩
theorem ok__law_hand : SrcOk nfo s__law_hand := ⟨⟨by kernel_rfl, by kernel_rfl, by kernel_rfl, by decide +kernel, by decide +kernel, by decide +kernel, by decide +kernel⟩, fun _ _ _ _ _ _ us hl => match us, hl with | [_, _], _ => by kernel_rfl, by decide +kernel⟩
theorem ok__law_take : SrcOk nfo s__law_take := ⟨⟨by kernel_rfl, by kernel_rfl, by kernel_rfl, by decide +kernel, by decide +kernel, by decide +kernel, by decide +kernel⟩, fun _ _ _ _ _ _ us hl => match us, hl with | [_, _], _ => by kernel_rfl, by decide +kernel⟩
theorem ok__law_of : SrcOk nfo s__law_of := ⟨⟨by kernel_rfl, by kernel_rfl, by kernel_rfl, by decide +kernel, by decide +kernel, by decide +kernel, by decide +kernel⟩, fun _ _ _ _ _ _ us hl => match us, hl with | [_, _], _ => by kernel_rfl, by decide +kernel⟩
theorem ok__law_simple : SrcOk nfo s__law_simple := ⟨⟨by kernel_rfl, by kernel_rfl, by kernel_rfl, by decide +kernel, by decide +kernel, by decide +kernel, by decide +kernel⟩, fun _ _ _ _ _ _ us hl => match us, hl with | [_, _], _ => by kernel_rfl, by decide +kernel⟩
theorem ok__law_saying : SrcOk nfo s__law_saying := ⟨⟨by kernel_rfl, by kernel_rfl, by kernel_rfl, by decide +kernel, by decide +kernel, by decide +kernel, by decide +kernel⟩, fun _ _ _ _ _ _ us hl => match us, hl with | [_, _, _, _], _ => by kernel_rfl, by decide +kernel⟩
theorem ok__law_size : SrcOk nfo s__law_size := ⟨⟨by kernel_rfl, by kernel_rfl, by kernel_rfl, by decide +kernel, by decide +kernel, by decide +kernel, by decide +kernel⟩, fun _ _ _ _ _ _ us hl => match us, hl with | [_], _ => by kernel_rfl, by decide +kernel⟩
theorem ok__law_so : SrcOk nfo s__law_so := ⟨⟨by kernel_rfl, by kernel_rfl, by kernel_rfl, by decide +kernel, by decide +kernel, by decide +kernel, by decide +kernel⟩, fun _ _ _ _ _ _ us hl => match us, hl with | [_, _], _ => by kernel_rfl, by decide +kernel⟩
theorem ok__law_hold : SrcOk nfo s__law_hold := ⟨⟨by kernel_rfl, by kernel_rfl, by kernel_rfl, by decide +kernel, by decide +kernel, by decide +kernel, by decide +kernel⟩, fun _ _ _ _ _ _ us hl => match us, hl with | [_, _, _], _ => by kernel_rfl, by decide +kernel⟩
theorem ok__law_state : SrcOk nfo s__law_state := ⟨⟨by kernel_rfl, by kernel_rfl, by kernel_rfl, by decide +kernel, by decide +kernel, by decide +kernel, by decide +kernel⟩, fun _ _ _ _ _ _ us hl => match us, hl with | [_, _, _], _ => by kernel_rfl, by decide +kernel⟩
theorem ok__law_is_hold : SrcOk nfo s__law_is_hold := ⟨⟨by kernel_rfl, by kernel_rfl, by kernel_rfl, by decide +kernel, by decide +kernel, by decide +kernel, by decide +kernel⟩, fun _ _ _ _ _ _ us hl => match us, hl with | [_, _, _], _ => by kernel_rfl, by decide +kernel⟩
theorem ok__law_is_state : SrcOk nfo s__law_is_state := ⟨⟨by kernel_rfl, by kernel_rfl, by kernel_rfl, by decide +kernel, by decide +kernel, by decide +kernel, by decide +kernel⟩, fun _ _ _ _ _ _ us hl => match us, hl with | [_, _, _], _ => by kernel_rfl, by decide +kernel⟩
theorem ok__law_odd : SrcOk nfo s__law_odd := ⟨⟨by kernel_rfl, by kernel_rfl, by kernel_rfl, by decide +kernel, by decide +kernel, by decide +kernel, by decide +kernel⟩, fun _ _ _ _ _ _ us hl => match us, hl with | [_, _], _ => by kernel_rfl, by decide +kernel⟩
theorem ok__law_bent : SrcOk nfo s__law_bent := ⟨⟨by kernel_rfl, by kernel_rfl, by kernel_rfl, by decide +kernel, by decide +kernel, by decide +kernel, by decide +kernel⟩, fun _ _ _ _ _ _ us hl => match us, hl with | [_, _, _], _ => by kernel_rfl, by decide +kernel⟩
theorem ok_law : SrcOk nfo s_law := ⟨⟨by kernel_rfl, by kernel_rfl, by kernel_rfl, by decide +kernel, by decide +kernel, by decide +kernel, by decide +kernel⟩, fun _ _ _ _ _ _ us hl => match us, hl with | [_], _ => by kernel_rfl, by decide +kernel⟩
theorem oks : ∀ s ∈ srcs, SrcOk nfo s := by
  intro s hs
  simp only [srcs, List.mem_cons, List.not_mem_nil, or_false] at hs
  rcases hs with rfl | rfl | rfl | rfl | rfl | rfl | rfl | rfl | rfl | rfl | rfl | rfl | rfl | rfl | rfl | rfl | rfl | rfl | rfl | rfl | rfl | rfl | rfl | rfl | rfl | rfl | rfl | rfl | rfl | rfl
  · exact ok_is_whole
  · exact ok_is_within
  · exact ok_is_worths
  · exact ok_is_simple
  · exact ok_simples_in
  · exact ok_simples
  · exact ok_sorts_of
  · exact ok_is_sum
  · exact ok_size_of
  · exact ok_says
  · exact ok_is_number
  · exact ok_is_hold
  · exact ok_is_note_hold
  · exact ok_are_holds
  · exact ok_is_bare
  · exact ok_is_state
  · exact ok__law_hand
  · exact ok__law_take
  · exact ok__law_of
  · exact ok__law_simple
  · exact ok__law_saying
  · exact ok__law_size
  · exact ok__law_so
  · exact ok__law_hold
  · exact ok__law_state
  · exact ok__law_is_hold
  · exact ok__law_is_state
  · exact ok__law_odd
  · exact ok__law_bent
  · exact ok_law
def T : List (Str × FDef) := tabT srcs
theorem lk_is_whole : HasD T "is_whole" 1 1 PG.b_is_whole := ⟨_, (by kernel_rfl : T.lookup ("is_whole" : Str) = some s_is_whole.d), rfl, rfl, rfl⟩
theorem lk_is_within : HasD T "is_within" 3 3 PG.b_is_within := ⟨_, (by kernel_rfl : T.lookup ("is_within" : Str) = some s_is_within.d), rfl, rfl, rfl⟩
theorem lk_is_worths : HasD T "is_worths" 1 2 PG.b_is_worths := ⟨_, (by kernel_rfl : T.lookup ("is_worths" : Str) = some s_is_worths.d), rfl, rfl, rfl⟩
theorem lk_is_simple : HasD T "is_simple" 1 1 PG.b_is_simple := ⟨_, (by kernel_rfl : T.lookup ("is_simple" : Str) = some s_is_simple.d), rfl, rfl, rfl⟩
theorem lk_simples_in : HasD T "simples_in" 2 4 PG.b_simples_in := ⟨_, (by kernel_rfl : T.lookup ("simples_in" : Str) = some s_simples_in.d), rfl, rfl, rfl⟩
theorem lk_simples : HasD T "simples" 1 1 PG.b_simples := ⟨_, (by kernel_rfl : T.lookup ("simples" : Str) = some s_simples.d), rfl, rfl, rfl⟩
theorem lk_sorts_of : HasD T "sorts_of" 1 1 PQ.b_sorts_of := ⟨_, (by kernel_rfl : T.lookup ("sorts_of" : Str) = some s_sorts_of.d), rfl, rfl, rfl⟩
theorem lk_is_sum : HasD T "is_sum" 1 1 PG.b_is_sum := ⟨_, (by kernel_rfl : T.lookup ("is_sum" : Str) = some s_is_sum.d), rfl, rfl, rfl⟩
theorem lk_size_of : HasD T "size_of" 1 2 PG.b_size_of := ⟨_, (by kernel_rfl : T.lookup ("size_of" : Str) = some s_size_of.d), rfl, rfl, rfl⟩
theorem lk_says : HasD T "says" 2 2 PG.b_says := ⟨_, (by kernel_rfl : T.lookup ("says" : Str) = some s_says.d), rfl, rfl, rfl⟩
theorem lk_is_number : HasD T "is_number" 3 3 PQ.b_is_number := ⟨_, (by kernel_rfl : T.lookup ("is_number" : Str) = some s_is_number.d), rfl, rfl, rfl⟩
theorem lk_is_hold : HasD T "is_hold" 2 5 PQ.b_is_hold := ⟨_, (by kernel_rfl : T.lookup ("is_hold" : Str) = some s_is_hold.d), rfl, rfl, rfl⟩
theorem lk_is_note_hold : HasD T "is_note_hold" 2 2 PQ.b_is_note_hold := ⟨_, (by kernel_rfl : T.lookup ("is_note_hold" : Str) = some s_is_note_hold.d), rfl, rfl, rfl⟩
theorem lk_are_holds : HasD T "are_holds" 3 6 PQ.b_are_holds := ⟨_, (by kernel_rfl : T.lookup ("are_holds" : Str) = some s_are_holds.d), rfl, rfl, rfl⟩
theorem lk_is_bare : HasD T "is_bare" 1 2 PG.b_is_bare := ⟨_, (by kernel_rfl : T.lookup ("is_bare" : Str) = some s_is_bare.d), rfl, rfl, rfl⟩
theorem lk_is_state : HasD T "is_state" 2 2 PQ.b_is_state := ⟨_, (by kernel_rfl : T.lookup ("is_state" : Str) = some s_is_state.d), rfl, rfl, rfl⟩
theorem lk__law_hand : HasD T "_law_hand" 2 4 LZ.b__law_hand := ⟨_, (by kernel_rfl : T.lookup ("_law_hand" : Str) = some s__law_hand.d), rfl, rfl, rfl⟩
theorem lk__law_take : HasD T "_law_take" 2 6 LZ.b__law_take := ⟨_, (by kernel_rfl : T.lookup ("_law_take" : Str) = some s__law_take.d), rfl, rfl, rfl⟩
theorem lk__law_of : HasD T "_law_of" 2 2 LZ.b__law_of := ⟨_, (by kernel_rfl : T.lookup ("_law_of" : Str) = some s__law_of.d), rfl, rfl, rfl⟩
theorem lk__law_simple : HasD T "_law_simple" 2 7 LZ.b__law_simple := ⟨_, (by kernel_rfl : T.lookup ("_law_simple" : Str) = some s__law_simple.d), rfl, rfl, rfl⟩
theorem lk__law_saying : HasD T "_law_saying" 4 7 LZ.b__law_saying := ⟨_, (by kernel_rfl : T.lookup ("_law_saying" : Str) = some s__law_saying.d), rfl, rfl, rfl⟩
theorem lk__law_size : HasD T "_law_size" 1 2 b__law_size := ⟨_, (by kernel_rfl : T.lookup ("_law_size" : Str) = some s__law_size.d), rfl, rfl, rfl⟩
theorem call__law_size (k : Nat) (vs : List PV) (M : Sto) (Q : Q1) : callN T (k + 1) "_law_size" vs M Q ↔ (vs.length = 1 ∧ wpSs (callN T k) b__law_size (startN 2 vs) M (fnEnds Q)) := callN_has lk__law_size
theorem lk__law_so : HasD T "_law_so" 2 2 b__law_so := ⟨_, (by kernel_rfl : T.lookup ("_law_so" : Str) = some s__law_so.d), rfl, rfl, rfl⟩
theorem call__law_so (k : Nat) (vs : List PV) (M : Sto) (Q : Q1) : callN T (k + 1) "_law_so" vs M Q ↔ (vs.length = 2 ∧ wpSs (callN T k) b__law_so (startN 2 vs) M (fnEnds Q)) := callN_has lk__law_so
theorem lk__law_hold : HasD T "_law_hold" 3 10 b__law_hold := ⟨_, (by kernel_rfl : T.lookup ("_law_hold" : Str) = some s__law_hold.d), rfl, rfl, rfl⟩
theorem call__law_hold (k : Nat) (vs : List PV) (M : Sto) (Q : Q1) : callN T (k + 1) "_law_hold" vs M Q ↔ (vs.length = 3 ∧ wpSs (callN T k) b__law_hold (startN 10 vs) M (fnEnds Q)) := callN_has lk__law_hold
theorem lk__law_state : HasD T "_law_state" 3 7 b__law_state := ⟨_, (by kernel_rfl : T.lookup ("_law_state" : Str) = some s__law_state.d), rfl, rfl, rfl⟩
theorem call__law_state (k : Nat) (vs : List PV) (M : Sto) (Q : Q1) : callN T (k + 1) "_law_state" vs M Q ↔ (vs.length = 3 ∧ wpSs (callN T k) b__law_state (startN 7 vs) M (fnEnds Q)) := callN_has lk__law_state
theorem lk__law_is_hold : HasD T "_law_is_hold" 3 4 b__law_is_hold := ⟨_, (by kernel_rfl : T.lookup ("_law_is_hold" : Str) = some s__law_is_hold.d), rfl, rfl, rfl⟩
theorem call__law_is_hold (k : Nat) (vs : List PV) (M : Sto) (Q : Q1) : callN T (k + 1) "_law_is_hold" vs M Q ↔ (vs.length = 3 ∧ wpSs (callN T k) b__law_is_hold (startN 4 vs) M (fnEnds Q)) := callN_has lk__law_is_hold
theorem lk__law_is_state : HasD T "_law_is_state" 3 6 b__law_is_state := ⟨_, (by kernel_rfl : T.lookup ("_law_is_state" : Str) = some s__law_is_state.d), rfl, rfl, rfl⟩
theorem call__law_is_state (k : Nat) (vs : List PV) (M : Sto) (Q : Q1) : callN T (k + 1) "_law_is_state" vs M Q ↔ (vs.length = 3 ∧ wpSs (callN T k) b__law_is_state (startN 6 vs) M (fnEnds Q)) := callN_has lk__law_is_state
theorem lk__law_odd : HasD T "_law_odd" 2 5 b__law_odd := ⟨_, (by kernel_rfl : T.lookup ("_law_odd" : Str) = some s__law_odd.d), rfl, rfl, rfl⟩
theorem call__law_odd (k : Nat) (vs : List PV) (M : Sto) (Q : Q1) : callN T (k + 1) "_law_odd" vs M Q ↔ (vs.length = 2 ∧ wpSs (callN T k) b__law_odd (startN 5 vs) M (fnEnds Q)) := callN_has lk__law_odd
theorem lk__law_bent : HasD T "_law_bent" 3 7 b__law_bent := ⟨_, (by kernel_rfl : T.lookup ("_law_bent" : Str) = some s__law_bent.d), rfl, rfl, rfl⟩
theorem call__law_bent (k : Nat) (vs : List PV) (M : Sto) (Q : Q1) : callN T (k + 1) "_law_bent" vs M Q ↔ (vs.length = 3 ∧ wpSs (callN T k) b__law_bent (startN 7 vs) M (fnEnds Q)) := callN_has lk__law_bent
theorem lk_law : HasD T "law" 1 15 b_law := ⟨_, (by kernel_rfl : T.lookup ("law" : Str) = some s_law.d), rfl, rfl, rfl⟩
theorem call_law (k : Nat) (vs : List PV) (M : Sto) (Q : Q1) : callN T (k + 1) "law" vs M Q ↔ (vs.length = 1 ∧ wpSs (callN T k) b_law (startN 15 vs) M (fnEnds Q)) := callN_has lk_law
instance : PG.H_is_whole T := { lk_is_whole := lk_is_whole }
instance : PG.H_is_within T := { lk_is_whole := lk_is_whole, lk_is_within := lk_is_within }
instance : PG.H_is_worths T := { lk_is_whole := lk_is_whole, lk_is_within := lk_is_within, lk_is_worths := lk_is_worths }
instance : PG.H_is_simple T := { lk_is_whole := lk_is_whole, lk_is_within := lk_is_within, lk_is_worths := lk_is_worths, lk_is_simple := lk_is_simple }
instance : PG.H_simples_in T := { lk_is_whole := lk_is_whole, lk_is_within := lk_is_within, lk_is_worths := lk_is_worths, lk_is_simple := lk_is_simple, lk_simples_in := lk_simples_in }
instance : PG.H_simples T := { lk_is_whole := lk_is_whole, lk_is_within := lk_is_within, lk_is_worths := lk_is_worths, lk_is_simple := lk_is_simple, lk_simples_in := lk_simples_in, lk_simples := lk_simples }
instance : PQ.H_sorts_of T := { lk_is_whole := lk_is_whole, lk_is_within := lk_is_within, lk_is_worths := lk_is_worths, lk_is_simple := lk_is_simple, lk_simples_in := lk_simples_in, lk_simples := lk_simples, lk_sorts_of := lk_sorts_of }
instance : PG.H_is_sum T := { lk_is_sum := lk_is_sum }
instance : PG.H_size_of T := { lk_is_sum := lk_is_sum, lk_size_of := lk_size_of }
instance : PG.H_says T := { lk_is_sum := lk_is_sum, lk_says := lk_says }
instance : PQ.H_is_number T := { lk_is_sum := lk_is_sum, lk_size_of := lk_size_of, lk_is_number := lk_is_number }
instance : PQ.H_is_hold T := { lk_is_sum := lk_is_sum, lk_size_of := lk_size_of, lk_is_number := lk_is_number, lk_is_whole := lk_is_whole, lk_says := lk_says, lk_is_hold := lk_is_hold }
instance : PQ.H_is_note_hold T := { lk_is_sum := lk_is_sum, lk_size_of := lk_size_of, lk_is_number := lk_is_number, lk_is_whole := lk_is_whole, lk_is_note_hold := lk_is_note_hold }
instance : PQ.H_are_holds T := { lk_is_whole := lk_is_whole, lk_is_within := lk_is_within, lk_is_worths := lk_is_worths, lk_is_simple := lk_is_simple, lk_simples_in := lk_simples_in, lk_simples := lk_simples, lk_are_holds := lk_are_holds }
instance : PG.H_is_bare T := { lk_is_bare := lk_is_bare }
instance : PQ.H_is_state T := { lk_is_whole := lk_is_whole, lk_is_within := lk_is_within, lk_is_worths := lk_is_worths, lk_is_simple := lk_is_simple, lk_simples_in := lk_simples_in, lk_simples := lk_simples, lk_are_holds := lk_are_holds, lk_is_bare := lk_is_bare, lk_is_sum := lk_is_sum, lk_size_of := lk_size_of, lk_is_number := lk_is_number, lk_says := lk_says, lk_is_hold := lk_is_hold, lk_is_note_hold := lk_is_note_hold, lk_sorts_of := lk_sorts_of, lk_is_state := lk_is_state }
instance : LZ.H__law_hand T := { lk__law_hand := lk__law_hand }
instance : LZ.H__law_take T := { lk__law_take := lk__law_take }
instance : LZ.H__law_of T := { lk__law_take := lk__law_take, lk__law_of := lk__law_of }
instance : LZ.H__law_simple T := { lk__law_take := lk__law_take, lk__law_of := lk__law_of, lk__law_simple := lk__law_simple }
instance : LZ.H__law_saying T := { lk__law_take := lk__law_take, lk__law_saying := lk__law_saying }
def loose0 : List Str := ["__name__", "MOST_SORTS", "MOST_WORTH", "MOST_BOUND", "MOST_PARTS", "MOST_DEPTH", "SUM_PARTS", "REST_PARTS", "TWO_PARTS", "is_whole", "is_within", "is_worths", "is_simple", "simples_in", "simples", "sorts_of", "is_sum", "size_of", "says", "is_number", "MEMBER", "NOTE", "MEMBER_PARTS", "NOTE_PARTS", "BARE", "is_hold", "is_note_hold", "are_holds", "is_bare", "is_state"]
def loose1 : List Str := ["_law_hand", "_law_take", "_law_of", "_law_simple", "_law_saying", "_law_size", "_law_so", "_law_hold", "_law_state", "_law_is_hold", "_law_is_state", "_law_odd", "_law_bent"]
def loose : List Str := loose0 ++ loose1
def lawAt : Nat := 46
end Zk06
/-! small things that many laws want -/
namespace TD
open PySem SG SY LA PQ
open PG (Good)
theorem at0_sm (s : Sm) (M : Sto) (Q : Q1) : ixS s.pv (.int 0) M Q ↔ Q (.str (headW s)) M := rest_at s M Q
theorem hw2 (s : Sm) : headW s = Str.ofString "sum" ∨ headW s = Str.ofString "rest" := by
  cases s with
  | sum ws c => exact .inl rfl
  | rest ws r m => exact .inr rfl
theorem d_hn (s : Sm) : decide (headW s = Str.ofString "not") = false := by rcases hw2 s with e | e <;> rw [e] <;> decide +kernel
theorem in_ao (x : Str) (M : Sto) (Q : Q1) : cmpS .isin (.str x) (.tup [.str "and", .str "or"]) M Q ↔ PyData.strOk x = true ∧ Q (.bl (decide (x = Str.ofString "and") || decide (x = Str.ofString "or"))) M := by
  have a1 : PyData.strOk (Str.ofString "and") = true := by decide +kernel
  have a2 : PyData.strOk (Str.ofString "or") = true := by decide +kernel
  have e : ([PV.str (Str.ofString "and"), PV.str (Str.ofString "or")].any fun z => PV.eqb z (.str x)) = (decide (x = Str.ofString "and") || decide (x = Str.ofString "or")) := by
    simp only [List.any_cons, List.any_nil, PV.eqb, Bool.or_false]
    rw [Bool.eq_iff_iff]
    simp only [Bool.or_eq_true, beq_iff_eq, decide_eq_true_eq]
    constructor
    · rintro (h | h)
      · exact .inl h.symm
      · exact .inr h.symm
    · rintro (h | h)
      · exact .inl h.symm
      · exact .inr h.symm
  unfold cmpS inS
  constructor
  · rintro ⟨ys, e1, p1, q⟩
    cases e1
    simp only [Bool.false_eq_true, if_false] at q
    rw [← e]
    rcases p1 with ⟨p1, _⟩ | ⟨p1, _⟩
    · exact ⟨by simpa [PV.pl] using p1, q⟩
    · exact ⟨by simpa [PV.ple] using p1, q⟩
  · rintro ⟨h, q⟩
    refine ⟨_, rfl, .inl ⟨by simpa [PV.pl] using h, by simp [PV.pls, PV.pl, a1, a2], .inl (by simp [PV.dep])⟩, ?_⟩
    simp only [Bool.false_eq_true, if_false]
    rw [e]
    exact q
theorem sok_hd (s : Sm) : PyData.strOk (headW s) = true := by rcases hw2 s with e | e <;> rw [e] <;> decide +kernel
theorem d_ao (s : Sm) : (decide (headW s = Str.ofString "and") || decide (headW s = Str.ofString "or")) = false := by
  rcases hw2 s with e | e <;> rw [e] <;> decide +kernel
theorem idx_sm {ss : List Sm} (nd : ss.Nodup) {s : Sm} (h : s ∈ ss) : ∃ j, (ss.map Sm.pv).findIdx? (fun z => PV.eqb z s.pv) = some j ∧ ss[j]? = some s := by
  have : (ss.map Sm.pv).findIdx? (fun z => PV.eqb z s.pv) = ss.findIdx? fun t => decide (t = s) := by
    rw [List.findIdx?_map]
    congr 1
    funext t
    simp [Function.comp, eqb_sm]
  rw [this]
  have h2 : (ss.findIdx? fun t => decide (t = s)).isSome = true := by
    rw [List.findIdx?_isSome]
    exact List.any_eq_true.mpr ⟨s, h, by simp⟩
  obtain ⟨j, hj⟩ := Option.isSome_iff_exists.mp h2
  obtain ⟨hl, h3, _⟩ := List.findIdx?_eq_some_iff_getElem.mp hj
  refine ⟨j, hj, ?_⟩
  have : ss[j] = s := by simpa using h3
  rw [List.getElem?_eq_getElem hl, this]
theorem at_last (xs : List PV) (v : PV) : L2.atI (xs ++ [v]) (-1) = some v := by
  unfold L2.atI L2.ixN
  simp
  rw [if_pos (by omega)]
  have : (-1 + ((xs.length : Int) + 1)).toNat = xs.length := by omega
  simp [this]
theorem sm_at1 (s : Sm) (M : Sto) (Q : Q1) : ixS s.pv (.int 1) M Q ↔ Q (.tup (s.ws.map .int)) M := by cases s <;> simp_arith [Sm.pv, Sm.ws]
def bd : Sm → Int
  | .sum _ c => c
  | .rest _ r _ => r
theorem sm_at2 (s : Sm) (M : Sto) (Q : Q1) : ixS s.pv (.int 2) M Q ↔ Q (.int (bd s)) M := by cases s <;> simp_arith [Sm.pv, bd]
theorem hd_r (s : Sm) : decide (headW s = Str.ofString "rest") = !s.isSum := by
  cases s with
  | sum ws c => exact d_sr
  | rest ws r m => exact decide_eq_true rfl
theorem eqbs_nil (xs : List PV) : PV.eqbs xs [] = xs.isEmpty := by cases xs <;> rfl
theorem lt_int (i j : Int) : PySem.W.dataLt (PV.int i).dat (PV.int j).dat = decide (i < j) := by simp [PV.dat, PySem.W.dataLt, PySem.W.keyToks, PyProof.Rows.lexLt, PyProof.Rows.itemOrd, PyProof.Rows.itemLt]
theorem psort3 {a b c : Int} (h : a ≤ c) : ∃ x y, psort [.int a, .int b, .int c] = [.int x, .int (if b < a then a else if c < b then c else b), .int y] := by
  unfold psort
  have e : [PV.int a, PV.int b, PV.int c] = [a, b, c].map PV.int := rfl
  rw [e, ← List.map_mergeSort (f := PV.int) (r := fun i j : Int => decide (i ≤ j)) (s := fun a b => !PySem.W.dataLt b.dat a.dat) (fun i _ j _ => by rw [lt_int, Bool.eq_iff_iff]; simp)]
  have key : ∀ l : List Int, l.Perm [a, b, c] → l.Pairwise (fun i j => i ≤ j) → [a, b, c].mergeSort (fun i j => decide (i ≤ j)) = l := fun l p w => by
    have p2 := (List.mergeSort_perm [a, b, c] fun i j => decide (i ≤ j)).trans p.symm
    refine p2.eq_of_pairwise (le := fun i j : Int => i ≤ j) (fun i j _ _ h1 h2 => by omega) ?_ w
    have := List.pairwise_mergeSort (le := fun i j : Int => decide (i ≤ j)) (fun i j k h1 h2 => by simp at *; omega) (fun i j => by simp; omega) [a, b, c]
    exact this.imp fun h => by simpa using h
  by_cases h1 : b < a
  · rw [key [b, a, c] (List.Perm.swap _ _ _) (by simp; omega)]
    exact ⟨b, c, by simp [h1]⟩
  · by_cases h2 : c < b
    · rw [key [a, c, b] (List.Perm.cons _ (List.Perm.swap _ _ _)) (by simp; omega)]
      exact ⟨a, b, by simp [h1, h2]⟩
    · rw [key [a, b, c] (List.Perm.refl _) (by simp; omega)]
      exact ⟨a, c, by simp [h1, h2]⟩
theorem good1 {s : Sm} (g : s.Ok) : Good (.one s) := ⟨fun t ht => by simp only [Sy.sms, List.mem_singleton] at ht; rw [ht]; exact g, by simp [Sy.dep], by simp [Sy.sms]⟩
theorem rep_int {i : Int} (h : -(10 ^ 40) ≤ i ∧ i ≤ 10 ^ 40) : repOk (.int i) := repB (by simp only [PV.sb, decide_eq_true_eq]; omega) (by simp [PV.dep]) (by simp [PV.wb])
theorem rep_ib {i : Int} (b : Bool) (h : -(10 ^ 40) ≤ i ∧ i ≤ 10 ^ 40) : repOk (.lst [.int i, .bl b]) := by
  have e : PV.sb (.int i) = true := by simp only [PV.sb, decide_eq_true_eq]; omega
  refine repB (by simp [PV.sb, PV.sbs] at e ⊢; exact e) (by simp [PV.dep, PV.deps]) (by simp [PV.wb, PV.wbs])
theorem hd_s (s : Sm) : decide (headW s = Str.ofString "sum") = s.isSum := by
  cases s with
  | sum ws c => exact decide_eq_true rfl
  | rest ws r m => exact PG.d_rs
theorem bd_le {s : Sm} (g : s.Ok) : -20 ≤ bd s ∧ bd s ≤ 20 := by
  cases s with
  | sum ws c => exact ⟨g.2.1, g.2.2⟩
  | rest ws r m => obtain ⟨_, g1, g2, g3, g4⟩ := g; simp only [bd]; omega
theorem mulT0 {m : Nat} (h1 : 1 ≤ m) (h2 : m ≤ 1000) (M : Sto) (Q : Q1) : binS .mul (.tup [.int 0]) (.int (m : Int)) M Q ↔ Q (.tup ((List.replicate m (0 : Int)).map .int)) M := by
  have : (List.replicate (m : Int).toNat [PV.int 0]).flatten = (List.replicate m (0 : Int)).map .int := by
    rw [Int.toNat_natCast]
    generalize m = n
    induction n with
    | zero => rfl
    | succ n ih => rw [List.replicate_succ, List.flatten_cons, ih, List.replicate_succ]; rfl
  constructor
  · rintro ⟨_, _, _, _, q⟩
    rw [this] at q; exact q
  · intro q
    exact ⟨by omega, by omega, by simp, by simp, by rw [this]; exact q⟩
/-- a while loop by an invariant and a measure -/
theorem while_cps {turn : Rho → Sto → (Rho → Sto → Prop) → Prop} (I : Nat → Rho → Sto → Prop) (h : ∀ m ρ M k, I m ρ M → (∀ m' ρ' M', m' < m → I m' ρ' M' → k ρ' M') → turn ρ M k) (m : Nat) (ρ : Rho) (M : Sto) (hi : I m ρ M) : ∃ n, whileN turn n ρ M := by
  have key : ∀ (N m : Nat) (ρ : Rho) (M : Sto), m ≤ N → I m ρ M → whileN turn (N + 1) ρ M := by
    intro N
    induction N with
    | zero =>
      intro m ρ M hm hi
      unfold whileN
      exact h m ρ M _ hi fun m' ρ' M' hl _ => by omega
    | succ N ih =>
      intro m ρ M hm hi
      unfold whileN
      exact h m ρ M _ hi fun m' ρ' M' hl hi' => ih m' ρ' M' (by omega) hi'
  exact ⟨m + 1, key m m ρ M (Nat.le_refl _) hi⟩
end TD
namespace Zk06
open PySem SG SY LZ TD AN
open LA (Le d_sr)
open PG (Good)
theorem lsize (k : Nat) {s : Sm} (g : s.Ok) (M : Sto) (Q : Q1) : callN T (k + 1) "_law_size" [s.pv] M Q ↔ Q (.int s.size) M := by
  rw [call__law_size]
  cases s with
  | rest ws r m => simp_arith [b__law_size, Sm.pv, Sm.size]
  | sum ws c =>
    have wk := g.1
    simp_arith [b__law_size, Sm.pv, d_sr]
    rw [compL_map (f := PV.int) (g := fun w => .int (absI w)) ws []]
    · have l6 := wk.l6
      have l1 : ws.length ≤ sizeLine := PG.sl6 (by omega)
      have l2 : ws.length + 1 ≤ sizeLine := PG.sl6 (by omega)
      have ei : PV.ints (ws.map (fun w => PV.int (absI w)) ++ [PV.int ((if c < 0 then -c else c) + 1)]) = some (ws.map absI ++ [absI c + 1]) := by
        have := ints_map (fun w : Int => w) (ws.map absI ++ [absI c + 1])
        rw [List.map_append, List.map_map, List.map_id'] at this
        exact this
      have key : ∀ n ns, ws.map absI ++ [absI c + 1] = n :: ns → mxA (absI c + 1) ws = maxI n ns := fun n ns e => by
        have h := mx_ge n ns
        have hm := maxI_mem n ns
        have mem : ∀ x, x ∈ ws.map absI ++ [absI c + 1] → x ≤ maxI n ns := fun x hx => by
          rw [e] at hx
          rcases List.mem_cons.mp hx with q | q
          · rw [q]; exact h.1
          · exact h.2 x q
        refine mxA_eq (mem _ (by simp)) (fun w hw => mem _ (List.mem_append_left _ (List.mem_map.mpr ⟨w, hw, rfl⟩))) ?_
        have : maxI n ns ∈ ws.map absI ++ [absI c + 1] := by
          rw [e]
          rcases hm with q | q
          · rw [q]; exact List.mem_cons_self
          · exact List.mem_cons_of_mem _ q
        rcases List.mem_append.mp this with q | q
        · obtain ⟨w, hw, e⟩ := List.mem_map.mp q
          exact .inr ⟨w, hw, e.symm⟩
        · exact .inl (List.mem_singleton.mp q)
      simp_arith [b_max1, List.length_map, l1, l2, ei, Sm.size]
      cases e : ws.map absI ++ [absI c + 1] with
      | nil => simp at e
      | cons n ns =>
        rw [key n ns e]
        constructor
        · rintro ⟨n', ns', e', q⟩
          cases e'
          exact q
        · intro q
          exact ⟨n, ns, rfl, q⟩
    · intro w _ c
      simp_arith [absI]

theorem lso (k : Nat) (s : Sm) (n : Int) (M : Sto) (Q : Q1) : callN T (k + 1) "_law_so" [s.pv, .int n] M Q ↔ Q (.bl (s.says n)) M := by
  rw [call__law_so]
  cases s with
  | sum ws c => simp_arith [b__law_so, Sm.pv, d_sr, Sm.says]
  | rest ws r m => simp_arith [b__law_so, Sm.pv, Sm.says]
theorem d_rs' : decide ((Str.ofString "rest") = Str.ofString "sum") = false := by decide +kernel
theorem hw_sum (s : Sm) : decide (LA.headW s = Str.ofString "sum") = s.isSum := by
  cases s with
  | sum => simp [LA.headW, Sm.isSum]
  | rest => exact d_rs'
theorem hw_rest (s : Sm) : decide (LA.headW s = Str.ofString "rest") = !s.isSum := by
  cases s with
  | sum => exact d_sr
  | rest => simp [LA.headW, Sm.isSum]
theorem num_s {s : Sm} (e : s.isSum = true) (n t : Int) : numB s n t = (decide (0 - s.size * t ≤ n) && decide (n ≤ s.size * t)) := by
  unfold numB
  rw [if_pos e, Bool.eq_iff_iff, Bool.and_eq_true, decide_eq_true_eq, decide_eq_true_eq, decide_eq_true_eq, Int.mul_comm t s.size]
  constructor
  · intro h; split at h <;> omega
  · intro h; split <;> omega
theorem num_r {s : Sm} (e : s.isSum = false) (n t : Int) : numB s n t = (decide (0 ≤ n) && decide (n ≤ s.size)) := by
  unfold numB
  rw [if_neg (by rw [e]; decide)]
theorem fin2 (a b c : Bool) (Q : Bool → Prop) : (if a = true then if (!b) = true then Q false else Q c else Q false) ↔ Q ((a && b) && c) := by
  cases a <;> cases b <;> simp
theorem size_log {s : Sm} (g : s.Ok) : s.size.natAbs.log2 < 64 := by
  have := SY.Sm.Ok.size g
  exact LA.log_lt (k := 64) (by omega) (by decide)
/-- what a look at a hold tells -/
def lookB (nt : Bool) (s : Sm) (v : PV) : Bool := if nt = true then noteB s v else holdB s v
theorem lis_hold (k : Nat) {s : Sm} (g : s.Ok) (nt : Bool) {v : PV} (hv : v.ple = true) (M : Sto) (Q : Q1) : callN T (k + 2) "_law_is_hold" [s.pv, v, .bl nt] M Q ↔ Q (.bl (lookB nt s v)) M := by
  rw [call__law_is_hold]
  cases v with
  | ref _ => unfold PV.ple at hv; cases hv
  | fn _ => unfold PV.ple at hv; cases hv
  | tup xs =>
    have hx := ple_tup hv
    match xs, hx with
    | [], _ => cases nt <;> simp_arith [b__law_is_hold, lookB, noteB, holdB, Int.reduceSub]
    | [_], _ => cases nt <;> simp_arith [b__law_is_hold, lookB, noteB, holdB, Int.reduceSub]
    | x :: y :: z :: u :: r, _ =>
      have e : ¬ ((r.length + 1 + 1 + 1 + 1 : Nat) : Int) = 3 := by omega
      have e' : ¬ ((r.length + 1 + 1 + 1 + 1 : Nat) : Int) = 2 := by omega
      cases nt <;> simp_arith [b__law_is_hold, lookB, noteB, holdB, e, e', Int.reduceSub]
    | [x, y], hx =>
      obtain ⟨p1, hx⟩ := ples_cons hx
      obtain ⟨p2, _⟩ := ples_cons hx
      cases nt with
      | false => simp_arith [b__law_is_hold, lookB, holdB, Int.reduceSub]
      | true =>
        cases x with
        | bl l =>
          cases y with
          | int n =>
            simp_arith [b__law_is_hold, lookB, noteB, Int.reduceSub, lsize k g, size_log g, at0_sm, true_or]
            cases e : s.isSum with
            | true =>
              rw [num_s e]
              simp_arith [hw_sum, hw_rest, e, size_log g, true_or]
              cases decide (0 - s.size * 2 ≤ n) <;> cases decide (n ≤ s.size * 2) <;> simp
            | false =>
              rw [num_r e]
              simp_arith [hw_sum, hw_rest, e, size_log g, true_or, Int.mul_one]
              cases decide (0 ≤ n) <;> cases decide (n ≤ s.size) <;> simp
          | _ => simp_arith [b__law_is_hold, lookB, noteB, Int.reduceSub, isi_any p2, isA]
        | _ => simp_arith [b__law_is_hold, lookB, noteB, Int.reduceSub, isi_any p1, isA]
    | [x, y, z], hx =>
      obtain ⟨p1, hx⟩ := ples_cons hx
      obtain ⟨p2, hx⟩ := ples_cons hx
      obtain ⟨p3, _⟩ := ples_cons hx
      cases nt with
      | true => simp_arith [b__law_is_hold, lookB, noteB, Int.reduceSub]
      | false =>
        cases x with
        | bl l =>
          cases y with
          | int n =>
            cases z with
            | bl w =>
              simp_arith [b__law_is_hold, lookB, holdB, Int.reduceSub, lsize k g, size_log g, at0_sm, true_or, lso, eq_bl]
              cases e : s.isSum with
              | true =>
                rw [num_s e]
                simp_arith [hw_sum, hw_rest, e]
                cases decide (0 - s.size * 1 ≤ n) <;> cases decide (n ≤ s.size * 1) <;> cases l <;> simp
              | false =>
                rw [num_r e]
                simp_arith [hw_sum, hw_rest, e, Int.mul_one]
                cases decide (0 ≤ n) <;> cases decide (n ≤ s.size) <;> cases l <;> simp
            | _ =>
              simp_arith [b__law_is_hold, lookB, holdB, Int.reduceSub, lsize k g, size_log g, at0_sm, true_or, isi_any p3, isA]
              cases e : s.isSum with
              | true =>
                simp_arith [hw_sum, hw_rest, e]
                cases decide (0 - s.size * 1 ≤ n) <;> cases decide (n ≤ s.size * 1) <;> simp
              | false =>
                simp_arith [hw_sum, hw_rest, e, Int.mul_one]
                cases decide (0 ≤ n) <;> cases decide (n ≤ s.size) <;> simp
          | _ => simp_arith [b__law_is_hold, lookB, holdB, Int.reduceSub, isi_any p2, isA]
        | _ => simp_arith [b__law_is_hold, lookB, holdB, Int.reduceSub, isi_any p1, isA]
  | _ => cases nt <;> simp_arith [b__law_is_hold, lookB, noteB, holdB, isi_any hv, isA]
end Zk06
namespace Zk06
open PySem SG SY LZ TD AN
open LA (Le d_sr)
open PG (Good)
theorem th_of {x : PV} {B d w : Nat} (h : (okB B x && decide (x.dep ≤ d) && decide (LA.PV.wb x ≤ w)) = true) : Th B d w x := by
  rw [Bool.and_eq_true, Bool.and_eq_true, decide_eq_true_eq, decide_eq_true_eq] at h
  exact ⟨h.1.1, h.1.2, h.2⟩
def odds : List PV := [.non, .bl true, .bl false, .int 0, .int (-1), .int 1, .str "", .str "member", .str "note", .str "state", .tup [], .lst [], .emp, .tup [.bl false, .int 0], .tup [.bl true, .int 0]]
theorem odds_th : ∀ x ∈ odds, Th 1 1 220 x := fun x hx => th_of (List.all_eq_true.mp (show (odds.all fun x => okB 1 x && decide (x.dep ≤ 1) && decide (LA.PV.wb x ≤ 220)) = true by decide +kernel) x hx)
theorem oddb_th (b : Bool) : ∀ x ∈ [PV.bl (!b), .bl (!b), .bl (!b), .int (if b = true then 1 else 0), .non, .str (if b = true then "True" else "False")], Th 1 1 220 x := fun x hx =>
  th_of (List.all_eq_true.mp (show (([PV.bl (!b), .bl (!b), .bl (!b), .int (if b = true then 1 else 0), .non, .str (if b = true then "True" else "False")]).all fun x => okB 1 x && decide (x.dep ≤ 1) && decide (LA.PV.wb x ≤ 220)) = true by cases b <;> decide +kernel) x hx)
theorem oddi_th {B : Nat} {i : Int} (h : i.natAbs ≤ B) (hB : B < 10 ^ 20) : ∀ x ∈ [PV.int (i + 1), .int (i - 1), .int (i + 1), .int (i - 1), .int (0 - i), .int (i * 2), .str (Str.ofString (toString i))], Th (2 * B + 1) 1 220 x := fun x hx => by
  simp only [List.mem_cons, List.not_mem_nil, or_false] at hx
  rcases hx with rfl | rfl | rfl | rfl | rfl | rfl | rfl
  · exact th_int (by omega) (by decide)
  · exact th_int (by omega) (by decide)
  · exact th_int (by omega) (by decide)
  · exact th_int (by omega) (by decide)
  · exact th_int (by omega) (by decide)
  · exact th_int (by omega) (by decide)
  · exact th_str _ (Nat.le_trans (int_text_length_le10 (k := 20) (by decide) (by omega)) (by decide))
theorem b_str_int (i : Int) (M : Sto) (Q : Q1) : bltS .str [.int i] M Q ↔ i.natAbs.log2 < 1920 ∧ Q (.str (toString i)) M := Iff.rfl
theorem b_str_bl (b : Bool) (M : Sto) (Q : Q1) : bltS .str [.bl b] M Q ↔ Q (.str (if b = true then "True" else "False")) M := Iff.rfl
theorem lodd (k : Nat) {h : Addr} {n : Int} {B d w : Nat} {v : PV} {M : Sto} {Q : Q1} (hm : Hand M h n) (hB : B < 10 ^ 20) (tv : Th B d w v) (hn : n < 2 ^ 38)
    (q : ∀ u M', Th (2 * B + 1) 9 236 u → Stp h M M' (n + 10) → Q u M') : callN T (k + 3) "_law_odd" [.ref h, v] M Q := by
  have tail : ∀ xs : List PV, xs ≠ [] → xs.length < 1000 → (∀ x ∈ xs, Th (2 * B + 1) 1 220 x) → wpSs (callN T (k + 2)) (b__law_odd.drop 2) [some (.ref h), some v, some (.lst xs), none, none] M (fnEnds Q) := fun xs x0 x1 hx => by
    simp_arith [b__law_odd, List.drop]
    refine w_of k hm x0 x1 (by omega) fun u M1 hu s1 => ?_
    have tu := hx u hu
    simp_arith []
    refine w_ofI k (fun i => 0 ≤ i ∧ i ≤ 8) s1.hd (by simp) (by simp) (by omega) (fun x hx => ?_) fun m M2 hm2 s2 => ?_
    · simp only [List.mem_cons, List.not_mem_nil, or_false] at hx
      rcases hx with rfl | rfl | rfl | rfl | rfl | rfl | rfl <;> exact ⟨_, rfl, by decide, by decide⟩
    have s2 := s1.trans s2
    obtain ⟨m, rfl⟩ := Int.eq_ofNat_of_zero_le hm2.1
    simp_arith []
    refine ⟨by omega, by omega, ?_⟩
    refine forL_cps (fun i ρ M' => (∃ u x4, ρ = [some (.ref h), some v, some (.lst xs), some u, x4] ∧ Th (2 * B + 1) (1 + i) (220 + 2 * i) u) ∧ Stp h M M' (n + 2 + i)) _ 0 _ M2 ⟨⟨u, _, rfl, tu⟩, s2.up (by omega)⟩ ?_ (fun _ _ _ _ => trivial) ?_
    · rintro i x ρ M3 c hx ⟨⟨u, x4, rfl, tu⟩, st⟩ hc
      obtain ⟨rfl, hlt⟩ := rng0_get hx
      rw [Nat.zero_add] at tu st
      simp_arith [b__law_odd_L7]
      refine w_of k st.hd (by simp) (by simp) (by omega) fun y M4 hy s4 => ?_
      simp_arith []
      have ty : Th (2 * B + 1) (1 + i + 1) (220 + 2 * i + 2) y := by
        simp only [List.mem_cons, List.not_mem_nil, or_false] at hy
        rcases hy with rfl | rfl | rfl
        · exact (Ths.one tu).tup.up (Nat.le_refl _) (Nat.le_refl _) (by omega)
        · exact (Ths.one tu).lst.up (Nat.le_refl _) (Nat.le_refl _) (by omega)
        · exact (Ths.cons tu (Ths.one (w := 0) (th_bl false))).tup.up (Nat.le_refl _) (Nat.le_refl _) (by omega)
      exact hc _ M4 ⟨⟨y, _, rfl, ty.up (Nat.le_refl _) (by omega) (by omega)⟩, (st.trans s4).up (by omega)⟩
    · rintro ρ M3 ⟨⟨u, x4, rfl, tu⟩, st⟩
      rw [rng_len, Nat.zero_add] at tu st
      simp_arith []
      exact q u M3 (tu.up (Nat.le_refl _) (by omega) (by omega)) (st.up (by omega))
  simp only [b__law_odd, List.drop] at tail
  rw [call__law_odd]
  have o0 := tail odds (by simp [odds]) (by simp [odds]) fun x hx => (odds_th x hx).up (by omega) (Nat.le_refl _) (Nat.le_refl _)
  cases v with
  | ref _ => have := tv.ok; rw [okB] at this; cases this
  | fn _ => have := tv.ok; rw [okB] at this; cases this
  | bl b =>
    have o1 := tail _ (by simp) (by simp) fun x hx => (oddb_th b x hx).up (by omega) (Nat.le_refl _) (Nat.le_refl _)
    simp_arith [b__law_odd, b_str_bl] at o1 ⊢
    exact o1
  | int i =>
    have hi : i.natAbs ≤ B := by have := tv.ok; rw [okB, decide_eq_true_eq] at this; exact this
    have hl : i.natAbs.log2 < 1920 := Nat.lt_trans (LA.log_lt (k := 70) (by omega) (by decide)) (by decide)
    have o2 := tail (odds ++ [PV.int (i + 1), .int (i - 1), .int (i + 1), .int (i - 1), .int (0 - i), .int (i * 2), .str (Str.ofString (toString i))]) (by simp [odds]) (by simp [odds]) fun x hx => (List.mem_append.mp hx).elim (fun hx => (odds_th x hx).up (by omega) (Nat.le_refl _) (Nat.le_refl _)) (oddi_th hi hB x)
    have n2 : (2 : Int).natAbs.log2 < 64 := by decide
    have l22 : 15 + 7 ≤ sizeLine := PG.sl6 (by decide)
    simp_arith [b__law_odd, b_str_int, hl, n2, or_true, true_or, odds, l22] at o2 ⊢
    exact o2
  | _ =>
    simp_arith [b__law_odd, isi_any (tv.ple (by omega)), isA, odds] at o0 ⊢
    exact o0
end Zk06
namespace Zk06
open PySem SG SY LZ TD AN
open LA (Le d_sr)
open PG (Good)
theorem lbent1 (K : Nat) (dp : Int) (R : Int) (hR : 0 ≤ R) {h : Addr} {n : Int} {B d w : Nat} {v : PV} {M : Sto} {Q : Q1} (hm : Hand M h n) (hB : B < 10 ^ 20) (hw : w ≤ 10 ^ 6) (hwB : w ≤ B) (tv : Th B d w v) (hn : n + 40 + R < 2 ^ 38)
    (rec : 0 < dp → ∀ {M1 : Sto} {n1 : Int} {z : PV} {P : Q1}, Hand M1 h n1 → n1 ≤ n + 3 → Th B (d - 1) (LA.PV.wb z) z → LA.PV.wb z ≤ w → (∀ u M', Th (2 * B + 1) (d - 1 + 10) (2 * LA.PV.wb z + 300) u → Stp h M1 M' (n1 + R) → P u M') → callN T (K + 3) "_law_bent" [.ref h, z, .int (dp - 1)] M1 P)
    (q : ∀ u M', Th (2 * B + 1) (d + 10) (2 * w + 300) u → Stp h M M' (n + 40 + R) → Q u M') : callN T (K + 4) "_law_bent" [.ref h, v, .int dp] M Q := by
  have hv : v.ple = true := tv.ple (by omega)
  rw [call__law_bent]
  have odd : ∀ M1, Stp h M M1 (n + 1) → callN T (K + 3) "_law_odd" [.ref h, v] M1 Q := fun M1 s1 =>
    lodd K s1.hd hB tv (by omega) fun u M2 tu s2 => q u M2 (tu.up (Nat.le_refl _) (by omega) (by omega)) ((s1.trans s2).up (by omega))
  cases v with
  | ref _ => unfold PV.ple at hv; cases hv
  | fn _ => unfold PV.ple at hv; cases hv
  | tup xs =>
    by_cases c0 : xs = []
    · subst c0
      simp_arith [b__law_bent, eq_n hv, isN]
      refine w_take (K + 2) hm (by decide) (by decide) (by omega) fun way M1 w0 w1 s1 => ?_
      simp_arith []
      exact odd M1 s1
    · have hN : isN (.tup xs) = false := by
        cases xs with
        | nil => exact absurd rfl c0
        | cons _ _ => rfl
      have txs := tv.untup
      have hd1 : 1 ≤ d := by have := tv.dep; rw [PV.dep] at this; omega
      have lx := wbs_len xs
      have lw := txs.wt
      have l0 : 0 < xs.length := List.length_pos_iff.mpr c0
      simp_arith [b__law_bent, eq_n hv, hN]
      refine w_take (K + 2) hm (by decide) (by decide) (by omega) fun way M1 w0 w1 s1 => ?_
      refine w_take (K + 2) s1.hd (by omega) (by omega) (by omega) fun at_ M2 a0 a1 s2 => ?_
      refine w_take (K + 2) s2.hd (by omega) (by omega) (by omega) fun ot M3 o0 o1 s3 => ?_
      have s3 := (s1.trans s2).trans s3
      obtain ⟨a, rfl⟩ := Int.eq_ofNat_of_zero_le a0
      obtain ⟨o, rfl⟩ := Int.eq_ofNat_of_zero_le o0
      have ha : a < xs.length := by omega
      have ho : o < xs.length := by omega
      have ea : L2.atI xs (a : Int) = some xs[a] := (at_n xs a ha).trans (List.getElem?_eq_getElem ha)
      have eo : L2.atI xs (o : Int) = some xs[o] := (at_n xs o ho).trans (List.getElem?_eq_getElem ho)
      have c1 : cutP xs none (some (a : Int)) = xs.take a := cut_to (by omega)
      have c2 : cutP xs (some (a : Int)) none = xs.drop a := cut_from (by omega)
      have c3 : cutP xs none (some ((a : Int) + 1)) = xs.take (a + 1) := cut_to (by omega)
      have c4 : cutP xs (some ((a : Int) + 1)) none = xs.drop (a + 1) := cut_from (by omega)
      have ls : ∀ m : Nat, m ≤ 4000000 → m ≤ sizeLine := fun m hm => by rw [sizeLine_eq]; omega
      have tup : ∀ {ys : List PV}, Ths (2 * B + 1) (d + 9) (2 * w + 300) ys → Th (2 * B + 1) (d + 10) (2 * w + 300) (.tup ys) := fun t => t.tup
      have tx : Ths (2 * B + 1) (d + 9) w xs := txs.up (by omega) (by omega) (Nat.le_refl _)
      have alt : ∀ M3, Stp h M M3 (n + 3) → wpSs (callN T (K + 3)) (b__law_bent.drop 4) [some (.ref h), some (.tup xs), some (.int dp), some (.int way), some (.int a), some (.int o), none] M3 (fnEnds Q) := fun M3 s3 => by
        simp_arith [b__law_bent, List.drop, c1, c2, c3, c4, ea, eo]
        refine ⟨ls _ (by simp only [List.length_append, List.length_take, List.length_drop]; omega), ls _ (by simp only [List.length_append, List.length_take, List.length_drop]; omega), ?_⟩
        have tat : Th B 0 201 (.int (a : Int)) := th_int (by omega) (by decide)
        refine lodd K s3.hd hB tat (by omega) fun u M4 tu s4 => ?_
        refine ⟨ls _ (by simp only [List.length_take]; omega), ls _ (by simp only [List.length_append, List.length_take, List.length_drop, List.length_cons, List.length_nil]; omega), ?_⟩
        refine lodd K s4.hd hB tat (by omega) fun y M5 ty s5 => ?_
        refine ⟨ls _ (by omega), ls _ (by decide), ls _ (by simp only [List.length_take]; omega), ls _ (by simp only [List.length_append, List.length_take, List.length_drop, List.length_cons, List.length_nil]; omega), ls _ (by decide), ?_⟩
        have s5 := (s3.trans s4).trans s5
        have tu := tu.up (Nat.le_refl _) (show 9 ≤ d + 9 by omega) (Nat.le_refl _)
        have ty := ty.up (Nat.le_refl _) (show 9 ≤ d + 9 by omega) (Nat.le_refl _)
        refine w_of (K + 1) s5.hd (by simp) (by simp) (by omega) fun z M6 hz s6 => ?_
        refine q z M6 ?_ ((s5.trans s6).up (by omega))
        simp only [List.mem_cons, List.not_mem_nil, or_false] at hz
        rcases hz with rfl | rfl | rfl | rfl | rfl | rfl | rfl | rfl
        · exact tup (((tx.take a).append (tx.drop (a + 1))).up (Nat.le_refl _) (Nat.le_refl _) (by omega))
        · exact tup (((tx.take (a + 1)).append (tx.drop a)).up (Nat.le_refl _) (Nat.le_refl _) (by omega))
        · exact tup (tx.rev.up (Nat.le_refl _) (Nat.le_refl _) (by omega))
        · exact (tx.lst).up (Nat.le_refl _) (by omega) (by omega)
        · exact (tx.mem (List.getElem_mem ha)).up (Nat.le_refl _) (by omega) (by omega)
        · exact tup ((((tx.take a).append (Ths.one tu)).append (tx.drop a)).up (Nat.le_refl _) (Nat.le_refl _) (by omega))
        · exact tup ((tx.append (Ths.one ty)).up (Nat.le_refl _) (Nat.le_refl _) (by omega))
        · have wo := wbs_mem (List.getElem_mem ho)
          exact tup ((Ths.swap (u := w) tx (List.getElem?_eq_getElem ha) ((tx.mem (List.getElem_mem ho)).up (Nat.le_refl _) (Nat.le_refl _) (by omega))).up (Nat.le_refl _) (Nat.le_refl _) (by omega))
      simp only [b__law_bent, List.drop] at alt
      have alt := alt M3 (s3.up (by omega))
      simp_arith [c1, c2, c3, c4, ea, eo]
      by_cases hc : way < 9
      · by_cases hd : 0 < dp
        · simp_arith [hc, hd]
          refine rec hd s3.hd (by omega) ⟨txs.ok _ (List.getElem_mem ha), txs.dep _ (List.getElem_mem ha), Nat.le_refl _⟩ (by have := wbs_mem (List.getElem_mem ha); omega) fun u M4 tu s4 => ?_
          refine ⟨ls _ (by simp only [List.length_append, List.length_take, List.length_drop]; omega), ls _ (by simp only [List.length_append, List.length_take, List.length_drop, List.length_cons, List.length_nil]; omega), ?_⟩
          have wz := wbs_mem (List.getElem_mem ha)
          refine q _ M4 (tup ((Ths.swap (u := LA.PV.wb xs[a] + 300) tx (List.getElem?_eq_getElem ha) (tu.up (Nat.le_refl _) (by omega) (by omega))).up (Nat.le_refl _) (Nat.le_refl _) (by omega))) ((s3.trans s4).up (by omega))
        · simp_arith [hc, hd, c1, c2, c3, c4, ea, eo] at alt ⊢
          exact alt
      · simp_arith [hc, c1, c2, c3, c4, ea, eo] at alt ⊢
        exact alt
  | _ =>
    simp_arith [b__law_bent, isi_any hv, isA]
    refine w_take (K + 2) hm (by decide) (by decide) (by omega) fun way M1 w0 w1 s1 => ?_
    simp_arith []
    exact odd M1 s1
theorem lbent : ∀ (deep k : Nat) {h : Addr} {n : Int} {B d w : Nat} {v : PV} {M : Sto} {Q : Q1}, Hand M h n → B < 10 ^ 20 → w ≤ 10 ^ 6 → w ≤ B → Th B d w v → n + 40 * (deep + 1) < 2 ^ 37 →
    (∀ u M', Th (2 * B + 1) (d + 10) (2 * w + 300) u → Stp h M M' (n + 40 * (deep + 1)) → Q u M') → callN T (k + 4 + deep) "_law_bent" [.ref h, v, .int deep] M Q
  | 0, k, h, n, B, d, w, v, M, Q, hm, hB, hw, hwB, tv, hn, q => lbent1 k 0 0 (by decide) hm hB hw hwB tv (by omega) (fun z => absurd z (by decide)) fun u M' tu s => q u M' tu (s.up (by omega))
  | deep + 1, k, h, n, B, d, w, v, M, Q, hm, hB, hw, hwB, tv, hn, q => by
    rw [show k + 4 + (deep + 1) = (k + 1 + deep) + 4 by omega]
    refine lbent1 (k + 1 + deep) ((deep + 1 : Nat) : Int) (40 * (deep + 1)) (by omega) hm hB hw hwB tv (by omega) (fun _ M1 n1 z P h1 h2 tz wz p => ?_) fun u M' tu s => q u M' tu (s.up (by omega))
    rw [show k + 1 + deep + 3 = k + 4 + deep by omega, show ((deep + 1 : Nat) : Int) - 1 = (deep : Int) by omega]
    exact lbent deep k h1 hB (by omega) (by omega) tz (by omega) p
end Zk06
namespace Zk06
open PySem SG SY LZ TD AN
open LA (Le d_sr)
open PG (Good)
theorem lhold (k : Nat) {s : Sm} (g : s.Ok) (nt : Bool) {h : Addr} {n : Int} {M : Sto} {Q : Q1} (hm : Hand M h n) (hn : n < 2 ^ 38)
    (q : ∀ u M', lookB nt s u = true → Th 100 1 410 u → Stp h M M' (n + 4) → Q u M') : callN T (k + 3) "_law_hold" [.ref h, s.pv, .bl nt] M Q := by
  have sz := SY.Sm.Ok.size g
  have fin : ∀ (S L : Int), 1 ≤ S → S ≤ 42 → -42 ≤ L → L ≤ 0 → (∀ i, L ≤ i → i ≤ S → numB s i (if nt = true then 2 else 1) = true) → wpSs (callN T (k + 2)) (b__law_hold.drop 2) [some (.ref h), some s.pv, some (.bl nt), some (.int S), some (.int L), none, none, none, none, none] M (fnEnds Q) := fun S L S1 S2 L1 L2 hnum => by
    simp_arith [b__law_hold, List.drop, sm_at2]
    refine ⟨PG.sl6 (by decide), ?_⟩
    have em : [PV.int (-1), PV.int 0, PV.int 1] = ([-1, 0, 1] : List Int).map PV.int := rfl
    rw [em, compL_map (f := PV.int) (g := fun b => .int (if (if bd s + b > L then bd s + b else L) < S then (if bd s + b > L then bd s + b else L) else S)) [-1, 0, 1] []]
    · simp_arith []
      refine w_take (k + 1) hm (by omega) (by omega) (by omega) fun e M1 e0 e1 s1 => ?_
      simp_arith []
      refine ⟨PG.sl6 (by decide), ?_⟩
      refine w_ofI k (fun i => L ≤ i ∧ i ≤ S) s1.hd (by simp) (by simp) (by omega) (fun x hx => ?_) fun v M2 hv s2 => ?_
      · simp only [List.mem_cons, List.not_mem_nil, or_false] at hx
        rcases hx with rfl | rfl | rfl | rfl | rfl | rfl | rfl
        · exact ⟨_, rfl, by omega, by omega⟩
        · exact ⟨_, rfl, by omega, by omega⟩
        · exact ⟨_, rfl, by omega, by omega⟩
        · exact ⟨_, rfl, by omega, by omega⟩
        · exact ⟨_, rfl, by split <;> (try split) <;> omega, by split <;> (try split) <;> omega⟩
        · exact ⟨_, rfl, by split <;> (try split) <;> omega, by split <;> (try split) <;> omega⟩
        · exact ⟨_, rfl, by split <;> (try split) <;> omega, by split <;> (try split) <;> omega⟩
      have s2 := s1.trans s2
      refine w_take (k + 1) s2.hd (by decide) (by decide) (by omega) fun a M3 a0 a1 s3 => ?_
      have s3 := s2.trans s3
      simp_arith []
      refine w_take (k + 1) s3.hd (by decide) (by decide) (by omega) fun b M4 b0 b1 s4 => ?_
      have s4 := (s3.trans s4).up (show n + 1 + 1 + 1 + 1 ≤ n + 4 by omega)
      have hb := hnum v hv.1 hv.2
      have ti : Th 100 0 201 (.int v) := th_int (by omega) (by decide)
      simp_arith []
      cases nt with
      | true =>
        simp_arith []
        exact q _ M4 (by rw [if_pos rfl] at hb; simpa [lookB, noteB] using hb) ((Ths.cons (th_bl (w := 0) _) (Ths.one ti)).tup.up (Nat.le_refl _) (Nat.le_refl _) (by decide)) s4
      | false =>
        rw [if_neg (by decide)] at hb
        by_cases c : a = 0
        · simp_arith [c, lso]
          exact q _ M4 (by simp [lookB, holdB, hb]) ((Ths.cons (th_bl (w := 0) _) (Ths.cons ti (Ths.one (th_bl (w := 0) _)))).tup.up (Nat.le_refl _) (Nat.le_refl _) (by decide)) s4
        · simp_arith [c]
          exact q _ M4 (by simp [lookB, holdB, hb]) ((Ths.cons (th_bl (w := 0) _) (Ths.cons ti (Ths.one (th_bl (w := 0) _)))).tup.up (Nat.le_refl _) (Nat.le_refl _) (by decide)) s4
    · intro b hb c
      simp_arith []
  simp only [b__law_hold, List.drop] at fin
  rw [call__law_hold]
  have n1 : (1 : Int).natAbs.log2 < 64 := by decide
  have n2 : (2 : Int).natAbs.log2 < 64 := by decide
  cases nt <;> cases e : s.isSum
  · have f := fin s.size 0 (by omega) (by omega) (by omega) (by omega) fun i h1 h2 => by rw [num_r e]; simp; omega
    simp_arith [b__law_hold, lsize (k + 1) g, at0_sm, hw_sum, hw_rest, e, size_log g, true_or, Int.mul_one] at f ⊢
    exact f
  · have f := fin s.size (0 - s.size) (by omega) (by omega) (by omega) (by omega) fun i h1 h2 => by rw [num_s e]; simp; omega
    simp_arith [b__law_hold, lsize (k + 1) g, at0_sm, hw_sum, hw_rest, e, size_log g, true_or, Int.mul_one] at f ⊢
    exact f
  · have f := fin s.size 0 (by omega) (by omega) (by omega) (by omega) fun i h1 h2 => by rw [num_r e]; simp; omega
    simp_arith [b__law_hold, lsize (k + 1) g, at0_sm, hw_sum, hw_rest, e, size_log g, true_or, Int.mul_one] at f ⊢
    exact f
  · have f := fin (s.size * 2) (0 - s.size * 2) (by omega) (by omega) (by omega) (by omega) fun i h1 h2 => by rw [num_s e]; simp; omega
    simp_arith [b__law_hold, lsize (k + 1) g, at0_sm, hw_sum, hw_rest, e, size_log g, true_or, Int.mul_one] at f ⊢
    exact f
end Zk06
namespace Zk06
open PySem SG SY LZ TD AN
open LA (Le d_sr)
open PG (Good)
theorem notin_mn {x : PV} (h : x.ple = true) (M : Sto) (Q : Q1) : cmpS .notin x (.tup [.str "member", .str "note"]) M Q ↔ Q (.bl (!(isT "member" x || (isT "note" x || false)))) M := notin_w h ["member", "note"] M Q
theorem d_mn : decide ((Str.ofString "member") = Str.ofString "note") = false := by decide +kernel
theorem d_nm : decide ((Str.ofString "note") = Str.ofString "member") = false := by decide +kernel
theorem at_m2 (x y : PV) : L2.atI [x, y] (-1) = some y := at_last [x] y
theorem at_m3 (x y z : PV) : L2.atI [x, y, z] (-1) = some z := at_last [x, y] z
theorem bare_filter (ns : List NHold) : (!decide (ns.filter (fun h => !decide (h = (false, 0))) = [])) = !bare ns := by
  congr 1
  unfold bare
  rw [Bool.eq_iff_iff, decide_eq_true_eq, List.filter_eq_nil_iff, List.all_eq_true]
  constructor
  · intro h x hx
    have := h x hx
    simpa using this
  · intro h x hx
    have := h x hx
    simpa using this
theorem ne_npv (a : NHold) (M : Sto) (Q : Q1) : cmpS .ne (npv a) (.tup [.bl false, .int 0]) M Q ↔ Q (.bl (!decide (a = (false, 0)))) M := by
  have e := eqb_npv a (false, 0)
  have h1 : (npv a).pl = true := by simp [npv, PV.pl, PV.pls]
  have h3 : (npv a).dep ≤ 64 := by simp [npv, PV.dep, PV.deps]
  show cmpOk M (npv a) (npv (false, 0)) ∧ Q (.bl (!PV.eqb (npv a) (npv (false, 0)))) M ↔ _
  rw [e]
  exact ⟨fun q => q.2, fun q => ⟨.inr (.inl ⟨h1, rfl, .inl h3⟩), q⟩⟩
theorem lis_state (k : Nat) {ss : List Sm} (hss : ∀ s ∈ ss, s.Ok) (few : ss.length < 64) (m : Nat) {v : PV} (hv : v.ple = true) (M : Sto) (Q : Q1) : callN T (k + 4) "_law_is_state" [.tup (ss.map Sm.pv), .int m, v] M Q ↔ Q (.bl (stB ss m v)) M := by
  rw [call__law_is_state]
  cases v with
  | ref _ => unfold PV.ple at hv; cases hv
  | fn _ => unfold PV.ple at hv; cases hv
  | tup xs =>
    have hx := ple_tup hv
    cases xs with
    | nil => simp_arith [b__law_is_state, stB, eq_n hv, isN]
    | cons x r =>
      obtain ⟨p1, hr⟩ := ples_cons hx
      cases x with
      | str w =>
        by_cases c1 : w = Str.ofString "note"
        · subst c1
          match r, hr with
          | [], _ => simp_arith [b__law_is_state, stB, eq_n hv, isN, notin_mn p1, isT, d_nm, Bool.or_false, Bool.or_true, Int.reduceSub]
          | [y], hr =>
            obtain ⟨p2, _⟩ := ples_cons hr
            simp_arith [b__law_is_state, stB, eq_n hv, isN, notin_mn p1, isT, d_nm, Bool.or_false, Bool.or_true, Bool.true_and, Int.reduceSub, at_m2]
            cases y with
            | tup hs =>
              have hx := ple_tup p2
              by_cases c : hs.length = ss.length
              · have lz : (ss.zip hs).length ≤ sizeLine := PG.sl6 (by rw [List.length_zip]; omega)
                simp_arith [c, zipL_any, List.length_map, lz, Bool.true_and, holdsB]
                rw [compL_map (f := fun p : Sm × PV => .tup [p.1.pv, p.2]) (g := fun p => .bl (noteB p.1 p.2)) (ss.zip hs) []]
                · simp_arith [bools_map]
                  rw [List.all_map]
                  have ef : (id ∘ fun p : Sm × PV => noteB p.1 p.2) = fun p : Sm × PV => noteB p.1 p.2 := rfl
                  rw [ef]
                  cases e : (ss.zip hs).all fun p => noteB p.1 p.2 with
                  | false => simp_arith [Bool.false_and]
                  | true =>
                    obtain ⟨ns, rfl⟩ := notes_form c e
                    rw [bareB_npv]
                    have ln : ns.length ≤ sizeLine := PG.sl6 (by rw [List.length_map] at c; omega)
                    simp_arith [Bool.true_and, List.length_map, ln]
                    rw [PG.compL_filter (f := npv) (p := fun h => !decide (h = (false, 0))) (g := npv) ns []]
                    · rw [← bare_filter]
                      have ls : ss.length ≤ sizeLine := PG.sl6 (Nat.le_of_lt few)
                      simp_arith [ls]
                      exact cmp_ne_npvs _ [] M Q
                    · intro h _ cc
                      simp_arith [ne_npv]
                · intro p hp cc
                  have h1 := List.of_mem_zip hp
                  simp_arith [lis_hold (k + 1) (hss p.1 h1.1) true (ples_mem hx _ h1.2), lookB]
              · have c' : ¬ ((hs.length : Nat) : Int) = ((ss.length : Nat) : Int) := by omega
                simp_arith [c, c', List.length_map, holdsB, Bool.false_and]
            | _ => simp_arith [isi_any p2, isA, holdsB, Bool.false_and]
          | y :: z :: r, _ => 
            have e' : ¬ ((r.length + 1 + 1 + 1 : Nat) : Int) = 2 := by omega
            have e2 : stB ss m (.tup (.str "note" :: y :: z :: r)) = false := by
              cases r <;> simp [stB, isT, d_nm]
            simp_arith [b__law_is_state, e2, eq_n hv, isN, notin_mn p1, isT, d_nm, Bool.or_false, Bool.or_true, Int.reduceSub, e']
        · by_cases c2 : w = Str.ofString "member"
          · subst c2
            match r, hr with
            | [], _ => simp_arith [b__law_is_state, stB, eq_n hv, isN, notin_mn p1, isT, d_mn, Bool.or_false, Bool.or_true, Int.reduceSub]
            | [_], _ => simp_arith [b__law_is_state, stB, eq_n hv, isN, notin_mn p1, isT, d_mn, Bool.or_false, Bool.or_true, Bool.false_and, Int.reduceSub]
            | [y, z], hr =>
              obtain ⟨p2, hr⟩ := ples_cons hr
              obtain ⟨p3, _⟩ := ples_cons hr
              simp_arith [b__law_is_state, stB, eq_n hv, isN, notin_mn p1, isT, d_mn, Bool.or_false, Bool.or_true, Bool.true_and, Int.reduceSub, at_m3, isi_any p2]
              cases z with
              | tup hs =>
                have hx := ple_tup p3
                by_cases c : hs.length = ss.length
                · have lz : (ss.zip hs).length ≤ sizeLine := PG.sl6 (by rw [List.length_zip]; omega)
                  simp_arith [c, zipL_any, List.length_map, lz, Bool.true_and, holdsB]
                  rw [compL_map (f := fun p : Sm × PV => .tup [p.1.pv, p.2]) (g := fun p => .bl (holdB p.1 p.2)) (ss.zip hs) []]
                  · simp_arith [bools_map]
                    rw [List.all_map]
                    have ef : (id ∘ fun p : Sm × PV => holdB p.1 p.2) = fun p : Sm × PV => holdB p.1 p.2 := rfl
                    rw [ef]
                    cases e : (ss.zip hs).all fun p => holdB p.1 p.2 with
                    | false => simp_arith [Bool.and_false]
                    | true =>
                      cases y with
                      | int n =>
                        have e9 : (decide (0 ≤ n) && decide (n ≤ (m : Int) - 1)) = (decide (0 ≤ n) && decide (n < (m : Int))) := by
                          congr 1
                          rw [Bool.eq_iff_iff, decide_eq_true_eq, decide_eq_true_eq]
                          omega
                        simp_arith [isA, inB, Bool.and_true, e9]
                        cases decide (0 ≤ n) <;> simp
                      | _ => simp_arith [isA, inB, Bool.and_true]
                  · intro p hp cc
                    have h1 := List.of_mem_zip hp
                    simp_arith [lis_hold (k + 1) (hss p.1 h1.1) false (ples_mem hx _ h1.2), lookB]
                · have c' : ¬ ((hs.length : Nat) : Int) = ((ss.length : Nat) : Int) := by omega
                  simp_arith [c, c', List.length_map, holdsB, Bool.false_and, Bool.and_false]
              | _ => simp_arith [isi_any p3, isA, holdsB, Bool.and_false]
            | y :: z :: u :: r, _ =>
              have e' : ¬ ((r.length + 1 + 1 + 1 + 1 : Nat) : Int) = 3 := by omega
              simp_arith [b__law_is_state, stB, eq_n hv, isN, notin_mn p1, isT, d_mn, Bool.or_false, Bool.or_true, Int.reduceSub, e']
          · have e2 : stB ss m (.tup (.str w :: r)) = false := by
              match r with
              | [] => rfl
              | [_] => simp [stB, isT, c1]
              | [_, _] => simp [stB, isT, c2]
              | _ :: _ :: _ :: _ => rfl
            simp_arith [b__law_is_state, e2, eq_n hv, isN, notin_mn p1, isT, c1, c2, Bool.or_false, Bool.or_true, Int.reduceSub]
      | _ =>
        have e2 : ∀ q : PV, (∀ w, isT w q = false) → stB ss m (.tup (q :: r)) = false := fun q hq => by
          match r with
          | [] => rfl
          | [_] => rw [stB, hq]; rfl
          | [_, _] => rw [stB, hq]; rfl
          | _ :: _ :: _ :: _ => rfl
        rw [e2 _ fun w => rfl]
        simp_arith [b__law_is_state, eq_n hv, isN, isi_any p1, isA]
  | _ => simp_arith [b__law_is_state, stB, isi_any hv, isA]
end Zk06
namespace Zk06
open PySem SG SY LZ TD AN
open LA (Le d_sr F2)
open PG (Good)
theorem compL_filterK {α : Type} {f g : α → PV} {p : α → Bool} {step : PV → Sto → (Option PV → Sto → Prop) → Prop} {keep : Sto → Prop} {Q : List PV → Sto → Prop} {M : Sto} (hk : keep M) : ∀ (xs : List α) (acc : List PV), (∀ x ∈ xs, ∀ k, step (f x) M k ↔ if p x = true then k (some (g x)) M else k none M) →
    (compL step keep (xs.map f) acc M Q ↔ Q (acc ++ (xs.filter p).map g) M)
  | [], acc, _ => by simp [compL]
  | x :: r, acc, h => by
    have ih := fun acc => compL_filterK (Q := Q) hk r acc fun y hy => h y (List.mem_cons_of_mem _ hy)
    rw [List.map_cons]
    unfold compL
    rw [h x List.mem_cons_self]
    cases hp : p x with
    | true => simp [ih, hp, hk]
    | false => simp [ih, hp, hk]
theorem eq_npvs (xs : List NHold) (M : Sto) (Q : Q1) : cmpS .eq (.lst (xs.map npv)) (.lst []) M Q ↔ Q (.bl (decide (xs = []))) M := by
  have e1 : (PV.lst (xs.map npv)).pl = true := by rw [PV.pl]; exact pls_npv xs
  have e : PV.eqb (.lst (xs.map npv)) (.lst []) = decide (xs = []) := by
    rw [PV.eqb]
    cases xs <;> simp [PV.eqbs]
  show cmpOk M (.lst (xs.map npv)) (.lst []) ∧ Q (.bl (PV.eqb (.lst (xs.map npv)) (.lst []))) M ↔ _
  rw [e]
  exact ⟨fun q => q.2, fun q => ⟨.inr (.inl ⟨e1, rfl, .inr (show (PV.lst []).dep ≤ 64 by simp [PV.dep, PV.deps])⟩), q⟩⟩
/-- holds that a look takes -/
def HR (nt : Bool) (s : Sm) (u : PV) : Prop := lookB nt s u = true ∧ Th 100 1 410 u
theorem f2_zip {nt : Bool} : ∀ {ss : List Sm} {us : List PV}, F2 (HR nt) ss us → ((ss.zip us).all fun p => lookB nt p.1 p.2) = true := fun {ss us} f => by
  rw [List.all_eq_true]
  rintro ⟨s, u⟩ hp
  obtain ⟨i, e⟩ := List.mem_iff_getElem?.mp hp
  rw [List.getElem?_zip_eq_some] at e
  exact (f.at_ i s u e.1 e.2).1
theorem f2_ths {nt : Bool} {ss : List Sm} {us : List PV} (f : F2 (HR nt) ss us) : Ths 100 1 (us.length * 411) us := by
  have h : ∀ u ∈ us, Th 100 1 410 u := fun u hu => by
    obtain ⟨s, _, p⟩ := LA.F2.right f hu
    exact p.2
  clear f
  induction us with
  | nil => exact Ths.nil
  | cons u r ih => exact ((Ths.cons (h u List.mem_cons_self) (ih fun x hx => h x (List.mem_cons_of_mem _ hx))).up (Nat.le_refl _) (Nat.le_refl _) (by rw [List.length_cons]; omega))
/-- a drawn state -/
def stOf (hs : List PV) : Option Int → PV
  | some i => .tup [.str "member", .int i, .tup hs]
  | none => .tup [.str "note", .tup hs]
theorem lstate (k : Nat) {ss : List Sm} (hss : ∀ s ∈ ss, s.Ok) (l1 : 1 ≤ ss.length) (few : ss.length < 64) {m : Nat} (m1 : 1 ≤ m) (m6 : m ≤ 6) {h : Addr} {n : Int} {M : Sto} {Q : Q1} (hm : Hand M h n) (hn : n < 2 ^ 37)
    (q : ∀ (hs : List PV) (t : Option Int) (M' : Sto), stB ss m (stOf hs t) = true → Th (10 ^ 6) 3 27000 (stOf hs t) → Stp h M M' (n + 300) → Q (stOf hs t) M') :
    callN T (k + 4) "_law_state" [.ref h, .tup (ss.map Sm.pv), .int m] M Q := by
  rw [call__law_state]
  have ls : ss.length ≤ sizeLine := PG.sl6 (by omega)
  simp_arith [b__law_state, List.length_map, ls]
  refine w_take (k + 2) hm (by decide) (by decide) (by omega) fun a M1 a0 a1 s1 => ?_
  simp_arith []
  generalize hnt : decide (a = 0) = nt
  refine compL_cps (fun i acc M' => ∃ us, acc = us ∧ i ≤ ss.length ∧ F2 (HR nt) (ss.take i) us ∧ Stp h M M' (n + 1 + 4 * i)) _ [] 0 M1 ⟨[], rfl, Nat.zero_le _, F2.nil, s1.up (by omega)⟩ ?_ (fun _ _ _ _ => trivial) ?_
  · rintro i x acc M2 kk hx ⟨us, rfl, hi, f2, st⟩ hk
    rw [Nat.zero_add] at hi f2 st
    rw [List.getElem?_map] at hx
    obtain ⟨s, hs', rfl⟩ := Option.map_eq_some_iff.mp hx
    have hlt := (List.getElem?_eq_some_iff.mp hs').1
    simp_arith []
    refine lhold k (hss s (List.mem_of_getElem? hs')) nt st.hd (by omega) fun u M3 hu tu s3 => ?_
    refine hk (some u) M3 ⟨_ ++ [u], rfl, by omega, ?_, (st.trans s3).up (by omega)⟩
    rw [Nat.zero_add, LA.take_snoc hs']
    exact f2.snoc ⟨hu, tu⟩
  · rintro acc M2 ⟨us, rfl, _, f2, st⟩
    rw [List.length_map, Nat.zero_add, List.take_length] at f2
    rw [List.length_map, Nat.zero_add] at st
    have hl := f2.len
    have tz := f2_ths f2
    have hz := f2_zip f2
    simp_arith []
    intro p hp
    have ne := st.hd.ne hp
    have mp := put_at M2 p (.lst acc)
    have hd3 : Hand (M2.put p (.lst acc)) h (n + 1 + 4 * ss.length) := st.hd.put ne
    have st3 : Stp h M (M2.put p (.lst acc)) (n + 1 + 4 * ss.length) := st.put ne (by
      cases e : M p with
      | none => rfl
      | some o =>
        have := st.fr p o ne e
        rw [hp] at this
        cases this)
    cases nt with
    | false =>
      simp_arith []
      refine w_take (k + 2) hd3 (by omega) (by omega) (by omega) fun t M4 t0 t1 s4 => ?_
      have m4 : M4 p = some (.lst acc) := s4.fr p _ ne mp
      simp_arith [b_tuple_ref m4]
      refine q acc (some t) M4 ?_ ?_ ((st3.trans s4).up (by omega))
      · have e9 : inB 0 ((m : Int) - 1) (.int t) = true := by simp [inB]; omega
        simp only [stOf, stB, e9, isT, holdsB, hl, Bool.true_and, decide_true]
        simpa [lookB] using hz
      · exact ((Ths.cons (th_str (w := 6) "member" (by decide)) (Ths.cons (th_int (B := 10 ^ 6) (i := t) (by omega) (Nat.le_refl _)) (Ths.one ((tz.tup).up (by decide) (Nat.le_refl _) (Nat.le_refl _))))).tup).up (Nat.le_refl _) (by decide) (by omega)
    | true =>
      obtain ⟨ns, rfl⟩ := notes_form hl.symm (by simpa [lookB] using hz)
      have ln : ns.length ≤ sizeLine := PG.sl6 (by rw [List.length_map] at hl; omega)
      simp_arith [walk_ref mp, List.length_map, ln]
      rw [compL_filterK (f := npv) (p := fun h => !decide (h = (false, 0))) (g := npv) mp ns []]
      · have hs0 : ∀ ns' : List NHold, ns'.length = ss.length → ((ss.zip (ns'.map npv)).all fun p => noteB p.1 p.2) = true → Ths 100 1 (ns'.length * 411) (ns'.map npv) → bare ns' = false → ∀ M', Stp h M M' (n + 300) → Q (.tup [.str "note", .tup (ns'.map npv)]) M' := fun ns' l' z' t' b' M' s' => by
          refine q (ns'.map npv) none M' ?_ ?_ s'
          · simp only [stOf, stB, isT, holdsB, List.length_map, l', z', bareB_npv, b', Bool.true_and, decide_true, Bool.not_false]
          · exact ((Ths.cons (th_str (w := 4) "note" (by decide)) (Ths.one ((t'.tup).up (by decide) (Nat.le_refl _) (Nat.le_refl _)))).tup).up (Nat.le_refl _) (by decide) (by omega)
        rw [List.length_map] at hl
        simp_arith [eq_npvs]
        have bf := bare_filter ns
        cases e : decide (ns.filter (fun h => !decide (h = (false, 0))) = []) with
        | false =>
          rw [e] at bf
          simp_arith [b_tuple_ref mp]
          exact hs0 ns hl.symm (by simpa [lookB] using hz) (by simpa using tz) (by cases q9 : bare ns with | false => rfl | true => rw [q9] at bf; cases bf) _ (st3.up (by omega))
        | true =>
          simp_arith [len_ref mp, List.length_map]
          refine w_take (k + 2) hd3 (by omega) (by omega) (by omega) fun t M4 t0 t1 s4 => ?_
          have m4 : M4 p = some (.lst (ns.map npv)) := s4.fr p _ ne mp
          obtain ⟨j, rfl⟩ := Int.eq_ofNat_of_zero_le t0
          have hj : j < ns.length := by omega
          have m5 := put_at M4 p (.lst ((ns.set j (true, 0)).map npv))
          have es : (ns.map npv).set j (.tup [.bl true, .int 0]) = (ns.set j (true, 0)).map npv := by rw [List.map_set]; rfl
          rw [six_ref m4]
          refine ⟨j, ixN_lit (by rw [List.length_map]; exact hj), ?_⟩
          rw [es]
          simp_arith [b_tuple_ref m5]
          have f3 : F2 (HR true) ss ((ns.set j (true, 0)).map npv) := ⟨by simpa using hl, fun i s u h1 h2 => by
            rw [← es] at h2
            by_cases c : j = i
            · subst c
              rw [List.getElem?_set_self (by rw [List.length_map]; exact hj)] at h2
              cases h2
              have sz := SY.Sm.Ok.size (hss s (List.mem_of_getElem? h1))
              refine ⟨?_, (Ths.cons (th_bl (w := 0) _) (Ths.one (th_int (i := 0) (by decide) (Nat.le_refl _)))).tup.up (Nat.le_refl _) (Nat.le_refl _) (by decide)⟩
              show noteB s (.tup [.bl true, .int 0]) = true
              rw [noteB]
              unfold numB
              split <;> simp <;> omega
            · rw [List.getElem?_set_ne c] at h2
              exact f2.at_ i s u h1 h2⟩
          refine hs0 (ns.set j (true, 0)) (by rw [List.length_set]; exact hl.symm) (by simpa [lookB] using f2_zip f3) (by simpa using f2_ths f3) ?_ _ (((st3.trans s4).put ne (by
            cases e : M p with
            | none => rfl
            | some o =>
              have := st.fr p o ne e
              rw [hp] at this
              cases this)).up (by omega))
          have mem : (true, (0 : Int)) ∈ ns.set j (true, 0) := List.mem_set hj _
          cases q9 : bare (ns.set j (true, 0)) with
          | false => rfl
          | true =>
            unfold bare at q9
            have := List.all_eq_true.mp q9 _ mem
            simp at this
      · intro h _ cc
        simp_arith [ne_npv]
end Zk06
namespace Zk06
open PySem SG SY LZ TD AN
open LA (Le d_sr F2)
open PG (Good)
theorem ne_bl (a b : Bool) (M : Sto) (Q : Q1) : cmpS .ne (.bl a) (.bl b) M Q ↔ Q (.bl (!decide (a = b))) M := by
  show cmpOk M (.bl a) (.bl b) ∧ Q (.bl (!PV.eqb (.bl a) (.bl b))) M ↔ _
  have e : PV.eqb (.bl a) (.bl b) = decide (a = b) := by cases a <;> cases b <;> (unfold PV.eqb; rfl)
  rw [e]
  exact ⟨fun q => q.2, fun q => ⟨.inr (.inl ⟨rfl, rfl, .inl (Nat.zero_le _)⟩), q⟩⟩
/-- what is looked at -/
abbrev TX (v : PV) : Prop := Th 5000000 30 120000 v
abbrev Env (ns : List Int) (x1 : Option PV) (h : Addr) (m : Nat) (x4 : Option PV) (a : Sy) (x6 : Option PV) (r : Addr) (x9 x10 x11 x12 x13 x14 : Option PV) : Rho := [some (.lst (ns.map .int)), x1, some (.ref h), some (.int m), x4, some a.pv, x6, some (.tup (a.ss.map Sm.pv)), some (.ref r), x9, x10, x11, x12, x13, x14]
theorem t15 (k : Nat) {ns : List Int} {h r : Addr} {m : Nat} {a : Sy} (g : Good a) (hm : ∀ s ∈ a.sms, s.ws.length = m) {x1 x4 x6 x9 x10 x11 x13 x14 : Option PV} {v : PV} (tv : TX v) {M : Sto} {D : SG.Ends}
    (q : ∀ y13 y14, D.nx (Env ns x1 h m x4 a x6 r x9 x10 x11 (some v) y13 y14) M) : wpSs (callN T (k + 15)) b_law_L15 (Env ns x1 h m x4 a x6 r x9 x10 x11 (some v) x13 x14) M D := by
  have hv : v.ple = true := tv.ple (by decide)
  have rp : repOk v := tv.rep (by decide) (by decide) (by decide)
  have hss : ∀ s ∈ a.ss, s.Ok := fun s hs => g.ss hs
  simp_arith [b_law_L15, now_of hv, rp, w_is_state k g hm hv, lis_state (k + 11) hss g.len m hv, ne_bl]
  exact q _ _
theorem t11 (k : Nat) {ns : List Int} {h r : Addr} {m : Nat} {a : Sy} {x1 x4 x6 x10 x11 x12 x13 x14 : Option PV} {v : PV} (tv : Th (10 ^ 6) 3 27000 v) {n : Int} {xs : List PV} {M : Sto} {D : SG.Ends} (hh : Hand M h n) (hr : M r = some (.lst xs)) (ne : r ≠ h) (hx : xs.length < 60) (hn : n < 2 ^ 36)
    (q : ∀ u y11 M', TX u → Stp h M M' (n + 500) → D.nx (Env ns x1 h m x4 a x6 r (some v) x10 y11 x12 x13 x14) (M'.put r (.lst (xs ++ [u])))) : wpSs (callN T (k + 15)) b_law_L11 (Env ns x1 h m x4 a x6 r (some v) x10 x11 x12 x13 x14) M D := by
  have lx : xs.length < sizeLine := Nat.lt_of_lt_of_le (show xs.length < 64 by omega) (PG.sl6 (Nat.le_refl _))
  simp_arith [b_law_L11]
  refine lbent 4 (k + 7) hh (by decide) (by decide) (by decide) tv (by omega) fun u M1 tu s1 => ?_
  have r1 := s1.fr r _ ne hr
  simp_arith [rcv_ref r1]
  refine w_take (k + 14) s1.hd (by decide) (by decide) (by omega) fun d M2 d0 d1 s2 => ?_
  have s2 := s1.trans s2
  have r2 := s2.fr r _ ne hr
  simp_arith []
  by_cases c : d = 0
  · simp_arith [c]
    refine lbent 4 (k + 7) s2.hd (by decide) (by decide) (by decide) tu (by omega) fun u2 M3 tu2 s3 => ?_
    have s3 := s2.trans s3
    have r3 := s3.fr r _ ne hr
    simp_arith [app_ref r3, lx]
    exact q u2 _ M3 (tu2.up (by decide) (by decide) (by decide)) (s3.up (by omega))
  · simp_arith [c, app_ref r2, lx]
    exact q u _ M2 (tu.up (by decide) (by decide) (by decide)) (s2.up (by omega))
theorem th_last {B d w : Nat} {xs : List PV} {x : PV} (t : Th B (d + 1) w (.tup xs)) (h : x ∈ xs) : Th B d w x := (t.untup.mem h).up (Nat.le_refl _) (by omega) (Nat.le_refl _)
theorem t7 (k : Nat) {ns : List Int} {h r : Addr} {m : Nat} {a : Sy} (g : Good a) (hm : ∀ s ∈ a.sms, s.ws.length = m) (m1 : 1 ≤ m) (m6 : m ≤ 6) (l1 : 1 ≤ a.ss.length) {x1 x4 x6 x9 x10 x11 x12 x13 x14 : Option PV} {n : Int} {xs : List PV} {M : Sto} {D : SG.Ends} (hh : Hand M h n) (hr : M r = some (.lst xs)) (ne : r ≠ h) (hx : xs.length + 5 < 60) (tx : ∀ x ∈ xs, TX x) (hn : n < 2 ^ 35)
    (q : ∀ y9 y10 y11 ys M', M' r = some (.lst ys) → ys.length = xs.length + 5 → (∀ y ∈ ys, TX y) → Hand M' h (n + 3000) → D.nx (Env ns x1 h m x4 a x6 r y9 y10 y11 x12 x13 x14) M') : wpSs (callN T (k + 15)) b_law_L7 (Env ns x1 h m x4 a x6 r x9 x10 x11 x12 x13 x14) M D := by
  have hss : ∀ s ∈ a.ss, s.Ok := fun s hs => g.ss hs
  simp_arith [b_law_L7]
  refine lstate (k + 11) hss l1 g.len m1 m6 hh (by omega) fun hs t M1 hst th s1 => ?_
  have r1 := s1.fr r _ ne hr
  generalize hv : stOf hs t = v at *
  have vp : v.ple = true := th.ple (by decide)
  simp_arith [w_is_state k g hm vp, hst, beq_self_eq_true]
  refine ⟨by decide, by decide, ?_⟩
  refine forL_cps (fun i ρ M' => (∃ x10 x11, ρ = Env ns x1 h m x4 a x6 r (some v) x10 x11 x12 x13 x14) ∧ ∃ ys, M' r = some (.lst ys) ∧ ys.length = xs.length + i ∧ (∀ y ∈ ys, TX y) ∧ Hand M' h (n + 300 + 500 * i)) _ 0 _ M1 ⟨⟨_, _, rfl⟩, xs, r1, rfl, tx, s1.hd.up (by omega)⟩ ?_ (fun _ _ _ _ => trivial) ?_
  · rintro i x ρ M2 c hx' ⟨⟨y10, y11, rfl⟩, ys, r2, ly, ty, hd⟩ hc
    obtain ⟨rfl, hlt⟩ := rng0_get hx'
    have hlt : i < 4 := by omega
    rw [Nat.zero_add] at ly hd
    simp_arith []
    refine t11 k th hd r2 ne (by omega) (by omega) fun u y11 M3 tu s3 => ?_
    refine hc _ _ ⟨⟨_, _, rfl⟩, ys ++ [u], put_at _ _ _, by simp; omega, fun y hy => ?_, (s3.hd.put ne).up (by omega)⟩
    rcases List.mem_append.mp hy with z | z
    · exact ty y z
    · rw [List.mem_singleton.mp z]; exact tu
  · rintro ρ M2 ⟨⟨y10, y11, rfl⟩, ys, r2, ly, ty, hd⟩
    rw [rng_len, Nat.zero_add] at ly hd
    have ly : ys.length = xs.length + 4 := ly
    have lx : ys.length < sizeLine := Nat.lt_of_lt_of_le (show ys.length < 64 by omega) (PG.sl6 (Nat.le_refl _))
    have fin : ∀ u, TX u → D.nx (Env ns x1 h m x4 a x6 r (some v) y10 y11 x12 x13 x14) (M2.put r (.lst (ys ++ [u]))) := fun u tu =>
      q _ _ _ (ys ++ [u]) _ (put_at _ _ _) (by simp; omega) (fun y hy => by
        rcases List.mem_append.mp hy with z | z
        · exact ty y z
        · rw [List.mem_singleton.mp z]; exact tu) ((hd.put ne).up (by simp; omega))
    cases t with
    | some i =>
      rw [stOf] at hv
      subst hv
      have tl : Th (10 ^ 6) 2 27000 (.tup hs) := th_last th (by simp)
      have f := fin (.tup [.str "note", .tup hs]) (((Ths.cons (th_str (w := 4) "note" (by decide)) (Ths.one tl)).tup).up (by decide) (by decide) (by decide))
      simp_arith [rcv_ref r2, app_ref r2, lx, at_m3] at f ⊢
      exact f
    | none =>
      rw [stOf] at hv
      subst hv
      have tl : Th (10 ^ 6) 2 27000 (.tup hs) := th_last th (by simp)
      have f := fin (.tup [.str "member", .int 0, .tup hs]) (((Ths.cons (th_str (w := 6) "member" (by decide)) (Ths.cons (th_int (i := 0) (by decide) (Nat.le_refl _)) (Ths.one tl))).tup).up (by decide) (by decide) (by decide))
      simp_arith [rcv_ref r2, app_ref r2, lx, at_m2, d_nm] at f ⊢
      exact f
theorem ths_rep {B d w : Nat} {x : PV} (t : Th B d w x) : ∀ c : Nat, Ths B d (c * (w + 1)) (List.replicate c x)
  | 0 => Ths.nil
  | c + 1 => by rw [List.replicate_succ]; exact (Ths.cons t (ths_rep t c)).up (Nat.le_refl _) (Nat.le_refl _) (by rw [Nat.add_mul]; omega)
theorem flat1 (x : PV) : ∀ c : Nat, (List.replicate c [x]).flatten = List.replicate c x
  | 0 => rfl
  | c + 1 => by rw [List.replicate_succ, List.flatten_cons, flat1 x c, List.replicate_succ]; rfl
theorem mulT1 (x : PV) {c : Nat} (h1 : 1 ≤ c) (h2 : c ≤ 1000) (M : Sto) (Q : Q1) : binS .mul (.tup [x]) (.int (c : Int)) M Q ↔ Q (.tup (List.replicate c x)) M := by
  have e : binS .mul (.tup [x]) (.int (c : Int)) M Q ↔ (1 ≤ (c : Int) ∧ (c : Int) ≤ 1000 ∧ [x] ≠ [] ∧ [x].length ≤ 1000 ∧ Q (.tup (List.replicate (c : Int).toNat [x]).flatten) M) := Iff.rfl
  rw [e, Int.toNat_natCast, flat1]
  exact ⟨fun h => h.2.2.2.2, fun h => ⟨by omega, by omega, by simp, by simp, h⟩⟩
theorem t1 (k : Nat) {ns : List Int} {kk : Int} (hk : 0 ≤ kk) (hk3 : kk ≤ 3) {x2 x3 x4 x5 x6 x7 x8 x9 x10 x11 x12 x13 x14 : Option PV} {M : Sto} {D : SG.Ends}
    (q : ∀ ρ M', (∃ x1 x2 x3 x4 x5 x6 x7 x8 x9 x10 x11 x12 x13 x14, ρ = [some (.lst (ns.map .int)), x1, x2, x3, x4, x5, x6, x7, x8, x9, x10, x11, x12, x13, x14]) → D.nx ρ M') :
    wpSs (callN T (k + 15)) b_law_L1 [some (.lst (ns.map .int)), some (.int kk), x2, x3, x4, x5, x6, x7, x8, x9, x10, x11, x12, x13, x14] M D := by
  simp_arith [b_law_L1]
  refine w_hand (k + 14) ns _ hk hk3 fun h M1 _ _ hh => ?_
  refine w_take (k + 14) hh (by decide) (by decide) (by decide) fun d M2 d0 d1 s1 => ?_
  obtain ⟨m, em⟩ := Int.eq_ofNat_of_zero_le (show 0 ≤ 1 + d by omega)
  have m1 : 1 ≤ m := by omega
  have m6 : m ≤ 6 := by omega
  simp_arith [em]
  refine w_take (k + 14) s1.hd (by decide) (by decide) (by decide) fun e M3 e0 e1 s2 => ?_
  obtain ⟨l, el⟩ := Int.eq_ofNat_of_zero_le (show 0 ≤ 1 + e by omega)
  have s2 := s1.trans s2
  simp_arith [el, rng_len]
  refine ⟨by omega, by omega, PG.sl6 (by omega), ?_⟩
  refine compL_cps (fun i acc M' => ∃ ps : List Sm, acc = ps.map Sm.pv ∧ ps.length = i ∧ (∀ s ∈ ps, s.Ok ∧ s.ws.length = m) ∧ Hand M' h (2 + 20 * i)) _ [] 0 M3 ⟨[], rfl, rfl, fun s hs => (by cases hs), s2.hd.up (by omega)⟩ ?_ (fun _ _ _ _ => trivial) ?_
  · rintro i x acc M4 c hx ⟨ps, rfl, lp, hp, hd⟩ hc
    obtain ⟨rfl, hlt⟩ := rng0_get hx
    rw [Nat.zero_add] at lp hd
    simp_arith []
    refine w_simple (k + 12) hd m1 m6 (by omega) fun s M5 gs lw s5 => ?_
    refine hc (some s.pv) M5 ⟨ps ++ [s], by simp, by simp [lp], fun z hz => ?_, s5.hd.up (by omega)⟩
    rcases List.mem_append.mp hz with y | y
    · exact hp z y
    · rw [List.mem_singleton.mp y]; exact ⟨gs, lw⟩
  · rintro acc M4 ⟨ps, rfl, lp, hp, hd⟩
    rw [rng_len, Nat.zero_add] at lp hd
    have hd := hd.up (show 2 + 20 * ((l : Int).toNat : Int) ≤ 200 by omega)
    have p0 : ps ≠ [] := fun z => by rw [z] at lp; simp at lp; omega
    simp_arith []
    refine ⟨_, rfl, fun p t hpn => ?_⟩
    have ne := hd.ne hpn
    refine w_saying p0 (by omega) 7 (k + 6) (n := 200) (f := 12) (hd.put ne) ⟨t, put_at _ _ _⟩ ne (by decide) fun a M5 f' fa la ma aa => ?_
    have l64 : a.sms.length < 64 := by
      rw [if_neg (by decide)] at ma
      omega
    have ga : Good a := fa.good (by decide) (fun s hs => (hp s hs).1) l64
    have hm : ∀ s ∈ a.sms, s.ws.length = m := fun s hs => (hp s (fa.sub s hs)).2
    have l1 : 1 ≤ a.ss.length := by
      cases hq : a.sms with
      | nil => exact absurd hq a.ne
      | cons s r =>
        have : s ∈ a.ss := (a.ss_mem s).mpr (by rw [hq]; exact List.mem_cons_self)
        exact List.length_pos_of_mem this
    have few := ga.len
    have mulB := fun M Q => mulT1 (.tup [.bl false, .int 0]) l1 (show a.ss.length ≤ 1000 by omega) M Q
    have mulM := fun M Q => mulT1 (.int 1) m1 (show m ≤ 1000 by omega) M Q
    simp_arith [PG.w_simples (k + 2) ga, List.length_map, mulB]
    intro r hr
    refine ⟨by decide, by decide, ?_⟩
    have ner : r ≠ h := aa.hd.ne hr
    have t0 : ∀ x ∈ [PV.tup [.str "note", .tup (List.replicate a.ss.length (.tup [.bl false, .int 0]))], .tup [.str "member", .int 0, .tup []], .tup [.str "note", .tup []], .non, .str ""], TX x := by
      intro x hx
      simp only [List.mem_cons, List.not_mem_nil, or_false] at hx
      rcases hx with rfl | rfl | rfl | rfl | rfl
      · have tb : Th 1 1 300 (.tup [.bl false, .int 0]) := th_of (by decide +kernel)
        exact ((Ths.cons (th_str (w := 4) "note" (by decide)) (Ths.one (ths_rep tb a.ss.length).tup)).tup).up (by decide) (by decide) (by omega)
      · exact (th_of (B := 1) (d := 3) (w := 500) (by decide +kernel)).up (by decide) (by decide) (by decide)
      · exact (th_of (B := 1) (d := 3) (w := 500) (by decide +kernel)).up (by decide) (by decide) (by decide)
      · exact th_non
      · exact (th_of (B := 1) (d := 3) (w := 500) (by decide +kernel)).up (by decide) (by decide) (by decide)
    refine forL_cps (fun i ρ M' => (∃ x6 x9 x10 x11 x12 x13 x14, ρ = Env ns (some (.int kk)) h m (some (.int l)) a x6 r x9 x10 x11 x12 x13 x14) ∧ ∃ ys, M' r = some (.lst ys) ∧ ys.length = 5 + 5 * i ∧ (∀ y ∈ ys, TX y) ∧ Hand M' h (1000 + 3000 * i)) _ 0 _ _
      ⟨⟨_, _, _, _, _, _, _, rfl⟩, _, put_at _ _ _, rfl, t0, (aa.hd.put ner).up (by decide)⟩ ?_ (fun _ _ _ _ => trivial) ?_
    · rintro i x ρ M6 c hx ⟨⟨y6, y9, y10, y11, y12, y13, y14, rfl⟩, ys, r6, ly, ty, hd6⟩ hc
      obtain ⟨rfl, hlt⟩ := rng0_get hx
      rw [Nat.zero_add] at ly hd6
      simp_arith []
      refine t7 k ga hm m1 m6 l1 hd6 r6 ner (by omega) ty (by omega) fun z9 z10 z11 zs M7 r7 lz tz hd7 => ?_
      exact hc _ M7 ⟨⟨_, _, _, _, _, _, _, rfl⟩, zs, r7, by omega, tz, hd7.up (by omega)⟩
    · rintro ρ M6 ⟨⟨y6, y9, y10, y11, y12, y13, y14, rfl⟩, ys, r6, ly, ty, hd6⟩
      rw [rng_len, Nat.zero_add] at ly hd6
      simp_arith [mulM]
      have es : [PV.tup [.str "sum", .tup (List.replicate m (.int 1)), .int 4]] = ([Sm.sum (List.replicate m 1) 4]).map Sm.pv := by simp [Sm.pv, List.map_replicate]
      rw [es]
      refine lstate (k + 11) (ss := [Sm.sum (List.replicate m 1) 4]) (fun s hs => ?_) (by simp) (by simp) m1 m6 hd6 (by decide) fun hs t M7 _ th s7 => ?_
      · rw [List.mem_singleton.mp hs]
        exact ⟨⟨by simp; omega, by simp; omega, fun w hw => by rw [List.eq_of_mem_replicate hw]; decide⟩, by decide, by decide⟩
      have r7 := s7.fr r _ ner r6
      have add : ∀ (ys zs : List PV) (Q : Q1), M7 r = some (.lst ys) → (binS .add (.ref r) (.lst zs) M7 Q ↔ ys.length + zs.length ≤ sizeLine ∧ Q (.lst (ys ++ zs)) M7) := fun ys zs Q e => by
        unfold binS addS newL
        simp [lo, e]
      rw [add ys _ _ r7]
      have ly : ys.length = 30 := ly
      refine ⟨PG.sl6 (by simp; omega), ?_⟩
      simp_arith []
      have tz : ∀ y ∈ ys ++ [stOf hs t], TX y := fun y hy => by
        rcases List.mem_append.mp hy with z | z
        · exact ty y z
        · rw [List.mem_singleton.mp z]; exact th.up (by decide) (by decide) (by decide)
      refine forL_cps (fun i ρ M' => ∃ x12 x13 x14, ρ = Env ns (some (.int kk)) h m (some (.int l)) a y6 r y9 y10 y11 x12 x13 x14) _ 0 _ _ ⟨_, _, _, rfl⟩ ?_ (fun _ _ _ _ => trivial) ?_
      · rintro i x ρ M8 c hx ⟨z12, z13, z14, rfl⟩ hc
        simp_arith []
        exact t15 k ga hm (tz x (List.mem_of_getElem? hx)) fun y13 y14 => hc _ M8 ⟨_, _, _, rfl⟩
      · rintro ρ M8 ⟨z12, z13, z14, rfl⟩
        exact q _ M8 ⟨_, _, _, _, _, _, _, _, _, _, _, _, _, _, rfl⟩
theorem k06 (k : Nat) (ns : List Int) (hl : ns.length ≤ 63) : callN T (k + 16) "law" [.lst (ns.map .int)] noSto (fun v _ => v = .bl true) := by
  rw [call_law]
  simp_arith [b_law, List.length_map]
  generalize hN : 1 + (if (ns.length : Int) < 3 then (ns.length : Int) else 3) = N
  have hN2 : 1 ≤ N ∧ N ≤ 4 := by
    rw [← hN]
    split <;> omega
  refine ⟨by omega, by omega, ?_⟩
  refine forL_cps (fun i ρ M' => ∃ x1 x2 x3 x4 x5 x6 x7 x8 x9 x10 x11 x12 x13 x14, ρ = [some (.lst (ns.map .int)), x1, x2, x3, x4, x5, x6, x7, x8, x9, x10, x11, x12, x13, x14]) _ 0 _ noSto ⟨_, _, _, _, _, _, _, _, _, _, _, _, _, _, rfl⟩ ?_ (fun _ _ _ _ => trivial) ?_
  · rintro i x ρ M1 c hx ⟨x1, x2, x3, x4, x5, x6, x7, x8, x9, x10, x11, x12, x13, x14, rfl⟩ hc
    obtain ⟨rfl, hlt⟩ := rng0_get hx
    simp_arith []
    exact t1 k (by omega) (by omega) fun ρ M' h => hc ρ M' h
  · rintro ρ M1 ⟨x1, x2, x3, x4, x5, x6, x7, x8, x9, x10, x11, x12, x13, x14, rfl⟩
    simp_arith []
end Zk06
namespace Zk06
open PySem PySem.Spec PyProof.Rows L2 SG
abbrev R : PySem.W.OpenRow := PySem.W.OpenLaw.row PySem.Challenge.rw_strangersay_k06_states_of_anything
abbrev fa : List He.Fa := faL srcs cns
abbrev fn : List He.DefD := fnL srcs
abbrev hk : PySem.W.Hook := hookT 4 (tbL cns) fa fn
def ob (s : PySem.W.SharedT) : AlT := obsTG 4 (tbL cns) fa fn (HandSHeadRun.getT s)
theorem ob_eq (s : PySem.W.SharedT) : ob s = hk.obs s.abs := obsTG_eq (HandSHeadRun.getT_eq s)
theorem run (w : World) : HandSHeadRun.RunEq R (PySem.W.view R.prog [lawAt]) hk ob 3000 loose w := by
  intro os
  kernel_rfl
end Zk06
open PySem PySem.W PySem.Calls PyProof.Rows
theorem PySem.Challenge.cw_strangersay_k06_states_of_anything_holds : PySem.Challenge.rw_strangersay_k06_states_of_anything.Holds := by
  w_on; o_law
  refine HandSHeadRun.head_any (r := OpenLaw.row PySem.Challenge.rw_strangersay_k06_states_of_anything) (q := view (OpenLaw.row PySem.Challenge.rw_strangersay_k06_states_of_anything).prog [Zk06.lawAt]) (H := Zk06.hk) (ob := Zk06.ob) (M := 3000) (loose := Zk06.loose) (d := HandSHeadRun.topDef (OpenLaw.row PySem.Challenge.rw_strangersay_k06_states_of_anything).prog Zk06.lawAt) (kwd := []) Zk06.ob_eq
    (by kernel_rfl) (fun s => by kernel_rfl) Zk06.run (by kernel_rfl) (by kernel_rfl) (by kernel_rfl) (by rfl) (by first | assumption | decide +kernel) (by decide +kernel) ⟨rfl, rfl, rfl, rfl, rfl, by decide +kernel⟩ ?hw ?hc
  case hw => w_witness2
  case hc =>
    have dn : (HandSHeadRun.topDef (OpenLaw.row PySem.Challenge.rw_strangersay_k06_states_of_anything).prog Zk06.lawAt).name = ("law" : PySem.Str) := by kernel_rfl
    refine SG.law_of (l := PySem.Challenge.rw_strangersay_k06_states_of_anything) (n := 63) (k := 16) (L := Zk06.srcs) (cns := Zk06.cns) (m := 4) rfl (by decide) (by kernel_rfl) ⟨rfl, by decide, by decide⟩ ?_ Zk06.oks (by decide +kernel) ?_
    · rw [dn]
      decide +kernel
    · intro ns hl
      rw [dn]
      exact Zk06.k06 0 ns hl
