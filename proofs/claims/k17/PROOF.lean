import PyProof.Rows.All
import Wide.All
import OpenK.AllK
import Wide.FinOn
import HandS.ForMost
import HandS.DictTup
import KE.KDictKeyed
import HandS.Wide
import HandS.IsInst
import HandS.Style
import HandS.TupAny
import HandS.TupMul
import HandS.TupLe
import HandS.Flow
import HandS.Deep
import HandS.Zip
import HandS.Conv
import HandS.CallLocal
import KE.GoesEnum
import KE.GoesMore
import HandS.TupSets
import KE.SortData
import PyProof.Transfer
import HandS.Ends
import HandS.Defaults
import KE.KStateDown
import Lean
import HandS.More
import HandS.Words
import HandS.WordsExc
import HandS.Head0
import HandS.Head1
import HandS.Head2
import HandS.HeadEnd
import HandS.HeadHook1
import HandS.HeadHook2
import PyProof.ReprLen
import PySem.Challenge.RW_strangersay_k17_two_members_of_sums
set_option Elab.async false
set_option linter.all false
set_option maxRecDepth 100000
set_option maxHeartbeats 0
/-! Values as trees, a small store of changing objects, and how both lie in the layer's heap. -/
namespace SG
open PySem PySem.Spec PyProof.Rows L2

/-- a value: tuples and lists that nobody changes any more are trees; what changes stands in the store -/
inductive PV where
  | non
  | bl (b : Bool)
  | int (i : Int)
  | str (x : Str)
  | tup (xs : List PV)
  | lst (xs : List PV)
  | ref (a : Addr)
  | fn (f : Str)
  | emp
instance : Inhabited PV := ⟨.non⟩

/-- what stands in the store: a list, a dict whose keys are tuples, a dict whose keys are ints and texts -/
inductive SO where
  | lst (xs : List PV)
  | dct (kvs : List (PV × PV))
  | dks (kvs : List (Key × PV))

mutual
/-- a value as a key -/
def PV.key : PV → Option NestedKey
  | .non => some .none
  | .bl b => some (.num (if b = true then 1 else 0))
  | .int i => some (.num i)
  | .str x => some (.text x)
  | .tup xs => (PV.keys xs).map .tup
  | .lst _ => none
  | .ref _ => none
  | .fn _ => none
  | .emp => none
def PV.keys : List PV → Option (List NestedKey)
  | [] => some []
  | x :: r => match PV.key x, PV.keys r with
    | some k, some ks => some (k :: ks)
    | _, _ => none
end

abbrev Sto := Addr → Option SO
def Sto.put (M : Sto) (a : Addr) (o : SO) : Sto := fun b => if b = a then some o else M b
theorem Sto.put_same {M : Sto} {a : Addr} {o : SO} : M.put a o a = some o := by unfold Sto.put; simp
theorem Sto.put_ne {M : Sto} {a b : Addr} {o : SO} (h : b ≠ a) : M.put a o b = M b := by unfold Sto.put; simp [h]
theorem Sto.put_put {M : Sto} {a : Addr} {o u : SO} : (M.put a o).put a u = M.put a u := by
  funext b; unfold Sto.put; split <;> rfl

/-- what is told once for the whole text: the written part, and where its defs stand -/
structure Ctx where
  P : Program
  w : World
  K : PySem.W.Frag
  ga : Str → Option Addr

/-- a list of the written part -/
def KLst (K : PySem.W.Frag) (a : Addr) (vs : List V) : Prop :=
  ∃ (its : Array Value) (n : Nat), K.lookup a = some { cls := .type "list", data := .seq its n } ∧ its.size ≤ sizeLine ∧ Vals vs its.toList
/-- a list: tracked, known to its object, or of the written part -/
def LQ (K : PySem.W.Frag) (H : Hp) (a : Addr) (vs : List V) : Prop := H a = some (.lst vs) ∨ (∃ o, H a = some (.frz o (.lst vs))) ∨ KLst K a vs
theorem LQ.sq {K : PySem.W.Frag} {H : Hp} {a : Addr} {vs : List V} (h : LQ K H a vs) : SqL K H a vs := by
  rcases h with h | ⟨o, h⟩ | ⟨its, n, h1, h2, h3⟩
  · exact .inl (.inl h)
  · exact .inl (.inr ⟨o, h⟩)
  · exact .inr ⟨_, its, n, h1, rfl, rfl, rfl, h2, h3⟩
theorem LQ.isL {X : Cx} {pins : List (Addr × Obj)} {σ : L2.St} {H : Hp} {s : Shared} {a : Addr} {vs : List V} (h : LQ X.K H a vs) (I : L2.Inv X pins σ H s) :
    ∃ (its : List Value) (n : Nat), Vals vs its ∧ s.heap.get? a = some { cls := .type "list", data := .seq its.toArray n } ∧ vs.length ≤ sizeLine := by
  rcases h with h | ⟨o, h⟩ | ⟨its, n, h1, h2, h3⟩
  · obtain ⟨z, its, n, r, e⟩ := I.hok a _ h
    exact ⟨its, n, r, e, z⟩
  · obtain ⟨_, z, its, n, r, e⟩ := I.hok a _ h
    exact ⟨its, n, r, e, z⟩
  · have e := h3.length
    simp only [Array.length_toList] at e
    exact ⟨its.toList, n, h3, by simpa using I.kIn a _ h1, by omega⟩

/-- a dict that holds nothing, told by its object -/
def EmpAt (H : Hp) (a : Addr) : Prop := H a = some (.dK [])

mutual
inductive Rep (C : Ctx) (H : Hp) (M : Sto) (Z : Addr → Prop) : PV → V → Prop
  | non : Rep C H M Z .non .non
  | bl (b : Bool) : Rep C H M Z (.bl b) (.bl b)
  | int (i : Int) : Rep C H M Z (.int i) (.int i)
  | str (x : Str) : Rep C H M Z (.str x) (.str x)
  | tup {a : Addr} {vs : List V} {xs : List PV} : SqT C.K H a vs → RepL C H M Z xs vs → Rep C H M Z (.tup xs) (.ref a)
  | lz {a : Addr} {vs : List V} {xs : List PV} : Z a → H a = some (.lst vs) → RepL C H M Z xs vs → Rep C H M Z (.lst xs) (.ref a)
  | lr {a : Addr} {vs : List V} {xs : List PV} : ((∃ o, H a = some (.frz o (.lst vs))) ∨ KLst C.K a vs) → RepL C H M Z xs vs → Rep C H M Z (.lst xs) (.ref a)
  | ref {a : Addr} : (M a).isSome = true → Rep C H M Z (.ref a) (.ref a)
  | fn {f : Str} {a : Addr} : C.ga f = some a → Rep C H M Z (.fn f) (.ref a)
  | emp {a : Addr} : Z a → EmpAt H a → Rep C H M Z .emp (.ref a)
inductive RepL (C : Ctx) (H : Hp) (M : Sto) (Z : Addr → Prop) : List PV → List V → Prop
  | nil : RepL C H M Z [] []
  | cons {v : PV} {x : V} {vs : List PV} {xs : List V} : Rep C H M Z v x → RepL C H M Z vs xs → RepL C H M Z (v :: vs) (x :: xs)
end

/-- the pairs of a dict with tuple keys, and its entries -/
inductive KVR (C : Ctx) (H : Hp) (M : Sto) (Z : Addr → Prop) : List (PV × PV) → List (NestedKey × Addr × Value) → Prop
  | nil : KVR C H M Z [] []
  | cons {k v : PV} {nk : NestedKey} {b : Addr} {u : Value} {x : V} {kvs : List (PV × PV)} {es : List (NestedKey × Addr × Value)} : k.key = some nk → nk.depth ≤ 8 → Rep C H M Z k (.ref b) → RelV x u → Rep C H M Z v x →
      KVR C H M Z kvs es → KVR C H M Z ((k, v) :: kvs) ((nk, b, u) :: es)
/-- the pairs of a dict with plain keys -/
inductive KSR (C : Ctx) (H : Hp) (M : Sto) (Z : Addr → Prop) : List (Key × PV) → List (Key × V) → Prop
  | nil : KSR C H M Z [] []
  | cons {k : Key} {v : PV} {x : V} {kvs : List (Key × PV)} {es : List (Key × V)} : Rep C H M Z v x → KSR C H M Z kvs es → KSR C H M Z ((k, v) :: kvs) ((k, x) :: es)

/-- an object of the store, in the layer's heap -/
def SBody (C : Ctx) (H : Hp) (M : Sto) (Z : Addr → Prop) (a : Addr) : SO → HO → Prop
  | .lst xs, o => ∃ vs, o = .lst vs ∧ RepL C H M Z xs vs
  | .dct kvs, o => ∃ (xs : List (NestedKey × Addr × Value)) (es : Array DictEntry) (ep : Nat), o = .ext (fun h => DT.Raw h a es ep) ∧ (a == sysModules) = false ∧ es.toList = xs.map (entryOfKey (nestedKind C.P C.w)) ∧ (xs.map (·.1)).Nodup ∧ KVR C H M Z kvs xs
  | .dks kvs, o => ∃ es, o = .dK es ∧ KSR C H M Z kvs es
def SOk (C : Ctx) (H : Hp) (M : Sto) (Z : Addr → Prop) (a : Addr) (so : SO) : Prop := ∃ o, H a = some o ∧ SBody C H M Z a so o

/-- the store and the heap agree -/
structure SR (C : Ctx) (H : Hp) (M : Sto) (Z : Addr → Prop) : Prop where
  sto : ∀ a o, M a = some o → SOk C H M Z a o
  frz : ∀ a, Z a → M a = none ∧ (H a).isSome = true

/-- what later states keep -/
structure Ext (H : Hp) (M : Sto) (Z : Addr → Prop) (H' : Hp) (M' : Sto) (Z' : Addr → Prop) : Prop where
  unm : ∀ a o, H a = some o → M a = none → H' a = some o ∧ M' a = none
  dom : ∀ a, (M a).isSome = true → (M' a).isSome = true
  zz : ∀ a, Z a → Z' a
  hd : ∀ a, (H a).isSome = true → (H' a).isSome = true
  zn : ∀ a, Z' a → Z a ∨ H a = none
/-- what a value's place leans on -/
structure Kp (H : Hp) (M : Sto) (Z : Addr → Prop) (H' : Hp) (M' : Sto) (Z' : Addr → Prop) : Prop where
  tp : ∀ a vs, H a = some (.tup vs) → H' a = some (.tup vs)
  fz : ∀ a o u, H a = some (.frz o u) → H' a = some (.frz o u)
  zs : ∀ a, Z a → H' a = H a
  dom : ∀ a, (M a).isSome = true → (M' a).isSome = true
  zz : ∀ a, Z a → Z' a

section
variable {C : Ctx} {H H1 H2 : Hp} {M M1 M2 : Sto} {Z Z1 Z2 : Addr → Prop}
theorem Ext.refl : Ext H M Z H M Z := ⟨fun _ _ h m => ⟨h, m⟩, fun _ h => h, fun _ h => h, fun _ h => h, fun _ h => .inl h⟩
theorem Ext.trans (x : Ext H M Z H1 M1 Z1) (y : Ext H1 M1 Z1 H2 M2 Z2) : Ext H M Z H2 M2 Z2 :=
  ⟨fun a o h m => let ⟨p, q⟩ := x.unm a o h m; y.unm a o p q, fun a h => y.dom a (x.dom a h), fun a h => y.zz a (x.zz a h), fun a h => y.hd a (x.hd a h), fun a h => by
    rcases y.zn a h with h | h
    · exact x.zn a h
    · refine .inr ?_
      cases e : H a with
      | none => rfl
      | some o =>
        have q := x.hd a (by rw [e]; rfl)
        rw [h] at q; cases q⟩
theorem SBody.mut {a : Addr} {so : SO} {o : HO} (h : SBody C H M Z a so o) : Mut (some o) := by
  cases so with
  | lst xs => obtain ⟨_, rfl, _⟩ := h; trivial
  | dct kvs => obtain ⟨_, _, _, rfl, _⟩ := h; trivial
  | dks kvs => obtain ⟨_, rfl, _⟩ := h; trivial
theorem SR.nomut (r : SR C H M Z) {a : Addr} {o : HO} (h : H a = some o) (n : ¬ Mut (some o)) : M a = none := by
  cases e : M a with
  | none => rfl
  | some so =>
    obtain ⟨u, q, b⟩ := r.sto a so e
    rw [h] at q; cases q
    exact (n b.mut).elim
theorem SR.notup (r : SR C H M Z) {a : Addr} {vs : List V} (h : H a = some (.tup vs)) : M a = none := r.nomut h fun z => z
theorem SR.nofrz (r : SR C H M Z) {a : Addr} {o : Obj} {u : HO} (h : H a = some (.frz o u)) : M a = none := r.nomut h fun z => z
theorem SR.fresh (r : SR C H M Z) {a : Addr} (h : H a = none) : M a = none := by
  cases e : M a with
  | none => rfl
  | some so =>
    obtain ⟨u, q, b⟩ := r.sto a so e
    rw [h] at q; cases q
theorem SR.nz (r : SR C H M Z) {a : Addr} (h : H a = none) : ¬ Z a := fun z => by
  have := (r.frz a z).2
  rw [h] at this; cases this
theorem Ext.kp (r : SR C H M Z) (x : Ext H M Z H1 M1 Z1) : Kp H M Z H1 M1 Z1 :=
  ⟨fun a vs h => (x.unm _ _ h (r.notup h)).1, fun a o u h => (x.unm _ _ h (r.nofrz h)).1, fun a z => by
    obtain ⟨m, h⟩ := r.frz a z
    cases e : H a with
    | none => rw [e] at h; cases h
    | some o => exact (x.unm a o e m).1, x.dom, x.zz⟩
theorem sqT_kp (x : Kp H M Z H1 M1 Z1) {a : Addr} {vs : List V} (h : SqT C.K H a vs) : SqT C.K H1 a vs := by
  rcases h with (h | ⟨o, h⟩) | h
  · exact .inl (.inl (x.tp _ _ h))
  · exact .inl (.inr ⟨o, x.fz _ _ _ h⟩)
  · exact .inr h
theorem sqT_mono (r : SR C H M Z) (x : Ext H M Z H1 M1 Z1) {a : Addr} {vs : List V} (h : SqT C.K H a vs) : SqT C.K H1 a vs := sqT_kp (x.kp r) h
mutual
theorem Rep.kp (x : Kp H M Z H1 M1 Z1) : ∀ {v : PV} {u : V}, Rep C H M Z v u → Rep C H1 M1 Z1 v u
  | _, _, .non => .non
  | _, _, .bl b => .bl b
  | _, _, .int i => .int i
  | _, _, .str s => .str s
  | _, _, .tup h l => .tup (sqT_kp x h) (RepL.kp x l)
  | _, _, .lz z h l => .lz (x.zz _ z) (by rw [x.zs _ z]; exact h) (RepL.kp x l)
  | _, _, .lr h l => .lr (by
      rcases h with ⟨o, h⟩ | h
      · exact .inl ⟨o, x.fz _ _ _ h⟩
      · exact .inr h) (RepL.kp x l)
  | _, _, .ref h => .ref (x.dom _ h)
  | _, _, .fn h => .fn h
  | _, _, .emp z h => .emp (x.zz _ z) (by unfold EmpAt; rw [x.zs _ z]; exact h)
theorem RepL.kp (x : Kp H M Z H1 M1 Z1) : ∀ {vs : List PV} {us : List V}, RepL C H M Z vs us → RepL C H1 M1 Z1 vs us
  | _, _, .nil => .nil
  | _, _, .cons a b => .cons (Rep.kp x a) (RepL.kp x b)
end
theorem Rep.mono (r : SR C H M Z) (x : Ext H M Z H1 M1 Z1) {v : PV} {u : V} (h : Rep C H M Z v u) : Rep C H1 M1 Z1 v u := Rep.kp (x.kp r) h
theorem RepL.mono (r : SR C H M Z) (x : Ext H M Z H1 M1 Z1) {v : List PV} {u : List V} (h : RepL C H M Z v u) : RepL C H1 M1 Z1 v u := RepL.kp (x.kp r) h
theorem KVR.kp (x : Kp H M Z H1 M1 Z1) {kvs : List (PV × PV)} {es : List (NestedKey × Addr × Value)} (h : KVR C H M Z kvs es) : KVR C H1 M1 Z1 kvs es := by
  induction h with
  | nil => exact .nil
  | cons a b c d e _ ih => exact .cons a b (Rep.kp x c) d (Rep.kp x e) ih
theorem KSR.kp (x : Kp H M Z H1 M1 Z1) {kvs : List (Key × PV)} {es : List (Key × V)} (h : KSR C H M Z kvs es) : KSR C H1 M1 Z1 kvs es := by
  induction h with
  | nil => exact .nil
  | cons a _ ih => exact .cons (Rep.kp x a) ih
theorem SBody.kp (x : Kp H M Z H1 M1 Z1) {a : Addr} {so : SO} {o : HO} (h : SBody C H M Z a so o) : SBody C H1 M1 Z1 a so o := by
  cases so with
  | lst xs => obtain ⟨vs, e, l⟩ := h; exact ⟨vs, e, RepL.kp x l⟩
  | dct kvs => obtain ⟨xs, es, ep, e, ns, e2, nd, l⟩ := h; exact ⟨xs, es, ep, e, ns, e2, nd, l.kp x⟩
  | dks kvs => obtain ⟨es, e, l⟩ := h; exact ⟨es, e, l.kp x⟩
theorem SBody.mono (r : SR C H M Z) (x : Ext H M Z H1 M1 Z1) {a : Addr} {so : SO} {o : HO} (h : SBody C H M Z a so o) : SBody C H1 M1 Z1 a so o := h.kp (x.kp r)
theorem RepL.length : ∀ {vs : List PV} {us : List V}, RepL C H M Z vs us → vs.length = us.length
  | _, _, .nil => rfl
  | _, _, .cons _ b => by simp [RepL.length b]
theorem RepL.get : ∀ {vs : List PV} {us : List V} {i : Nat} {v : PV}, RepL C H M Z vs us → vs[i]? = some v → ∃ u, us[i]? = some u ∧ Rep C H M Z v u
  | _, _, _, _, .nil, e => by simp at e
  | _, _, 0, _, .cons a _, e => by simp at e; subst e; exact ⟨_, rfl, a⟩
  | _, _, i + 1, v, .cons _ b, e => by
    obtain ⟨u, h1, h2⟩ := RepL.get (i := i) (v := v) b (by simpa using e)
    exact ⟨u, by simpa using h1, h2⟩
theorem RepL.append : ∀ {vs ws : List PV} {us ts : List V}, RepL C H M Z vs us → RepL C H M Z ws ts → RepL C H M Z (vs ++ ws) (us ++ ts)
  | _, _, _, _, .nil, s => s
  | _, _, _, _, .cons a b, s => .cons a (RepL.append b s)
theorem RepL.take : ∀ {vs : List PV} {us : List V} (n : Nat), RepL C H M Z vs us → RepL C H M Z (vs.take n) (us.take n)
  | _, _, 0, _ => .nil
  | _, _, _ + 1, .nil => .nil
  | _, _, n + 1, .cons a b => .cons a (RepL.take n b)
theorem RepL.drop : ∀ {vs : List PV} {us : List V} (n : Nat), RepL C H M Z vs us → RepL C H M Z (vs.drop n) (us.drop n)
  | _, _, 0, r => r
  | _, _, _ + 1, .nil => .nil
  | _, _, n + 1, .cons _ b => RepL.drop n b
theorem RepL.set {v : PV} {u : V} (r : Rep C H M Z v u) : ∀ {vs : List PV} {us : List V} (i : Nat), RepL C H M Z vs us → RepL C H M Z (vs.set i v) (us.set i u)
  | _, _, _, .nil => .nil
  | _, _, 0, .cons _ b => .cons r b
  | _, _, i + 1, .cons a b => .cons a (RepL.set r i b)
theorem RepL.reverse {vs : List PV} {us : List V} (r : RepL C H M Z vs us) : RepL C H M Z vs.reverse us.reverse := by
  induction vs generalizing us with
  | nil => cases r; exact .nil
  | cons v vs ih =>
    cases r with
    | cons a b => rw [List.reverse_cons, List.reverse_cons]; exact (ih b).append (.cons a .nil)

/-- a new untracked object at p leaves everything -/
theorem upd_some {p a : Addr} {o : HO} (h : (H a).isSome = true) : (upd H p o a).isSome = true := by
  by_cases q : a = p
  · subst q; rw [upd_same]; rfl
  · rw [upd_ne q]; exact h
theorem Ext.new {p : Addr} {o : HO} (h : H p = none) : Ext H M Z (upd H p o) M Z :=
  ⟨fun a u e m => ⟨by rw [upd_ne (ne_of_none e h)]; exact e, m⟩, fun _ h => h, fun _ h => h, fun _ h => upd_some h, fun _ h => .inl h⟩
theorem SR.lift (r : SR C H M Z) (x : Ext H M Z H1 M Z1) (keep : ∀ a o, M a = some o → H1 a = H a) (hz : ∀ a, Z1 a → M a = none ∧ (H1 a).isSome = true) : SR C H1 M Z1 := by
  refine ⟨fun a o e => ?_, hz⟩
  obtain ⟨u, h, b⟩ := r.sto a o e
  exact ⟨u, by rw [keep a _ e]; exact h, b.mono r x⟩
theorem SR.new (r : SR C H M Z) {p : Addr} {o : HO} (h : H p = none) : SR C (upd H p o) M Z :=
  r.lift (Ext.new h) (fun a so e => upd_ne (fun z => by subst z; rw [r.fresh h] at e; cases e)) fun a z => ⟨(r.frz a z).1, by
    have q : a ≠ p := fun q => by subst q; exact r.nz h z
    rw [upd_ne q]; exact (r.frz a z).2⟩
/-- a new object at p that nobody changes any more -/
theorem Ext.newZ {p : Addr} {o : HO} (h : H p = none) : Ext H M Z (upd H p o) M (fun a => a = p ∨ Z a) :=
  ⟨fun a u e m => ⟨by rw [upd_ne (ne_of_none e h)]; exact e, m⟩, fun _ h => h, fun _ h => .inr h, fun _ h => upd_some h, fun a z => by
    rcases z with z | z
    · subst z; exact .inr h
    · exact .inl z⟩
theorem SR.newZ (r : SR C H M Z) {p : Addr} {o : HO} (h : H p = none) : SR C (upd H p o) M (fun a => a = p ∨ Z a) :=
  r.lift (Ext.newZ h) (fun a so e => upd_ne (fun z => by subst z; rw [r.fresh h] at e; cases e)) fun a z => by
    rcases z with z | z
    · subst z; exact ⟨r.fresh h, by rw [upd_same]; rfl⟩
    · have q : a ≠ p := fun q => by subst q; exact r.nz h z
      exact ⟨(r.frz a z).1, by rw [upd_ne q]; exact (r.frz a z).2⟩
/-- a new object at p, in the store -/
theorem Ext.newM {p : Addr} {o : HO} {so : SO} (r : SR C H M Z) (h : H p = none) : Ext H M Z (upd H p o) (M.put p so) Z :=
  ⟨fun a u e m => ⟨by rw [upd_ne (ne_of_none e h)]; exact e, by rw [Sto.put_ne (ne_of_none e h)]; exact m⟩, fun a h' => by
    by_cases q : a = p
    · subst q; rw [Sto.put_same]; rfl
    · rw [Sto.put_ne q]; exact h', fun _ h => h, fun _ h => upd_some h, fun _ h => .inl h⟩
/-- the object at p, new or changed, is so now -/
theorem SR.put (r : SR C H M Z) {p : Addr} {o : HO} {so : SO} (x : Ext H M Z (upd H p o) (M.put p so) Z) (nz : ¬ Z p) (b : SBody C H M Z p so o) : SR C (upd H p o) (M.put p so) Z := by
  refine ⟨fun a u e => ?_, fun a z => ?_⟩
  · by_cases q : a = p
    · subst q
      rw [Sto.put_same] at e
      cases e
      exact ⟨o, upd_same, b.mono r x⟩
    · rw [Sto.put_ne q] at e
      obtain ⟨ho, hu, lu⟩ := r.sto a u e
      exact ⟨ho, by rw [upd_ne q]; exact hu, lu.mono r x⟩
  · have q : a ≠ p := fun e => by subst e; exact nz z
    exact ⟨by rw [Sto.put_ne q]; exact (r.frz a z).1, by rw [upd_ne q]; exact (r.frz a z).2⟩
theorem SR.newM (r : SR C H M Z) {p : Addr} {o : HO} {so : SO} (h : H p = none) (b : SBody C H M Z p so o) : SR C (upd H p o) (M.put p so) Z :=
  r.put (Ext.newM r h) (r.nz h) b
/-- an object of the store is changed -/
theorem Ext.wr {p : Addr} {o : HO} {so so' : SO} (h : M p = some so) : Ext H M Z (upd H p o) (M.put p so') Z :=
  ⟨fun a u e m => by
    have q : a ≠ p := fun z => by subst z; rw [h] at m; cases m
    exact ⟨by rw [upd_ne q]; exact e, by rw [Sto.put_ne q]; exact m⟩, fun a h' => by
    by_cases q : a = p
    · subst q; rw [Sto.put_same]; rfl
    · rw [Sto.put_ne q]; exact h', fun _ h => h, fun _ h => upd_some h, fun _ h => .inl h⟩
theorem SR.wr (r : SR C H M Z) {p : Addr} {o : HO} {so so' : SO} (h : M p = some so) (b : SBody C H M Z p so' o) : SR C (upd H p o) (M.put p so') Z :=
  r.put (Ext.wr h) (fun z => by rw [(r.frz p z).1] at h; cases h) b
/-- a list under way at D, that no value tells -/
theorem Kp.hid {D : Addr} {vs ws : List V} (h : H D = some (.lst vs)) (nz : ¬ Z D) : Kp H M Z (upd H D (.lst ws)) M Z :=
  ⟨fun a us e => by rw [upd_ne (fun q => by subst q; rw [h] at e; cases e)]; exact e, fun a o u e => by rw [upd_ne (fun q => by subst q; rw [h] at e; cases e)]; exact e,
   fun a z => upd_ne (fun q => by subst q; exact nz z), fun _ h => h, fun _ h => h⟩
theorem SR.hid (r : SR C H M Z) {D : Addr} {vs ws : List V} (h : H D = some (.lst vs)) (nz : ¬ Z D) (nm : M D = none) : SR C (upd H D (.lst ws)) M Z := by
  refine ⟨fun a o e => ?_, fun a z => ?_⟩
  · obtain ⟨u, hu, b⟩ := r.sto a o e
    exact ⟨u, by rw [upd_ne (fun q => by subst q; rw [nm] at e; cases e)]; exact hu, b.kp (Kp.hid h nz)⟩
  · rw [upd_ne (fun q => by subst q; exact nz z)]; exact r.frz a z
/-- .. seen from before it was there -/
theorem Ext.hid {D : Addr} {ws : List V} (x : Ext H M Z H1 M1 Z1) (h : H D = none) : Ext H M Z (upd H1 D (.lst ws)) M1 Z1 :=
  ⟨fun a o e m => by
    rw [upd_ne (ne_of_none e h)]; exact x.unm a o e m, x.dom, x.zz, fun a h => upd_some (x.hd a h), x.zn⟩
/-- .. told at last -/
theorem Ext.told {D : Addr} (x : Ext H M Z H1 M1 Z1) (h : H D = none) : Ext H M Z H1 M1 (fun a => a = D ∨ Z1 a) :=
  ⟨x.unm, x.dom, fun a z => .inr (x.zz a z), x.hd, fun a z => by
    rcases z with z | z
    · subst z; exact .inr h
    · exact x.zn a z⟩
theorem SR.told (r : SR C H M Z) {D : Addr} {o : HO} (h : H D = some o) (nm : M D = none) : SR C H M (fun a => a = D ∨ Z a) := by
  have k : Kp H M Z H M (fun a => a = D ∨ Z a) := ⟨fun _ _ h => h, fun _ _ _ h => h, fun _ _ => rfl, fun _ h => h, fun _ h => .inr h⟩
  refine ⟨fun a o e => ?_, fun a z => ?_⟩
  · obtain ⟨u, hu, b⟩ := r.sto a o e
    exact ⟨u, hu, b.kp k⟩
  · rcases z with z | z
    · subst z; exact ⟨nm, by rw [h]; rfl⟩
    · exact r.frz a z
theorem RepL.told {D : Addr} {vs : List PV} {us : List V} (l : RepL C H M Z vs us) : RepL C H M (fun a => a = D ∨ Z a) vs us :=
  RepL.kp ⟨fun _ _ h => h, fun _ _ _ h => h, fun _ _ => rfl, fun _ h => h, fun _ h => .inr h⟩ l
end
end SG
namespace SG
open PySem PySem.Spec PyProof.Rows L2

/-! ### the small language -/
inductive Op where
  | add | addM | sub | mul | mulM | fdiv | mod | pow
inductive Cp where
  | eq | ne | lt | le | gt | ge | is | isnot | isin | notin
inductive Bl where
  | len | abs | max | min | sum | all | any | int | str | repr | tuple | list | listM | sorted | sortedM
inductive Mt where
  | append | extend | insert | index | count | pop
inductive Ty where
  | int | bool | str | tuple | list
/-- targets -/
inductive Tg where
  | nm (i : Nat)
  | tp (gs : List Tg)

mutual
inductive E where
  | var (i : Nat)
  | cst (v : PV)
  | bin (op : Op) (a b : E)
  | neg (a : E)
  | cmp (op : Cp) (a b : E)
  | chain (op op' : Cp) (a b c : E)
  | and (a b : E)
  | or (a b : E)
  | not (a : E)
  | ite (c a b : E)
  | tup (es : List E)
  | lst (mt : Bool) (es : List E)
  | emp
  | ix (a b : E)
  | sl (a : E) (lo hi : Option E)
  | rev (a : E)
  | call (f : Str) (es : List E)
  | callv (i : Nat) (es : List E)
  | blt (b : Bl) (es : List E)
  | mth (m : Mt) (o : E) (es : List E)
  | isi (a : E) (t : Ty)
  | comp (mt : Bool) (g : Tg) (it : It) (c : Option E) (elt : E)
  | lrange (a b : E)
  | sset (mt : Bool) (a : E)
  | never
inductive It where
  | val (e : E)
  | rng (e : E)
  | rng2 (a b : E)
  | zip (es : List E)
  | enm (e : E)
end
inductive S where
  | expr (e : E)
  | asg (g : Tg) (e : E)
  | par (is : List Nat) (es : List E)
  | six (o i e : E)
  | aug (i : Nat) (op : Op) (e : E)
  | augx (o i : E) (op : Op) (e : E)
  | ret (e : E)
  | ret0
  | ite (c : E) (a b : List S)
  | for_ (g : Tg) (it : It) (body : List S)
  | while_ (c : E) (body : List S)
  | pass
  | brk
  | cont
  | never
abbrev Rho := List (Option PV)
abbrev Q1 := PV → Sto → Prop
abbrev FS := Str → List PV → Sto → Q1 → Prop

/-! ### what values do -/
/-- a list's items -/
def lo (M : Sto) : PV → Option (List PV)
  | .lst xs => some xs
  | .ref a => match M a with
    | some (.lst xs) => some xs
    | _ => none
  | _ => none
/-- a list's or a tuple's items -/
def so (M : Sto) : PV → Option (List PV)
  | .tup xs => some xs
  | v => lo M v
def truS (M : Sto) : PV → Option Bool
  | .non => some false
  | .bl b => some b
  | .int i => some (i != 0)
  | .str x => if x.length ≤ sizeLine then some ((x.length : Int) != 0) else none
  | .emp => some false
  | v => (so M v).map fun xs => !xs.isEmpty
def newL (mt : Bool) (xs : List PV) (M : Sto) (Q : Q1) : Prop :=
  if mt = true then ∀ p, M p = none → Q (.ref p) (M.put p (.lst xs)) else Q (.lst xs) M
mutual
/-- plain data -/
def PV.pl : PV → Bool
  | .str x => PyData.strOk x
  | .tup xs => PV.pls xs
  | .lst xs => PV.pls xs
  | .ref _ => false
  | .fn _ => false
  | .emp => false
  | _ => true
def PV.pls : List PV → Bool
  | [] => true
  | x :: r => PV.pl x && PV.pls r
end
mutual
def PV.dep : PV → Nat
  | .tup xs => PV.deps xs + 1
  | .lst xs => PV.deps xs + 1
  | _ => 0
def PV.deps : List PV → Nat
  | [] => 0
  | x :: r => Nat.max (PV.dep x) (PV.deps r)
end
/-- a list of the store as a tree -/
def PV.now (M : Sto) : PV → PV
  | .ref a => match M a with
    | some (.lst xs) => .lst xs
    | _ => .ref a
  | v => v
mutual
/-- == -/
def PV.eqb : PV → PV → Bool
  | .non, .non => true
  | .bl a, .bl b => a == b
  | .bl a, .int j => (if a = true then 1 else 0) == j
  | .int i, .bl b => i == (if b = true then 1 else 0)
  | .int i, .int j => i == j
  | .str x, .str y => x == y
  | .tup xs, .tup ys => PV.eqbs xs ys
  | .lst xs, .lst ys => PV.eqbs xs ys
  | _, _ => false
def PV.eqbs : List PV → List PV → Bool
  | [], [] => true
  | x :: r, y :: t => PV.eqb x y && PV.eqbs r t
  | _, _ => false
end
/-- the two may be compared -/
def cmpOk (M : Sto) (x y : PV) : Prop := (∃ a b, x = .str a ∧ y = .str b) ∨ ((x.now M).pl = true ∧ (y.now M).pl = true ∧ ((x.now M).dep ≤ 64 ∨ (y.now M).dep ≤ 64))
def eqS (M : Sto) (x y : PV) : Bool := PV.eqb (x.now M) (y.now M)
/-- an empty dict is like nothing of other kinds -/
def mulS (mt : Bool) : PV → PV → Sto → Q1 → Prop
  | .int i, .int j, M, Q => ((i.natAbs.log2 < 64 ∨ j.natAbs.log2 < 64) ∨ i.natAbs.log2 + j.natAbs.log2 < 1000000) ∧ Q (.int (i * j)) M
  | .tup xs, .int k, M, Q => 2 ≤ k ∧ k ≤ 1000 ∧ xs ≠ [] ∧ xs.length ≤ 1000 ∧ Q (.tup (List.replicate k.toNat xs).flatten) M
  | x, .int k, M, Q => ∃ xs, lo M x = some xs ∧ -(2 ^ 63) ≤ k ∧ k < 2 ^ 63 ∧ xs.length * k.toNat ≤ sizeLine ∧ newL mt (List.replicate k.toNat xs).flatten M Q
  | _, _, _, _ => False
def addS (mt : Bool) : PV → PV → Sto → Q1 → Prop
  | .int i, .int j, M, Q => Q (.int (i + j)) M
  | .str x, .str y, M, Q => x.length + y.length ≤ sizeLine ∧ Q (.str (x ++ y)) M
  | .tup xs, .tup ys, M, Q => xs.length + ys.length ≤ sizeLine ∧ Q (.tup (xs ++ ys)) M
  | x, y, M, Q => ∃ xs ys, lo M x = some xs ∧ lo M y = some ys ∧ xs.length + ys.length ≤ sizeLine ∧ newL mt (xs ++ ys) M Q
def binS : Op → PV → PV → Sto → Q1 → Prop
  | .add, x, y, M, Q => addS false x y M Q
  | .addM, x, y, M, Q => addS true x y M Q
  | .sub, x, y, M, Q => ∃ i j, x = .int i ∧ y = .int j ∧ Q (.int (i - j)) M
  | .mul, x, y, M, Q => mulS false x y M Q
  | .mulM, x, y, M, Q => mulS true x y M Q
  | .fdiv, x, y, M, Q => ∃ i j, x = .int i ∧ y = .int j ∧ 0 < j ∧ j.natAbs.log2 < 9000 ∧ Q (.int (i / j)) M
  | .mod, x, y, M, Q => ∃ i j, x = .int i ∧ y = .int j ∧ 0 < j ∧ Q (.int (i % j)) M
  | .pow, x, y, M, Q => ∃ i j, x = .int i ∧ y = .int j ∧ 0 ≤ j ∧ j ≤ 1000000 ∧ i.natAbs < 2 ^ 64 ∧ Q (.int (i ^ j.toNat)) M
/-- < of tuples of ints -/
def PV.ints : List PV → Option (List Int)
  | [] => some []
  | .int i :: r => (PV.ints r).map (i :: ·)
  | _ :: _ => none
def ordI (op : Cp) (i j : Int) : Bool := match op with
  | .lt => decide (i < j)
  | .le => decide (i ≤ j)
  | .gt => decide (j < i)
  | .ge => decide (j ≤ i)
  | _ => false
def ordS (op : Cp) : PV → PV → Sto → Q1 → Prop
  | .int i, .int j, M, Q => Q (.bl (ordI op i j)) M
  | .tup xs, .tup ys, M, Q => op = .lt ∧ ∃ ns ms, PV.ints xs = some ns ∧ PV.ints ys = some ms ∧ Q (.bl (HT.lexLt ns ms)) M
  | _, _, _, _ => False
def inS (neg : Bool) (x : PV) : PV → Sto → Q1 → Prop
  | y, M, Q => ∃ ys, so M y = some ys ∧ x.pl = true ∧ PV.pls ys = true ∧ (x.dep ≤ 64 ∨ PV.deps ys ≤ 64) ∧ Q (.bl (if neg = true then !(ys.any fun z => PV.eqb z x) else ys.any fun z => PV.eqb z x)) M
def isS (neg : Bool) : PV → PV → Sto → Q1 → Prop
  | .bl a, .bl b, M, Q => Q (.bl (if neg = true then !(a == b) else a == b)) M
  | x, .non, M, Q => Q (.bl (if neg = true then !(match x with | .non => true | _ => false) else (match x with | .non => true | _ => false))) M
  | _, _, _, _ => False
def cmpS : Cp → PV → PV → Sto → Q1 → Prop
  | .eq, x, y, M, Q => cmpOk M x y ∧ Q (.bl (eqS M x y)) M
  | .ne, x, y, M, Q => cmpOk M x y ∧ Q (.bl (!eqS M x y)) M
  | .is, x, y, M, Q => isS false x y M Q
  | .isnot, x, y, M, Q => isS true x y M Q
  | .isin, x, y, M, Q => inS false x y M Q
  | .notin, x, y, M, Q => inS true x y M Q
  | op, x, y, M, Q => ordS op x y M Q
def ixS : PV → PV → Sto → Q1 → Prop
  | .str z, .int i, M, Q => z.length ≤ sizeLine ∧ ∃ c, atI z.cps.toList i = some c ∧ Q (.str ⟨#[c]⟩) M
  | x, .int i, M, Q => ∃ xs v, so M x = some xs ∧ atI xs i = some v ∧ Q v M
  | _, _, _, _ => False
def cutP {α : Type} (xs : List α) (lo hi : Option Int) : List α := (xs.drop (HT.sIx xs.length 0 lo)).take (HT.sIx xs.length xs.length hi - HT.sIx xs.length 0 lo)
def slS : PV → Option Int → Option Int → Sto → Q1 → Prop
  | .tup xs, l, h, M, Q => Q (.tup (cutP xs l h)) M
  | x, l, h, M, Q => ∃ xs, lo M x = some xs ∧ Q (.lst (cutP xs l h)) M
def revS : PV → Sto → Q1 → Prop
  | .tup xs, M, Q => Q (.tup xs.reverse) M
  | x, M, Q => ∃ xs, lo M x = some xs ∧ Q (.lst xs.reverse) M
def tyS : PV → Sto → Option Ty
  | .bl _, _ => some .bool
  | .int _, _ => some .int
  | .str _, _ => some .str
  | .tup _, _ => some .tuple
  | .lst _, _ => some .list
  | .ref a, M => match M a with
    | some (.lst _) => some .list
    | _ => none
  | _, _ => none
def isiS (x : PV) (M : Sto) (t : Ty) : Option Bool := match x with
  | .non => some false
  | .emp => some false
  | .bl _ => some (match t with | .int => true | .bool => true | _ => false)
  | .int _ => some (match t with | .int => true | _ => false)
  | .str _ => some (match t with | .str => true | _ => false)
  | .tup _ => some (match t with | .tuple => true | _ => false)
  | .lst _ => some (match t with | .list => true | _ => false)
  | .ref a => match M a with
    | some (.lst _) => some (match t with | .list => true | _ => false)
    | _ => none
  | .fn _ => none
def maxI : Int → List Int → Int
  | m, [] => m
  | m, x :: r => maxI (if x > m then x else m) r
def minI : Int → List Int → Int
  | m, [] => m
  | m, x :: r => minI (if x < m then x else m) r
def PV.bools : List PV → Option (List Bool)
  | [] => some []
  | .bl i :: r => (PV.bools r).map (i :: ·)
  | _ :: _ => none
/-- one argument, by its value -/
def one1 (f : PV → Sto → Q1 → Prop) : List PV → Sto → Q1 → Prop
  | [v], M, Q => f v M Q
  | _, _, _ => False
def lenS : PV → Sto → Q1 → Prop
  | .str x, M, Q => x.length ≤ sizeLine ∧ Q (.int x.length) M
  | v, M, Q => ∃ xs, so M v = some xs ∧ Q (.int xs.length) M
def absS : PV → Sto → Q1 → Prop
  | .int i, M, Q => Q (.int (if i < 0 then -i else i)) M
  | _, _, _ => False
def maxS : List PV → Sto → Q1 → Prop
  | [x, y], M, Q => ∃ i j, x = .int i ∧ y = .int j ∧ Q (.int (if j > i then j else i)) M
  | [v], M, Q => ∃ xs n ns, lo M v = some xs ∧ PV.ints xs = some (n :: ns) ∧ Q (.int (maxI n ns)) M
  | _, _, _ => False
def minS : List PV → Sto → Q1 → Prop
  | [x, y], M, Q => ∃ i j, x = .int i ∧ y = .int j ∧ Q (.int (if j < i then j else i)) M
  | [v], M, Q => ∃ xs n ns, lo M v = some xs ∧ PV.ints xs = some (n :: ns) ∧ Q (.int (minI n ns)) M
  | _, _, _ => False
def intS : PV → Sto → Q1 → Prop
  | .int i, M, Q => Q (.int i) M
  | .bl b, M, Q => Q (.int (if b = true then 1 else 0)) M
  | _, _, _ => False
def strS : PV → Sto → Q1 → Prop
  | .int i, M, Q => i.natAbs.log2 < 1920 ∧ Q (.str (toString i)) M
  | _, _, _ => False
mutual
def PV.dat : PV → PyData
  | .non => .none
  | .bl b => .bool b
  | .int i => .int i
  | .str x => .str x
  | .tup xs => .tuple (PV.dats xs)
  | .lst xs => .list (PV.dats xs)
  | .ref _ => .none
  | .fn _ => .none
  | .emp => .none
def PV.dats : List PV → List PyData
  | [] => []
  | x :: r => PV.dat x :: PV.dats r
end
/-- what repr can show -/
def repOk (v : PV) : Prop := v.pl = true ∧ v.dep ≤ 60 ∧ v.dat.showable = true ∧ v.dat.shown.length ≤ sizeLine
def bltS : Bl → List PV → Sto → Q1 → Prop
  | .len => one1 lenS
  | .abs => one1 absS
  | .max => maxS
  | .min => minS
  | .sum => one1 fun v M Q => ∃ xs ns, lo M v = some xs ∧ PV.ints xs = some ns ∧ Q (.int ns.sum) M
  | .all => one1 fun v M Q => ∃ xs bs, lo M v = some xs ∧ PV.bools xs = some bs ∧ Q (.bl (bs.all id)) M
  | .any => one1 fun v M Q => ∃ xs bs, lo M v = some xs ∧ PV.bools xs = some bs ∧ Q (.bl (bs.any id)) M
  | .int => one1 intS
  | .str => one1 strS
  | .repr => one1 fun v M Q => repOk (v.now M) ∧ Q (.str (v.now M).dat.shown) M
  | .tuple => one1 fun v M Q => ∃ xs, so M v = some xs ∧ Q (.tup xs) M
  | .list => one1 fun v M Q => ∃ xs, so M v = some xs ∧ Q (.lst xs) M
  | .listM => one1 fun v M Q => ∃ xs, so M v = some xs ∧ newL true xs M Q
  | .sorted => fun _ _ _ => False
  | .sortedM => fun _ _ _ => False
def mthS : Mt → PV → List PV → Sto → Q1 → Prop
  | .append, x, [y], M, Q => ∃ a xs, x = .ref a ∧ M a = some (.lst xs) ∧ xs.length < sizeLine ∧ Q .non (M.put a (.lst (xs ++ [y])))
  | .extend, x, [y], M, Q => ∃ a xs ys, x = .ref a ∧ M a = some (.lst xs) ∧ lo M y = some ys ∧ xs.length + ys.length ≤ sizeLine ∧ Q .non (M.put a (.lst (xs ++ ys)))
  | _, _, _, _, _ => False
/-- what a method's own object must be -/
def rcvS : Mt → PV → Sto → Prop
  | _, x, M => ∃ ys, lo M x = some ys
/-- o[i] = v -/
def setS : PV → PV → PV → Sto → (Sto → Prop) → Prop
  | .ref a, .int k, v, M, Q => ∃ xs j, M a = some (.lst xs) ∧ ixN xs.length k = some j ∧ Q (M.put a (.lst (xs.set j v)))
  | _, _, _, _, _ => False

/-- sorted(set(x)) -/
def ssetS (mt : Bool) (x : PV) (M : Sto) (Q : Q1) : Prop := ∃ y r k, lo M x = some [.tup (y :: r)] ∧ (PV.tup (y :: r)).key = some k ∧ k.depth ≤ 8 ∧ (PV.tup (y :: r)).pl = true ∧ (PV.tup (y :: r)).dep ≤ 40 ∧ newL mt [.tup (y :: r)] M Q

/-! ### names -/
def setAll : List Nat → List PV → Rho → Rho
  | i :: is, v :: vs, ρ => setAll is vs (ρ.set i (some v))
  | _, _, ρ => ρ
mutual
def bindT : Tg → PV → Rho → Option Rho
  | .nm i, v, ρ => some (ρ.set i (some v))
  | .tp gs, v, ρ => (match v with
    | .tup vs => bindTs gs vs ρ
    | .lst vs => bindTs gs vs ρ
    | _ => none)
def bindTs : List Tg → List PV → Rho → Option Rho
  | [], vs, ρ => (match vs with
    | [] => some ρ
    | _ => none)
  | g :: gs, vs, ρ => (match vs with
    | v :: r => (match bindT g v ρ with
      | some ρ' => bindTs gs r ρ'
      | none => none)
    | [] => none)
end

/-! ### what is walked -/
/-- the items, and what must stay while they are walked -/
abbrev QI := List PV → (Sto → Prop) → Sto → Prop
def walkS (v : PV) (M : Sto) (Q : QI) : Prop :=
  match v with
  | .tup xs => Q xs (fun _ => True) M
  | .lst xs => Q xs (fun _ => True) M
  | .ref a => ∃ xs, M a = some (.lst xs) ∧ Q xs (fun M' => M' a = some (.lst xs)) M
  | _ => False
def rngL (lo hi : Int) : List PV := (List.range (hi - lo).toNat).map fun i => .int (lo + (i : Nat))
def zipL : List PV → List PV → List PV
  | x :: r, y :: t => .tup [x, y] :: zipL r t
  | _, _ => []
def zipL3 : List PV → List PV → List PV → List PV
  | x :: r, y :: t, z :: u => .tup [x, y, z] :: zipL3 r t u
  | _, _, _ => []
def enmL : Nat → List PV → List PV
  | _, [] => []
  | i, x :: r => .tup [.int i, x] :: enmL (i + 1) r
/-- what zip walks -/
def srcS : PV → Option (List PV)
  | .tup xs => some xs
  | .lst xs => some xs
  | _ => none
def zipS (vs : List PV) (M : Sto) (Q : QI) : Prop :=
  match vs with
  | [x, y] => ∃ xs ys, srcS x = some xs ∧ srcS y = some ys ∧ Q (zipL xs ys) (fun _ => True) M
  | [x, y, z] => ∃ xs ys zs, srcS x = some xs ∧ srcS y = some ys ∧ srcS z = some zs ∧ Q (zipL3 xs ys zs) (fun _ => True) M
  | _ => False

/-! ### comprehensions and loops -/
def compL (step : PV → Sto → (Option PV → Sto → Prop) → Prop) (keep : Sto → Prop) : List PV → List PV → Sto → (List PV → Sto → Prop) → Prop
  | [], acc, M, Q => Q acc M
  | x :: r, acc, M, Q => step x M fun o M' => keep M' ∧ compL step keep r (match o with | some v => acc ++ [v] | none => acc) M' Q
structure Ends where
  nx : Rho → Sto → Prop
  rt : PV → Sto → Prop
  bk : Rho → Sto → Prop
  ct : Rho → Sto → Prop
def forL (turn : PV → Rho → Sto → (Rho → Sto → Prop) → Prop) (keep : Sto → Prop) (done : Rho → Sto → Prop) : List PV → Rho → Sto → Prop
  | [], ρ, M => done ρ M
  | x :: r, ρ, M => turn x ρ M fun ρ' M' => keep M' ∧ forL turn keep done r ρ' M'
def whileN (turn : Rho → Sto → (Rho → Sto → Prop) → Prop) : Nat → Rho → Sto → Prop
  | 0, _, _ => False
  | n + 1, ρ, M => turn ρ M fun ρ' M' => whileN turn n ρ' M'

mutual
def wpE (F : FS) : E → Rho → Sto → Q1 → Prop
  | .var i, ρ, M, Q => ∃ v, ρ[i]? = some (some v) ∧ Q v M
  | .cst v, _, M, Q => Q v M
  | .bin op a b, ρ, M, Q => wpE F a ρ M fun x M1 => wpE F b ρ M1 fun y M2 => binS op x y M2 Q
  | .neg a, ρ, M, Q => wpE F a ρ M fun x M1 => ∃ i, x = .int i ∧ Q (.int (-i)) M1
  | .cmp op a b, ρ, M, Q => wpE F a ρ M fun x M1 => wpE F b ρ M1 fun y M2 => cmpS op x y M2 Q
  | .chain op op' a b c, ρ, M, Q => wpE F a ρ M fun x M1 => wpE F b ρ M1 fun y M2 => cmpS op x y M2 fun z M3 => ∃ k, z = .bl k ∧ if k = true then wpE F c ρ M3 (fun w M4 => cmpS op' y w M4 Q) else Q (.bl false) M3
  | .and a b, ρ, M, Q => wpE F a ρ M fun x M1 => ∃ k, truS M1 x = some k ∧ if k = true then wpE F b ρ M1 Q else Q x M1
  | .or a b, ρ, M, Q => wpE F a ρ M fun x M1 => ∃ k, truS M1 x = some k ∧ if k = true then Q x M1 else wpE F b ρ M1 Q
  | .not a, ρ, M, Q => wpE F a ρ M fun x M1 => ∃ k, truS M1 x = some k ∧ Q (.bl (!k)) M1
  | .ite c a b, ρ, M, Q => wpE F c ρ M fun x M1 => ∃ k, truS M1 x = some k ∧ if k = true then wpE F a ρ M1 Q else wpE F b ρ M1 Q
  | .tup es, ρ, M, Q => wpL F es ρ M fun vs M1 => Q (.tup vs) M1
  | .lst mt es, ρ, M, Q => wpL F es ρ M fun vs M1 => newL mt vs M1 Q
  | .emp, _, M, Q => Q .emp M
  | .ix a b, ρ, M, Q => wpE F a ρ M fun x M1 => wpE F b ρ M1 fun y M2 => ixS x y M2 Q
  | .sl a l h, ρ, M, Q => wpE F a ρ M fun x M1 => wpO F l ρ M1 fun i M2 => wpO F h ρ M2 fun j M3 => slS x i j M3 Q
  | .rev a, ρ, M, Q => wpE F a ρ M fun x M1 => revS x M1 Q
  | .call f es, ρ, M, Q => wpL F es ρ M fun vs M1 => F f vs M1 Q
  | .callv i es, ρ, M, Q => ∃ f, ρ[i]? = some (some (.fn f)) ∧ wpL F es ρ M fun vs M1 => F f vs M1 Q
  | .blt b es, ρ, M, Q => wpL F es ρ M fun vs M1 => bltS b vs M1 Q
  | .mth m o es, ρ, M, Q => wpE F o ρ M fun x M1 => rcvS m x M1 ∧ wpL F es ρ M1 fun vs M2 => mthS m x vs M2 Q
  | .isi a t, ρ, M, Q => wpE F a ρ M fun x M1 => ∃ k, isiS x M1 t = some k ∧ Q (.bl k) M1
  | .comp mt g it c elt, ρ, M, Q => wpI F it ρ M fun items keep M1 => items.length ≤ sizeLine ∧
      compL (fun x M' k => ∃ ρ', bindT g x ρ = some ρ' ∧ wpC F c ρ' M' fun b M2 => if b = true then wpE F elt ρ' M2 fun v M3 => k (some v) M3 else k none M2) keep items [] M1 fun acc M2 => newL mt acc M2 Q
  | .lrange a b, ρ, M, Q => wpE F a ρ M fun x M1 => wpE F b ρ M1 fun y M2 => ∃ i j, x = .int i ∧ y = .int j ∧ -(2 ^ 62) ≤ i ∧ j < 2 ^ 62 ∧ j - i ≤ 1000000 ∧ Q (.lst (rngL i j)) M2
  | .sset mt a, ρ, M, Q => wpE F a ρ M fun x M1 => ssetS mt x M1 Q
  | .never, _, _, _ => False
def wpL (F : FS) : List E → Rho → Sto → (List PV → Sto → Prop) → Prop
  | [], _, M, Q => Q [] M
  | e :: r, ρ, M, Q => wpE F e ρ M fun v M1 => wpL F r ρ M1 fun vs M2 => Q (v :: vs) M2
def wpO (F : FS) : Option E → Rho → Sto → (Option Int → Sto → Prop) → Prop
  | none, _, M, Q => Q none M
  | some e, ρ, M, Q => wpE F e ρ M fun v M1 => ∃ i, v = .int i ∧ Q (some i) M1
def wpC (F : FS) : Option E → Rho → Sto → (Bool → Sto → Prop) → Prop
  | none, _, M, Q => Q true M
  | some e, ρ, M, Q => wpE F e ρ M fun v M1 => ∃ k, truS M1 v = some k ∧ Q k M1
def wpI (F : FS) : It → Rho → Sto → QI → Prop
  | .val e, ρ, M, Q => wpE F e ρ M fun v M1 => walkS v M1 Q
  | .rng e, ρ, M, Q => wpE F e ρ M fun v M1 => ∃ j, v = .int j ∧ -(2 ^ 62) ≤ j ∧ j < 2 ^ 62 ∧ Q (rngL 0 j) (fun _ => True) M1
  | .rng2 a b, ρ, M, Q => wpE F a ρ M fun x M1 => wpE F b ρ M1 fun y M2 => ∃ i j, x = .int i ∧ y = .int j ∧ -(2 ^ 62) ≤ i ∧ i < 2 ^ 62 ∧ -(2 ^ 62) ≤ j ∧ j < 2 ^ 62 ∧ Q (rngL i j) (fun _ => True) M2
  | .zip es, ρ, M, Q => wpL F es ρ M fun vs M1 => zipS vs M1 Q
  | .enm e, ρ, M, Q => wpE F e ρ M fun v M1 => ∃ xs, (v = .lst xs ∨ v = .tup xs) ∧ Q (enmL 0 xs) (fun _ => True) M1
end
mutual
def wpS (F : FS) : S → Rho → Sto → Ends → Prop
  | .expr e, ρ, M, D => wpE F e ρ M fun _ M1 => D.nx ρ M1
  | .asg g e, ρ, M, D => wpE F e ρ M fun v M1 => ∃ ρ', bindT g v ρ = some ρ' ∧ D.nx ρ' M1
  | .par is es, ρ, M, D => wpL F es ρ M fun vs M1 => D.nx (setAll is vs ρ) M1
  | .six o i e, ρ, M, D => wpE F e ρ M fun v M1 => wpE F o ρ M1 fun x M2 => wpE F i ρ M2 fun y M3 => setS x y v M3 fun M4 => D.nx ρ M4
  | .aug i op e, ρ, M, D => ∃ x, ρ[i]? = some (some x) ∧ wpE F e ρ M fun y M1 => binS op x y M1 fun z M2 => D.nx (ρ.set i (some z)) M2
  | .augx o i op e, ρ, M, D => wpE F o ρ M fun x M1 => wpE F i ρ M1 fun y M2 => ixS x y M2 fun u M3 => wpE F e ρ M3 fun v M4 => binS op u v M4 fun z M5 => setS x y z M5 fun M6 => D.nx ρ M6
  | .ret e, ρ, M, D => wpE F e ρ M D.rt
  | .ret0, _, M, D => D.rt .non M
  | .ite c a b, ρ, M, D => wpE F c ρ M fun x M1 => ∃ k, truS M1 x = some k ∧ if k = true then wpSs F a ρ M1 D else wpSs F b ρ M1 D
  | .for_ g it body, ρ, M, D => wpI F it ρ M fun items keep M1 =>
      forL (fun x ρ1 M' k => ∃ ρ', bindT g x ρ1 = some ρ' ∧ wpSs F body ρ' M' ⟨k, D.rt, D.nx, k⟩) keep D.nx items ρ M1
  | .while_ c body, ρ, M, D => ∃ n, whileN (fun ρ1 M1 k => wpE F c ρ1 M1 fun x M2 => ∃ b, truS M2 x = some b ∧ if b = true then wpSs F body ρ1 M2 ⟨k, D.rt, D.nx, k⟩ else D.nx ρ1 M2) n ρ M
  | .pass, ρ, M, D => D.nx ρ M
  | .brk, ρ, M, D => D.bk ρ M
  | .cont, ρ, M, D => D.ct ρ M
  | .never, _, _, _ => False
def wpSs (F : FS) : List S → Rho → Sto → Ends → Prop
  | [], ρ, M, D => D.nx ρ M
  | s :: r, ρ, M, D => wpS F s ρ M { D with nx := fun ρ' M' => wpSs F r ρ' M' D }
end
end SG
namespace SG
open PySem PySem.Spec PyProof.Rows L2
/-! what is wanted may be weakened -/
def Mono1 {α : Type} (f : (α → Sto → Prop) → Prop) : Prop := ∀ Q Q', (∀ v M, Q v M → Q' v M) → f Q → f Q'
def FMono (F : FS) : Prop := ∀ f vs M, Mono1 (F f vs M)
section
variable {Q Q' : Q1} (i : ∀ v M, Q v M → Q' v M)
include i
theorem newL_mono {mt : Bool} {xs : List PV} {M : Sto} (h : newL mt xs M Q) : newL mt xs M Q' := by
  cases mt with
  | true => exact fun p hp => i _ _ (h p hp)
  | false => exact i _ _ h
theorem addS_mono {mt : Bool} {x y : PV} {M : Sto} (h : addS mt x y M Q) : addS mt x y M Q' := by
  unfold addS at h ⊢
  split at h
  · exact i _ _ h
  · exact ⟨h.1, i _ _ h.2⟩
  · exact ⟨h.1, i _ _ h.2⟩
  · obtain ⟨xs, ys, h1, h2, h3, h4⟩ := h
    exact ⟨xs, ys, h1, h2, h3, newL_mono i h4⟩
theorem mulS_mono {mt : Bool} {x y : PV} {M : Sto} (h : mulS mt x y M Q) : mulS mt x y M Q' := by
  unfold mulS at h ⊢
  split at h
  · exact ⟨h.1, i _ _ h.2⟩
  · obtain ⟨h1, h2, h3, h4, h5⟩ := h
    exact ⟨h1, h2, h3, h4, i _ _ h5⟩
  · obtain ⟨xs, h1, h2, h3, h4, h5⟩ := h
    exact ⟨xs, h1, h2, h3, h4, newL_mono i h5⟩
  · exact h
theorem binS_mono {op : Op} {x y : PV} {M : Sto} (h : binS op x y M Q) : binS op x y M Q' := by
  cases op with
  | add => exact addS_mono i h
  | addM => exact addS_mono i h
  | mul => exact mulS_mono i h
  | mulM => exact mulS_mono i h
  | sub => obtain ⟨a, b, h1, h2, h3⟩ := h; exact ⟨a, b, h1, h2, i _ _ h3⟩
  | fdiv => obtain ⟨a, b, h1, h2, h3, h4, h5⟩ := h; exact ⟨a, b, h1, h2, h3, h4, i _ _ h5⟩
  | mod => obtain ⟨a, b, h1, h2, h3, h4⟩ := h; exact ⟨a, b, h1, h2, h3, i _ _ h4⟩
  | pow => obtain ⟨a, b, h1, h2, h3, h4, h5, h6⟩ := h; exact ⟨a, b, h1, h2, h3, h4, h5, i _ _ h6⟩
theorem ordS_mono {op : Cp} {x y : PV} {M : Sto} (h : ordS op x y M Q) : ordS op x y M Q' := by
  unfold ordS at h ⊢
  split at h
  · exact i _ _ h
  · obtain ⟨e, ns, ms, h1, h2, q⟩ := h
    exact ⟨e, ns, ms, h1, h2, i _ _ q⟩
  · exact h
theorem isS_mono {neg : Bool} {x y : PV} {M : Sto} (h : isS neg x y M Q) : isS neg x y M Q' := by
  unfold isS at h ⊢
  split at h
  · exact i _ _ h
  · exact i _ _ h
  · exact h
theorem inS_mono {neg : Bool} {x y : PV} {M : Sto} (h : inS neg x y M Q) : inS neg x y M Q' := by
  obtain ⟨ys, h1, h2, h3, h4, q⟩ := h
  exact ⟨ys, h1, h2, h3, h4, i _ _ q⟩
theorem cmpS_mono {op : Cp} {x y : PV} {M : Sto} (h : cmpS op x y M Q) : cmpS op x y M Q' := by
  cases op with
  | eq => exact ⟨h.1, i _ _ h.2⟩
  | ne => exact ⟨h.1, i _ _ h.2⟩
  | lt => exact ordS_mono i (op := .lt) h
  | le => exact ordS_mono i (op := .le) h
  | gt => exact ordS_mono i (op := .gt) h
  | ge => exact ordS_mono i (op := .ge) h
  | is => exact isS_mono i (neg := false) h
  | isnot => exact isS_mono i (neg := true) h
  | isin => exact inS_mono i (neg := false) h
  | notin => exact inS_mono i (neg := true) h
theorem ixS_mono {x y : PV} {M : Sto} (h : ixS x y M Q) : ixS x y M Q' := by
  unfold ixS at h ⊢
  split at h
  · obtain ⟨h1, c, h2, h3⟩ := h
    exact ⟨h1, c, h2, i _ _ h3⟩
  · obtain ⟨xs, v, h1, h2, h3⟩ := h
    exact ⟨xs, v, h1, h2, i _ _ h3⟩
  · exact h
theorem slS_mono {x : PV} {l u : Option Int} {M : Sto} (h : slS x l u M Q) : slS x l u M Q' := by
  unfold slS at h ⊢
  split at h
  · exact i _ _ h
  · obtain ⟨xs, h1, h3⟩ := h
    exact ⟨xs, h1, i _ _ h3⟩
theorem one1_mono {f : PV → Sto → Q1 → Prop} (hf : ∀ v M, f v M Q → f v M Q') {vs : List PV} {M : Sto} (h : one1 f vs M Q) : one1 f vs M Q' := by
  unfold one1 at h ⊢
  split at h
  · exact hf _ _ h
  · exact h
theorem lenS_mono (v : PV) (M : Sto) (h : lenS v M Q) : lenS v M Q' := by
  unfold lenS at h ⊢
  split at h
  · exact ⟨h.1, i _ _ h.2⟩
  · obtain ⟨xs, h1, h2⟩ := h; exact ⟨xs, h1, i _ _ h2⟩
theorem bltS_mono {b : Bl} {vs : List PV} {M : Sto} (h : bltS b vs M Q) : bltS b vs M Q' := by
  cases b with
  | len => exact one1_mono i (lenS_mono i) h
  | abs => refine one1_mono i (fun v M h => ?_) h; unfold absS at h ⊢; split at h <;> first | exact i _ _ h | exact h
  | max =>
    have h : maxS vs M Q := h
    show maxS vs M Q'
    unfold maxS at h ⊢
    split at h
    · obtain ⟨a, b, h1, h2, h3⟩ := h; exact ⟨a, b, h1, h2, i _ _ h3⟩
    · obtain ⟨xs, n, ns, h1, h2, h3⟩ := h; exact ⟨xs, n, ns, h1, h2, i _ _ h3⟩
    · exact h
  | min =>
    have h : minS vs M Q := h
    show minS vs M Q'
    unfold minS at h ⊢
    split at h
    · obtain ⟨a, b, h1, h2, h3⟩ := h; exact ⟨a, b, h1, h2, i _ _ h3⟩
    · obtain ⟨xs, n, ns, h1, h2, h3⟩ := h; exact ⟨xs, n, ns, h1, h2, i _ _ h3⟩
    · exact h
  | sum => exact one1_mono i (fun v M ⟨xs, ns, h1, h2, h3⟩ => ⟨xs, ns, h1, h2, i _ _ h3⟩) h
  | all => exact one1_mono i (fun v M ⟨xs, ns, h1, h2, h3⟩ => ⟨xs, ns, h1, h2, i _ _ h3⟩) h
  | any => exact one1_mono i (fun v M ⟨xs, ns, h1, h2, h3⟩ => ⟨xs, ns, h1, h2, i _ _ h3⟩) h
  | int => refine one1_mono i (fun v M h => ?_) h; unfold intS at h ⊢; split at h <;> first | exact i _ _ h | exact h
  | str => refine one1_mono i (fun v M h => ?_) h; unfold strS at h ⊢; split at h <;> first | exact ⟨h.1, i _ _ h.2⟩ | exact h
  | repr => exact one1_mono i (fun v M ⟨h1, h2⟩ => ⟨h1, i _ _ h2⟩) h
  | tuple => exact one1_mono i (fun v M ⟨xs, h1, h2⟩ => ⟨xs, h1, i _ _ h2⟩) h
  | list => exact one1_mono i (fun v M ⟨xs, h1, h2⟩ => ⟨xs, h1, i _ _ h2⟩) h
  | listM => exact one1_mono i (fun v M ⟨xs, h1, h2⟩ => ⟨xs, h1, newL_mono i h2⟩) h
  | sorted => exact h
  | sortedM => exact h
theorem mthS_mono {m : Mt} {x : PV} {vs : List PV} {M : Sto} (h : mthS m x vs M Q) : mthS m x vs M Q' := by
  unfold mthS at h ⊢
  split at h
  · obtain ⟨a, xs, h1, h2, h3, h4⟩ := h; exact ⟨a, xs, h1, h2, h3, i _ _ h4⟩
  · obtain ⟨a, xs, ys, h1, h2, h3, h4, h5⟩ := h; exact ⟨a, xs, ys, h1, h2, h3, h4, i _ _ h5⟩
  · exact h
end
theorem revS_mono {x : PV} {M : Sto} {Q Q' : Q1} (i : ∀ v M, Q v M → Q' v M) (h : revS x M Q) : revS x M Q' := by
  unfold revS at h ⊢
  split at h
  · exact i _ _ h
  · obtain ⟨xs, h1, h2⟩ := h; exact ⟨xs, h1, i _ _ h2⟩
theorem setS_mono {x y z : PV} {M : Sto} {Q Q' : Sto → Prop} (i : ∀ M, Q M → Q' M) (h : setS x y z M Q) : setS x y z M Q' := by
  unfold setS at h ⊢
  split at h
  · obtain ⟨xs, j, h1, h2, h3⟩ := h; exact ⟨xs, j, h1, h2, i _ h3⟩
  · exact h
theorem walkS_mono {v : PV} {M : Sto} {Q Q' : QI} (i : ∀ xs k M, Q xs k M → Q' xs k M) (h : walkS v M Q) : walkS v M Q' := by
  unfold walkS at h ⊢
  split at h
  · exact i _ _ _ h
  · exact i _ _ _ h
  · obtain ⟨xs, h1, h2⟩ := h; exact ⟨xs, h1, i _ _ _ h2⟩
  · exact h
theorem zipS_mono {vs : List PV} {M : Sto} {Q Q' : QI} (i : ∀ xs k M, Q xs k M → Q' xs k M) (h : zipS vs M Q) : zipS vs M Q' := by
  unfold zipS at h ⊢
  split at h
  · obtain ⟨xs, ys, h1, h2, h3⟩ := h; exact ⟨xs, ys, h1, h2, i _ _ _ h3⟩
  · obtain ⟨xs, ys, zs, h1, h2, h3, h4⟩ := h; exact ⟨xs, ys, zs, h1, h2, h3, i _ _ _ h4⟩
  · exact h
theorem compL_mono {st : PV → Sto → (Option PV → Sto → Prop) → Prop} {keep : Sto → Prop} (hs : ∀ x M, Mono1 (st x M)) : ∀ (xs acc : List PV) (M : Sto) (Q Q' : List PV → Sto → Prop), (∀ v M, Q v M → Q' v M) → compL st keep xs acc M Q → compL st keep xs acc M Q'
  | [], acc, M, Q, Q', i, h => i _ _ h
  | x :: r, acc, M, Q, Q', i, h => hs x M _ _ (fun o M' ⟨h1, h2⟩ => ⟨h1, compL_mono hs r _ M' Q Q' i h2⟩) h
variable {F : FS} (hF : FMono F)
include hF
mutual
theorem wpE_mono : ∀ (e : E) (ρ : Rho) (M : Sto) (Q Q' : Q1), (∀ v M, Q v M → Q' v M) → wpE F e ρ M Q → wpE F e ρ M Q'
  | .var k, ρ, M, Q, Q', i, h => by obtain ⟨v, h1, h2⟩ := h; exact ⟨v, h1, i _ _ h2⟩
  | .cst v, ρ, M, Q, Q', i, h => i _ _ h
  | .sset mt a, ρ, M, Q, Q', i, h => wpE_mono a ρ M _ _ (fun _ _ ⟨y, r, k, h1, h2, h3, h4, h5, h6⟩ => ⟨y, r, k, h1, h2, h3, h4, h5, newL_mono i h6⟩) h
  | .never, ρ, M, Q, Q', i, h => h
  | .bin op a b, ρ, M, Q, Q', i, h => wpE_mono a ρ M _ _ (fun _ _ h => wpE_mono b ρ _ _ _ (fun _ _ h => binS_mono i h) h) h
  | .neg a, ρ, M, Q, Q', i, h => wpE_mono a ρ M _ _ (fun _ _ ⟨j, h1, h2⟩ => ⟨j, h1, i _ _ h2⟩) h
  | .cmp op a b, ρ, M, Q, Q', i, h => wpE_mono a ρ M _ _ (fun _ _ h => wpE_mono b ρ _ _ _ (fun _ _ h => cmpS_mono i h) h) h
  | .chain op op' a b c, ρ, M, Q, Q', i, h => wpE_mono a ρ M _ _ (fun _ _ h => wpE_mono b ρ _ _ _ (fun _ _ h => cmpS_mono (fun z M3 ⟨k, h1, h2⟩ => ⟨k, h1, by
      cases k with
      | true => rw [if_pos rfl] at h2 ⊢; exact wpE_mono c ρ _ _ _ (fun _ _ h => cmpS_mono i h) h2
      | false => rw [if_neg Bool.false_ne_true] at h2 ⊢; exact i _ _ h2⟩) h) h) h
  | .and a b, ρ, M, Q, Q', i, h => wpE_mono a ρ M _ _ (fun x M1 ⟨k, h1, h2⟩ => ⟨k, h1, by
      cases k with
      | true => rw [if_pos rfl] at h2 ⊢; exact wpE_mono b ρ _ _ _ i h2
      | false => rw [if_neg Bool.false_ne_true] at h2 ⊢; exact i _ _ h2⟩) h
  | .or a b, ρ, M, Q, Q', i, h => wpE_mono a ρ M _ _ (fun x M1 ⟨k, h1, h2⟩ => ⟨k, h1, by
      cases k with
      | true => rw [if_pos rfl] at h2 ⊢; exact i _ _ h2
      | false => rw [if_neg Bool.false_ne_true] at h2 ⊢; exact wpE_mono b ρ _ _ _ i h2⟩) h
  | .not a, ρ, M, Q, Q', i, h => wpE_mono a ρ M _ _ (fun x M1 ⟨k, h1, h2⟩ => ⟨k, h1, i _ _ h2⟩) h
  | .ite c a b, ρ, M, Q, Q', i, h => wpE_mono c ρ M _ _ (fun x M1 ⟨k, h1, h2⟩ => ⟨k, h1, by
      cases k with
      | true => rw [if_pos rfl] at h2 ⊢; exact wpE_mono a ρ _ _ _ i h2
      | false => rw [if_neg Bool.false_ne_true] at h2 ⊢; exact wpE_mono b ρ _ _ _ i h2⟩) h
  | .tup es, ρ, M, Q, Q', i, h => wpL_mono es ρ M _ _ (fun _ _ h => i _ _ h) h
  | .lst mt es, ρ, M, Q, Q', i, h => wpL_mono es ρ M _ _ (fun _ _ h => newL_mono i h) h
  | .emp, ρ, M, Q, Q', i, h => i _ _ h
  | .ix a b, ρ, M, Q, Q', i, h => wpE_mono a ρ M _ _ (fun _ _ h => wpE_mono b ρ _ _ _ (fun _ _ h => ixS_mono i h) h) h
  | .sl a l u, ρ, M, Q, Q', i, h => wpE_mono a ρ M _ _ (fun _ _ h => wpO_mono l ρ _ _ _ (fun _ _ h => wpO_mono u ρ _ _ _ (fun _ _ h => slS_mono i h) h) h) h
  | .rev a, ρ, M, Q, Q', i, h => wpE_mono a ρ M _ _ (fun _ _ h => revS_mono i h) h
  | .call f es, ρ, M, Q, Q', i, h => wpL_mono es ρ M _ _ (fun vs M1 h => hF f vs M1 _ _ i h) h
  | .callv k es, ρ, M, Q, Q', i, h => by
    obtain ⟨f, h1, h2⟩ := h
    exact ⟨f, h1, wpL_mono es ρ M _ _ (fun vs M1 h => hF f vs M1 _ _ i h) h2⟩
  | .blt b es, ρ, M, Q, Q', i, h => wpL_mono es ρ M _ _ (fun vs M1 h => bltS_mono i h) h
  | .mth m o es, ρ, M, Q, Q', i, h => wpE_mono o ρ M _ _ (fun _ _ ⟨h1, h⟩ => ⟨h1, wpL_mono es ρ _ _ _ (fun vs M1 h => mthS_mono i h) h⟩) h
  | .isi a t, ρ, M, Q, Q', i, h => wpE_mono a ρ M _ _ (fun _ _ ⟨k, h1, h2⟩ => ⟨k, h1, i _ _ h2⟩) h
  | .comp mt g it c elt, ρ, M, Q, Q', i, h => wpI_mono it ρ M _ _ (fun xs k M1 ⟨h1, h2⟩ => ⟨h1, compL_mono (fun x M' Q1 Q2 j ⟨ρ', h3, h4⟩ => ⟨ρ', h3, wpC_mono c ρ' M' _ _ (fun b M2 h5 => by
      cases b with
      | true => rw [if_pos rfl] at h5 ⊢; exact wpE_mono elt ρ' M2 _ _ (fun v M3 h => j _ _ h) h5
      | false => rw [if_neg Bool.false_ne_true] at h5 ⊢; exact j _ _ h5) h4⟩) _ _ _ _ _ (fun acc M2 h => newL_mono i h) h2⟩) h
  | .lrange a b, ρ, M, Q, Q', i, h => wpE_mono a ρ M _ _ (fun _ _ h => wpE_mono b ρ _ _ _ (fun _ _ ⟨x, y, h1, h2, h3, h4, h5, h6⟩ => ⟨x, y, h1, h2, h3, h4, h5, i _ _ h6⟩) h) h
theorem wpL_mono : ∀ (es : List E) (ρ : Rho) (M : Sto) (Q Q' : List PV → Sto → Prop), (∀ v M, Q v M → Q' v M) → wpL F es ρ M Q → wpL F es ρ M Q'
  | [], ρ, M, Q, Q', i, h => i _ _ h
  | e :: r, ρ, M, Q, Q', i, h => wpE_mono e ρ M _ _ (fun v M1 h => wpL_mono r ρ M1 _ _ (fun vs M2 h => i _ _ h) h) h
theorem wpO_mono : ∀ (e : Option E) (ρ : Rho) (M : Sto) (Q Q' : Option Int → Sto → Prop), (∀ v M, Q v M → Q' v M) → wpO F e ρ M Q → wpO F e ρ M Q'
  | none, ρ, M, Q, Q', i, h => i _ _ h
  | some e, ρ, M, Q, Q', i, h => wpE_mono e ρ M _ _ (fun v M1 ⟨j, h1, h2⟩ => ⟨j, h1, i _ _ h2⟩) h
theorem wpC_mono : ∀ (e : Option E) (ρ : Rho) (M : Sto) (Q Q' : Bool → Sto → Prop), (∀ v M, Q v M → Q' v M) → wpC F e ρ M Q → wpC F e ρ M Q'
  | none, ρ, M, Q, Q', i, h => i _ _ h
  | some e, ρ, M, Q, Q', i, h => wpE_mono e ρ M _ _ (fun v M1 ⟨j, h1, h2⟩ => ⟨j, h1, i _ _ h2⟩) h
theorem wpI_mono : ∀ (it : It) (ρ : Rho) (M : Sto) (Q Q' : QI), (∀ xs k M, Q xs k M → Q' xs k M) → wpI F it ρ M Q → wpI F it ρ M Q'
  | .val e, ρ, M, Q, Q', i, h => wpE_mono e ρ M _ _ (fun v M1 h => walkS_mono i h) h
  | .rng e, ρ, M, Q, Q', i, h => wpE_mono e ρ M _ _ (fun v M1 ⟨j, h1, h2, h3, h4⟩ => ⟨j, h1, h2, h3, i _ _ _ h4⟩) h
  | .rng2 a b, ρ, M, Q, Q', i, h => wpE_mono a ρ M _ _ (fun v M1 h => wpE_mono b ρ M1 _ _ (fun w M2 ⟨x, y, h1, h2, h3, h4, h5, h6, h7⟩ => ⟨x, y, h1, h2, h3, h4, h5, h6, i _ _ _ h7⟩) h) h
  | .zip es, ρ, M, Q, Q', i, h => wpL_mono es ρ M _ _ (fun v M1 h => zipS_mono i h) h
  | .enm e, ρ, M, Q, Q', i, h => wpE_mono e ρ M _ _ (fun v M1 ⟨xs, h1, h2⟩ => ⟨xs, h1, i _ _ _ h2⟩) h
end
theorem wpL_len : ∀ (es : List E) (ρ : Rho) (M : Sto) (Q : List PV → Sto → Prop), wpL F es ρ M Q → wpL F es ρ M fun vs M' => vs.length = es.length ∧ Q vs M'
  | [], ρ, M, Q, h => ⟨rfl, h⟩
  | e :: r, ρ, M, Q, h => wpE_mono hF e ρ M _ _ (fun v M1 h => wpL_mono hF r ρ M1 _ _ (fun vs M2 ⟨h1, h2⟩ => ⟨by rw [List.length_cons, List.length_cons, h1], h2⟩) (wpL_len r ρ M1 _ h)) h
structure EMono (D D' : Ends) : Prop where
  nx : ∀ ρ M, D.nx ρ M → D'.nx ρ M
  rt : ∀ v M, D.rt v M → D'.rt v M
  bk : ∀ ρ M, D.bk ρ M → D'.bk ρ M
  ct : ∀ ρ M, D.ct ρ M → D'.ct ρ M
omit hF in
theorem forL_mono {t t' : PV → Rho → Sto → (Rho → Sto → Prop) → Prop} {keep : Sto → Prop} {d d' : Rho → Sto → Prop} (ht : ∀ x ρ M (Q Q' : Rho → Sto → Prop), (∀ ρ M, Q ρ M → Q' ρ M) → t x ρ M Q → t' x ρ M Q') (hd : ∀ ρ M, d ρ M → d' ρ M) :
    ∀ (xs : List PV) (ρ : Rho) (M : Sto), forL t keep d xs ρ M → forL t' keep d' xs ρ M
  | [], ρ, M, h => hd _ _ h
  | x :: r, ρ, M, h => ht x ρ M _ _ (fun ρ' M' ⟨h1, h2⟩ => ⟨h1, forL_mono ht hd r ρ' M' h2⟩) h
omit hF in
theorem whileN_mono {t t' : Rho → Sto → (Rho → Sto → Prop) → Prop} (ht : ∀ ρ M (Q Q' : Rho → Sto → Prop), (∀ ρ M, Q ρ M → Q' ρ M) → t ρ M Q → t' ρ M Q') : ∀ (n : Nat) (ρ : Rho) (M : Sto), whileN t n ρ M → whileN t' n ρ M
  | 0, ρ, M, h => h
  | n + 1, ρ, M, h => ht ρ M _ _ (fun ρ' M' h => whileN_mono ht n ρ' M' h) h
mutual
theorem wpS_mono : ∀ (s : S) (ρ : Rho) (M : Sto) (D D' : Ends), EMono D D' → wpS F s ρ M D → wpS F s ρ M D'
  | .expr e, ρ, M, D, D', i, h => wpE_mono hF e ρ M _ _ (fun _ _ h => i.nx _ _ h) h
  | .asg g e, ρ, M, D, D', i, h => wpE_mono hF e ρ M _ _ (fun _ _ ⟨ρ', h1, h2⟩ => ⟨ρ', h1, i.nx _ _ h2⟩) h
  | .par is es, ρ, M, D, D', i, h => wpL_mono hF es ρ M _ _ (fun _ _ h => i.nx _ _ h) h
  | .six o k e, ρ, M, D, D', i, h => wpE_mono hF e ρ M _ _ (fun _ _ h => wpE_mono hF o ρ _ _ _ (fun _ _ h => wpE_mono hF k ρ _ _ _ (fun _ _ h => setS_mono (fun _ h => i.nx _ _ h) h) h) h) h
  | .aug k op e, ρ, M, D, D', i, h => by
    obtain ⟨x, h1, h2⟩ := h
    exact ⟨x, h1, wpE_mono hF e ρ M _ _ (fun _ _ h => binS_mono (fun _ _ h => i.nx _ _ h) h) h2⟩
  | .augx o k op e, ρ, M, D, D', i, h => wpE_mono hF o ρ M _ _ (fun _ _ h => wpE_mono hF k ρ _ _ _ (fun _ _ h => ixS_mono (fun _ _ h => wpE_mono hF e ρ _ _ _ (fun _ _ h => binS_mono (fun _ _ h => setS_mono (fun _ h => i.nx _ _ h) h) h) h) h) h) h
  | .ret e, ρ, M, D, D', i, h => wpE_mono hF e ρ M _ _ i.rt h
  | .ret0, ρ, M, D, D', i, h => i.rt _ _ h
  | .ite c a b, ρ, M, D, D', i, h => wpE_mono hF c ρ M _ _ (fun x M1 ⟨k, h1, h2⟩ => ⟨k, h1, by
      cases k with
      | true => rw [if_pos rfl] at h2 ⊢; exact wpSs_mono a ρ _ _ _ i h2
      | false => rw [if_neg Bool.false_ne_true] at h2 ⊢; exact wpSs_mono b ρ _ _ _ i h2⟩) h
  | .for_ g it body, ρ, M, D, D', i, h => wpI_mono hF it ρ M _ _ (fun xs k M1 h => forL_mono (fun x ρ M Q Q' j ⟨ρ', h1, h2⟩ => ⟨ρ', h1, wpSs_mono body ρ' M ⟨Q, D.rt, D.nx, Q⟩ ⟨Q', D'.rt, D'.nx, Q'⟩ ⟨j, i.rt, i.nx, j⟩ h2⟩) i.nx xs ρ M1 h) h
  | .while_ c body, ρ, M, D, D', i, h => by
    obtain ⟨n, h⟩ := h
    exact ⟨n, whileN_mono (fun ρ M Q Q' j h => wpE_mono hF c ρ M _ _ (fun x M2 ⟨b, h1, h2⟩ => ⟨b, h1, by
      cases b with
      | true => rw [if_pos rfl] at h2 ⊢; exact wpSs_mono body ρ _ ⟨Q, D.rt, D.nx, Q⟩ ⟨Q', D'.rt, D'.nx, Q'⟩ ⟨j, i.rt, i.nx, j⟩ h2
      | false => rw [if_neg Bool.false_ne_true] at h2 ⊢; exact i.nx _ _ h2⟩) h) n ρ M h⟩
  | .pass, ρ, M, D, D', i, h => i.nx _ _ h
  | .brk, ρ, M, D, D', i, h => i.bk _ _ h
  | .cont, ρ, M, D, D', i, h => i.ct _ _ h
  | .never, ρ, M, D, D', i, h => h
theorem wpSs_mono : ∀ (ss : List S) (ρ : Rho) (M : Sto) (D D' : Ends), EMono D D' → wpSs F ss ρ M D → wpSs F ss ρ M D'
  | [], ρ, M, D, D', i, h => i.nx _ _ h
  | s :: r, ρ, M, D, D', i, h => wpS_mono s ρ M { D with nx := fun ρ' M' => wpSs F r ρ' M' D } { D' with nx := fun ρ' M' => wpSs F r ρ' M' D' } ⟨fun ρ' M' h => wpSs_mono r ρ' M' D D' i h, i.rt, i.bk, i.ct⟩ h
end
end SG
namespace SG
open PySem PySem.Spec PyProof.Rows L2

/-- what is wanted behind a step, told of the heap -/
def Clo (C : Ctx) (H : Hp) (M : Sto) (Z : Addr → Prop) (Q' : Q1) (Q : VK) : Prop :=
  ∀ v x H' M' Z', Ext H M Z H' M' Z' → SR C H' M' Z' → Rep C H' M' Z' v x → Q' v M' → Q x H'
def r2 (C : Ctx) (f : PV → PV → Sto → Q1 → Prop) : R2 := fun x y H Q =>
  ∃ v w M Z Q', SR C H M Z ∧ Rep C H M Z v x ∧ Rep C H M Z w y ∧ f v w M Q' ∧ Clo C H M Z Q' Q
def r1 (C : Ctx) (f : PV → Sto → Q1 → Prop) : V → Hp → VK → Prop := fun x H Q =>
  ∃ v M Z Q', SR C H M Z ∧ Rep C H M Z v x ∧ f v M Q' ∧ Clo C H M Z Q' Q
def rc (C : Ctx) (f : List PV → Sto → Q1 → Prop) : List V → Hp → VK → Prop := fun xs H Q =>
  ∃ vs M Z Q', SR C H M Z ∧ RepL C H M Z vs xs ∧ f vs M Q' ∧ Clo C H M Z Q' Q
def rm (C : Ctx) (f : PV → List PV → Sto → Q1 → Prop) : V → List V → Hp → VK → Prop := fun x xs H Q =>
  ∃ v vs M Z Q', SR C H M Z ∧ Rep C H M Z v x ∧ RepL C H M Z vs xs ∧ f v vs M Q' ∧ Clo C H M Z Q' Q

def ctx (X : Cx) (ga : Str → Option Addr) : Ctx := ⟨X.prog, X.w, X.K, ga⟩

section
variable {C : Ctx} {H : Hp} {M : Sto} {Z : Addr → Prop} {x : V}
theorem Rep.int_inv {i : Int} (h : Rep C H M Z (.int i) x) : x = .int i := by cases h; rfl
theorem Rep.bl_inv {i : Bool} (h : Rep C H M Z (.bl i) x) : x = .bl i := by cases h; rfl
theorem Rep.str_inv {i : Str} (h : Rep C H M Z (.str i) x) : x = .str i := by cases h; rfl
theorem Rep.non_inv (h : Rep C H M Z .non x) : x = .non := by cases h; rfl
theorem Rep.ref_inv {a : Addr} (h : Rep C H M Z (.ref a) x) : x = .ref a ∧ (M a).isSome = true := by cases h with | ref q => exact ⟨rfl, q⟩
theorem Rep.tup_inv {xs : List PV} (h : Rep C H M Z (.tup xs) x) : ∃ a vs, x = .ref a ∧ SqT C.K H a vs ∧ RepL C H M Z xs vs := by
  cases h with | tup h l => exact ⟨_, _, rfl, h, l⟩
/-- a list, told or in the store -/
theorem Rep.lo_inv (r : SR C H M Z) {v : PV} {xs : List PV} (h : Rep C H M Z v x) (e : lo M v = some xs) : ∃ a vs, x = .ref a ∧ LQ C.K H a vs ∧ RepL C H M Z xs vs := by
  cases v with
  | lst ys =>
    have e' : ys = xs := Option.some.inj e
    subst e'
    cases h with
    | lz z h l => exact ⟨_, _, rfl, .inl h, l⟩
    | lr h l => exact ⟨_, _, rfl, .inr h, l⟩
  | ref a =>
    cases h with
    | ref q =>
      have e : (match M a with | some (.lst xs) => some xs | _ => none) = some xs := e
      cases m : M a with
      | none => rw [m] at e; cases e
      | some so =>
        rw [m] at e
        cases so with
        | lst ys =>
          have e' : ys = xs := Option.some.inj e
          subst e'
          obtain ⟨o, hh, vs, rfl, l⟩ := r.sto a _ m
          exact ⟨a, vs, rfl, .inl hh, l⟩
        | dct _ => cases e
        | dks _ => cases e
  | _ => cases e
theorem Rep.so_inv (r : SR C H M Z) {v : PV} {xs : List PV} (h : Rep C H M Z v x) (e : so M v = some xs) : ∃ a vs, x = .ref a ∧ (SqL C.K H a vs ∨ SqT C.K H a vs) ∧ RepL C H M Z xs vs := by
  cases v with
  | tup ys =>
    have e' : ys = xs := Option.some.inj e
    subst e'
    obtain ⟨a, vs, e1, h1, l⟩ := h.tup_inv
    exact ⟨a, vs, e1, .inr h1, l⟩
  | non => exact (show (none : Option (List PV)) = some xs → _ from fun z => nomatch z) e
  | bl _ => exact (show (none : Option (List PV)) = some xs → _ from fun z => nomatch z) e
  | int _ => exact (show (none : Option (List PV)) = some xs → _ from fun z => nomatch z) e
  | str _ => exact (show (none : Option (List PV)) = some xs → _ from fun z => nomatch z) e
  | fn _ => exact (show (none : Option (List PV)) = some xs → _ from fun z => nomatch z) e
  | emp => exact (show (none : Option (List PV)) = some xs → _ from fun z => nomatch z) e
  | lst ys => obtain ⟨a, vs, h1, h2, h3⟩ := Rep.lo_inv r h (xs := xs) e; exact ⟨a, vs, h1, .inl h2.sq, h3⟩
  | ref b => obtain ⟨a, vs, h1, h2, h3⟩ := Rep.lo_inv r h (xs := xs) e; exact ⟨a, vs, h1, .inl h2.sq, h3⟩
/-- a new list -/
theorem Clo.newL {Q' : Q1} {Q : VK} {mt : Bool} {xs : List PV} {vs : List V} {p : Addr} (c : Clo C H M Z Q' Q) (r : SR C H M Z) (l : RepL C H M Z xs vs) (h : newL mt xs M Q') (hp : H p = none) : Q (.ref p) (upd H p (.lst vs)) := by
  unfold SG.newL at h
  cases mt with
  | true =>
    rw [if_pos rfl] at h
    have x : Ext H M Z (upd H p (.lst vs)) (M.put p (.lst xs)) Z := Ext.newM r hp
    exact c _ _ _ _ _ x (r.newM hp ⟨vs, rfl, l⟩) (.ref (by rw [Sto.put_same]; rfl)) (h p (r.fresh hp))
  | false =>
    rw [if_neg Bool.false_ne_true] at h
    have x : Ext H M Z (upd H p (.lst vs)) M (fun a => a = p ∨ Z a) := Ext.newZ hp
    exact c _ _ _ _ _ x (r.newZ hp) (.lz (.inl rfl) upd_same (RepL.mono r x l)) h
theorem Clo.newT {Q' : Q1} {Q : VK} {xs : List PV} {vs : List V} {p : Addr} (c : Clo C H M Z Q' Q) (r : SR C H M Z) (l : RepL C H M Z xs vs) (h : Q' (.tup xs) M) (hp : H p = none) : Q (.ref p) (upd H p (.tup vs)) := by
  have x : Ext H M Z (upd H p (.tup vs)) M Z := Ext.new hp
  exact c _ _ _ _ _ x (r.new hp) (.tup (.inl (.inl upd_same)) (RepL.mono r x l)) h
theorem Clo.same {Q' : Q1} {Q : VK} {v : PV} {x : V} (c : Clo C H M Z Q' Q) (r : SR C H M Z) (l : Rep C H M Z v x) (h : Q' v M) : Q x H := c _ _ _ _ _ Ext.refl r l h
theorem Clo.wrL {Q' : Q1} {Q : VK} {v : PV} {x : V} {xs : List PV} {vs : List V} {p : Addr} {so : SO} (c : Clo C H M Z Q' Q) (r : SR C H M Z) (m : M p = some so) (l : RepL C H M Z xs vs) (rv : Rep C H M Z v x) (h : Q' v (M.put p (.lst xs))) : Q x (upd H p (.lst vs)) := by
  have e : Ext H M Z (upd H p (.lst vs)) (M.put p (.lst xs)) Z := Ext.wr m
  exact c _ _ _ _ _ e (r.wr m ⟨vs, rfl, l⟩) (Rep.mono r e rv) h
theorem RepL.rep {xs : List PV} {vs : List V} (l : RepL C H M Z xs vs) : ∀ n : Nat, RepL C H M Z (List.replicate n xs).flatten (List.replicate n vs).flatten
  | 0 => .nil
  | n + 1 => by
    rw [List.replicate_succ, List.replicate_succ, List.flatten_cons, List.flatten_cons]
    exact l.append (RepL.rep l n)
end

section
variable {X : Cx} {ga : Str → Option Addr}
/-! list + list, list * int, whatever the list is -/
theorem op_catL : OpR X (binaryOp .Add) (fun x y H Q => ∃ l b xs zs, x = .ref l ∧ y = .ref b ∧ LQ X.K H l xs ∧ LQ X.K H b zs ∧ xs.length + zs.length ≤ sizeLine ∧ ∀ p, H p = none → Q (.ref p) (upd H p (.lst (xs ++ zs)))) := by
  intro pins s σ H x y v u Q I rx ry h
  obtain ⟨l, b, xs, zs, rfl, rfl, h1, h2, hz, q⟩ := h
  cases rx
  cases ry
  obtain ⟨its, n, r, e, z⟩ := h1.isL I
  obtain ⟨its2, n2, r2, e2, z2⟩ := h2.isL I
  have hl := r.length
  have hl2 := r2.length
  refine PySem.P.add_list e e2 ?_ (by rw [List.size_toArray, List.size_toArray]; omega)
  have ea : its.toArray ++ its2.toArray = (its ++ its2).toArray := by simp
  rw [ea]
  exact ⟨.ref _, _, I.lnew (t' := s.toks) (r.append r2) (by rw [List.length_append]; omega), rfl, q _ I.fresh⟩
theorem op_repL : OpR X (binaryOp .Mult) (fun x y H Q => ∃ l k xs, x = .ref l ∧ y = .int k ∧ LQ X.K H l xs ∧ -(2 ^ 63) ≤ k ∧ k < 2 ^ 63 ∧ xs.length * k.toNat ≤ sizeLine ∧
    ∀ p, H p = none → Q (.ref p) (upd H p (.lst (List.replicate k.toNat xs).flatten))) := by
  intro pins s σ H x y v u Q I rx ry h
  obtain ⟨l, k, xs, rfl, rfl, hq, h1, h2, hz, q⟩ := h
  cases rx
  obtain ⟨t, rfl⟩ := ry
  obtain ⟨its, n, r, e, z⟩ := hq.isL I
  have hl := r.length
  have hsz : its.toArray.size * k.toNat ≤ sizeLine := by
    rw [List.size_toArray, ← hl]; exact hz
  have hline : (sizeLine : Nat) ≤ (2 ^ 63 - 1) / 8 := by decide
  have c1 : ¬ its.toArray.size * k.toNat > (2 ^ 63 - 1) / 8 := by omega
  have c2 : ¬ (!Builtin.List.listFitsIndex k) = true := by
    rw [fitsIndex_both h1 h2]; decide
  have c3 : ¬ Builtin.List.listTooLong (its.toArray.size * k.toNat) = true := by
    rw [notLongL hsz]; decide
  have fl : ∀ m : Nat, List.foldl (fun a b => a ++ b) #[] (List.replicate m its.toArray) = (List.replicate m its).flatten.toArray := by
    intro m
    have g := foldl_rep its m []
    rwa [List.nil_append] at g
  have hnew : List.foldl (fun a b => a ++ b) #[] (List.replicate (if its.toArray.isEmpty = true then 0 else k.toNat) its.toArray)
      = (List.replicate k.toNat its).flatten.toArray := by
    rw [fl]
    cases its with
    | nil => simp
    | cons _ _ => rw [if_neg (by simp)]
  have inner := AutoListH.list___mul___list_int_3 l its.toArray n k t c2 c1 c3
  refine wpAny_binaryOp_repeat_ref (T := "list") (U := "int") (by decide) ⟨_, e, rfl⟩
    (fun s' => typeIs_int s' k t) noFill_list_mul F.fills_int_mul
    F.slot_int_rmul repeat_list F.slot_int_index.lookup
    (call_meets F.slot_int_rmul (typeIs_int s k t) F.entry_int_rmul
      (F.args_int_rmul_2 _ _) (int___rmul___int_list k t l its.toArray n)
      ⟨e, rfl, ⟨_, e, rfl⟩, call_meets F.slot_list_mul ⟨_, e, rfl⟩
        F.entry_list_mul (F.args_list_mul_2 _ _) inner ⟨e, ?_⟩⟩)
  rw [hnew]
  refine ⟨.ref _, _, I.lnew (t' := s.toks) (r.rep k.toNat) ?_, rfl, q _ I.fresh⟩
  rw [PyProof.Rows.lm_len_rep_flat, Nat.mul_comm]; exact hz

/-! ### + - * // % ** -/
abbrev opOf : Op → Operator
  | .add => .Add
  | .addM => .Add
  | .sub => .Sub
  | .mul => .Mult
  | .mulM => .Mult
  | .fdiv => .FloorDiv
  | .mod => .Mod
  | .pow => .Pow
theorem log_lt {i : Int} (h : i.natAbs.log2 < 64) : -(2 ^ 64) < i ∧ i < 2 ^ 64 := by
  have h2 : i.natAbs < 2 ^ 64 := by
    by_cases z : i.natAbs = 0
    · omega
    · exact Nat.lt_of_lt_of_le (Nat.lt_log2_self) (Nat.pow_le_pow_right (by decide) h)
  omega
theorem mul_ok {i j : Int} (h : (i.natAbs.log2 < 64 ∨ j.natAbs.log2 < 64) ∨ i.natAbs.log2 + j.natAbs.log2 < 1000000) : IntMulOk i j := by
  rcases h with (h | h) | h
  · exact CMul.ok (.inl (log_lt h))
  · exact CMul.ok (.inr (log_lt h))
  · exact CMulW.ok h
theorem add_ok (mt : Bool) : OpR X (binaryOp .Add) (r2 (ctx X ga) (addS mt)) := by
  intro pins s σ H x y v u Q I rx ry h
  obtain ⟨a, b, M, Z, Q', r, ra, rb, f, c⟩ := h
  have lists : (∃ xs ys, lo M a = some xs ∧ lo M b = some ys ∧ xs.length + ys.length ≤ sizeLine ∧ newL mt (xs ++ ys) M Q') → wpAny (model X.prog X.w) X.A (binaryOp .Add v u) (EP X pins σ Q) X.xe s := by
    rintro ⟨xs, ys, e1, e2, hz, q⟩
    obtain ⟨p, vs, rfl, h1, l1⟩ := ra.lo_inv r e1
    obtain ⟨p2, ws, rfl, h2, l2⟩ := rb.lo_inv r e2
    refine op_catL pins s σ H _ _ v u Q I rx ry ⟨p, p2, vs, ws, rfl, rfl, h1, h2, by rw [← l1.length, ← l2.length]; exact hz, fun p3 hp => ?_⟩
    exact c.newL r (l1.append l2) q hp
  cases a with
  | int i =>
    cases b with
    | int j =>
      obtain rfl := ra.int_inv
      obtain rfl := rb.int_inv
      exact op_add pins s σ H _ _ v u Q I rx ry ⟨i, j, rfl, rfl, c.same r (.int _) f⟩
    | _ => exact lists f
  | str i =>
    cases b with
    | str j =>
      obtain rfl := ra.str_inv
      obtain rfl := rb.str_inv
      exact op_add_str pins s σ H _ _ v u Q I rx ry ⟨i, j, rfl, rfl, f.1, c.same r (.str _) f.2⟩
    | _ => exact lists f
  | tup xs =>
    cases b with
    | tup ys =>
      obtain ⟨p, vs, rfl, h1, l1⟩ := ra.tup_inv
      obtain ⟨p2, ws, rfl, h2, l2⟩ := rb.tup_inv
      obtain ⟨hz, q⟩ := f
      refine op_catA pins s σ H _ _ v u Q I rx ry ⟨p, p2, vs, ws, rfl, rfl, h1, h2, by rw [← l1.length, ← l2.length]; exact hz, fun e => ?_, fun _ e => ?_, fun _ _ p3 hp => ?_⟩
      · subst e
        cases l1
        exact c.same r rb q
      · subst e
        cases l2
        rw [List.append_nil] at q
        exact c.same r ra q
      · exact c.newT r (l1.append l2) q hp
    | _ => exact lists f
  | _ => cases b <;> exact lists f
theorem mulS_ok (mt : Bool) : OpR X (binaryOp .Mult) (r2 (ctx X ga) (mulS mt)) := by
  intro pins s σ H x y v u Q I rx ry h
  obtain ⟨a, b, M, Z, Q', r, ra, rb, f, c⟩ := h
  cases b with
  | int k =>
    obtain rfl := rb.int_inv
    have lists : (∃ xs, lo M a = some xs ∧ -(2 ^ 63) ≤ k ∧ k < 2 ^ 63 ∧ xs.length * k.toNat ≤ sizeLine ∧ newL mt (List.replicate k.toNat xs).flatten M Q') → wpAny (model X.prog X.w) X.A (binaryOp .Mult v u) (EP X pins σ Q) X.xe s := by
      rintro ⟨xs, e1, h1, h2, hz, q⟩
      obtain ⟨p, vs, rfl, hl, l1⟩ := ra.lo_inv r e1
      exact op_repL pins s σ H _ _ v u Q I rx ry ⟨p, k, vs, rfl, rfl, hl, h1, h2, by rw [← l1.length]; exact hz, fun p3 hp => c.newL r (l1.rep _) q hp⟩
    cases a with
    | int i =>
      obtain rfl := ra.int_inv
      obtain ⟨t, rfl⟩ := rx
      obtain ⟨t', rfl⟩ := ry
      exact mul_int ⟨.int _, H, I.tok _, ⟨_, rfl⟩, c.same r (.int _) f.2⟩ (mul_ok f.1)
    | tup xs =>
      obtain ⟨p, vs, rfl, h1, l1⟩ := ra.tup_inv
      obtain ⟨k1, k2, ne, hz, q⟩ := f
      refine op_repT pins s σ H _ _ v u Q I rx ry ⟨p, k, vs, rfl, rfl, h1, ?_, k1, k2, by rw [← l1.length]; exact hz, fun p3 hp => c.newT r (l1.rep _) q hp⟩
      intro e; subst e; cases l1; exact ne rfl
    | _ => exact lists f
  | _ => cases a <;> exact f.elim
theorem bin_ok (op : Op) : OpR X (binaryOp (opOf op)) (r2 (ctx X ga) (binS op)) := by
  cases op with
  | add => exact add_ok false
  | addM => exact add_ok true
  | mul => exact mulS_ok false
  | mulM => exact mulS_ok true
  | sub =>
    intro pins s σ H x y v u Q I rx ry h
    obtain ⟨a, b, M, Z, Q', r, ra, rb, ⟨i, j, rfl, rfl, q⟩, c⟩ := h
    obtain rfl := ra.int_inv
    obtain rfl := rb.int_inv
    exact op_sub pins s σ H _ _ v u Q I rx ry ⟨i, j, rfl, rfl, c.same r (.int _) q⟩
  | fdiv =>
    intro pins s σ H x y v u Q I rx ry h
    obtain ⟨a, b, M, Z, Q', r, ra, rb, ⟨i, j, rfl, rfl, h1, h2, q⟩, c⟩ := h
    obtain rfl := ra.int_inv
    obtain rfl := rb.int_inv
    exact op_fdivW pins s σ H _ _ v u Q I rx ry ⟨i, j, rfl, rfl, ⟨h1, h2⟩, c.same r (.int _) q⟩
  | mod =>
    intro pins s σ H x y v u Q I rx ry h
    obtain ⟨a, b, M, Z, Q', r, ra, rb, ⟨i, j, rfl, rfl, h1, q⟩, c⟩ := h
    obtain rfl := ra.int_inv
    obtain rfl := rb.int_inv
    exact op_mod pins s σ H _ _ v u Q I rx ry ⟨i, j, rfl, rfl, h1, c.same r (.int _) q⟩
  | pow =>
    intro pins s σ H x y v u Q I rx ry h
    obtain ⟨a, b, M, Z, Q', r, ra, rb, ⟨i, j, rfl, rfl, h1, h2, h3, q⟩, c⟩ := h
    obtain rfl := ra.int_inv
    obtain rfl := rb.int_inv
    exact op_pow pins s σ H _ _ v u Q I rx ry ⟨i, j, rfl, rfl, ⟨h1, h2, h3⟩, c.same r (.int _) q⟩

/-! ### truth -/
theorem tru_inv {C : Ctx} {H : Hp} {M : Sto} {Z : Addr → Prop} {v : PV} {x : V} {k : Bool} (r : SR C H M Z) (h : Rep C H M Z v x) (e : truS M v = some k) : TruV C.K x H k := by
  have seq : (so M v).map (fun xs => !xs.isEmpty) = some k → TruV C.K x H k := fun e => by
    obtain ⟨xs, e1, e2⟩ := Option.map_eq_some_iff.mp e
    obtain ⟨a, vs, rfl, hs, l⟩ := h.so_inv r e1
    have hl := l.length
    have e3 : k = !vs.isEmpty := by
      rw [← e2]
      cases xs <;> cases vs <;> simp_all
    rcases hs with hs | hs
    · exact .inl ⟨vs, hs, e3⟩
    · exact .inr (.inl ⟨vs, hs, e3⟩)
  cases v with
  | non => cases h; exact (Option.some.inj e).symm
  | bl b => cases h; exact (Option.some.inj e).symm
  | int i => cases h; exact (Option.some.inj e).symm
  | str x =>
    cases h
    unfold truS at e
    dsimp only at e
    split at e
    · rename_i hz
      exact ⟨hz, (Option.some.inj e).symm⟩
    · cases e
  | emp =>
    cases h with
    | emp z hz => exact .inr (.inr ⟨[], hz, (Option.some.inj e).symm⟩)
  | tup xs => exact seq e
  | lst xs => exact seq e
  | ref a => exact seq e
  | fn f => exact seq e

/-! ### == -/
mutual
theorem PV.dat_lay : ∀ v : PV, v.pl = true → v.dat.canLay0 = true
  | .non, _ => rfl
  | .bl _, _ => rfl
  | .int _, _ => rfl
  | .str x, h => by unfold PV.pl at h; unfold PV.dat PyData.canLay0; exact h
  | .tup xs, h => by unfold PV.pl at h; unfold PV.dat PyData.canLay0; exact PV.dats_lay xs h
  | .lst xs, h => by unfold PV.pl at h; unfold PV.dat PyData.canLay0; exact PV.dats_lay xs h
  | .ref _, h => by cases h
  | .fn _, h => by cases h
  | .emp, h => by cases h
theorem PV.dats_lay : ∀ vs : List PV, PV.pls vs = true → PyData.canLayAll0 (PV.dats vs) = true
  | [], _ => rfl
  | v :: vs, h => by
    unfold PV.pls at h
    obtain ⟨h1, h2⟩ := Bool.and_eq_true_iff.mp h
    unfold PV.dats PyData.canLayAll0
    rw [PV.dat_lay v h1, PV.dats_lay vs h2, Bool.and_self]
end
mutual
theorem PV.dat_dep : ∀ v : PV, v.dat.depth = v.dep
  | .non => rfl
  | .bl _ => rfl
  | .int _ => rfl
  | .str x => rfl
  | .tup xs => by unfold PV.dat PV.dep PyData.depth; rw [PV.dats_dep xs]
  | .lst xs => by unfold PV.dat PV.dep PyData.depth; rw [PV.dats_dep xs]
  | .ref _ => rfl
  | .fn _ => rfl
  | .emp => rfl
theorem PV.dats_dep : ∀ vs : List PV, PyData.depthAll (PV.dats vs) = PV.deps vs
  | [] => rfl
  | v :: vs => by
    unfold PV.dats PyData.depthAll PV.deps
    rw [PV.dat_dep v, PV.dats_dep vs]
end
mutual
theorem PV.dat_eqv : ∀ v w : PV, v.pl = true → w.pl = true → PyData.eqv v.dat w.dat = PV.eqb v w
  | .non, w, _, h => by cases w <;> first | rfl | cases h
  | .bl _, w, _, h => by cases w <;> first | rfl | cases h
  | .int _, w, _, h => by cases w <;> first | rfl | cases h
  | .str x, w, _, h => by cases w <;> first | rfl | cases h
  | .tup xs, w, h', h => by
    cases w with
    | tup ys =>
      unfold PV.pl at h h'
      unfold PV.dat PyData.eqv PV.eqb
      exact PV.dats_eqv xs ys h' h
    | _ => first | rfl | cases h
  | .lst xs, w, h', h => by
    cases w with
    | lst ys =>
      unfold PV.pl at h h'
      unfold PV.dat PyData.eqv PV.eqb
      exact PV.dats_eqv xs ys h' h
    | _ => first | rfl | cases h
  | .ref _, _, h, _ => by cases h
  | .fn _, _, h, _ => by cases h
  | .emp, _, h, _ => by cases h
theorem PV.dats_eqv : ∀ vs ws : List PV, PV.pls vs = true → PV.pls ws = true → PyData.eqvAll (PV.dats vs) (PV.dats ws) = PV.eqbs vs ws
  | [], [], _, _ => rfl
  | [], _ :: _, _, _ => rfl
  | _ :: _, [], _, _ => rfl
  | v :: vs, w :: ws, h', h => by
    unfold PV.pls at h h'
    obtain ⟨h1, h2⟩ := Bool.and_eq_true_iff.mp h
    obtain ⟨h1', h2'⟩ := Bool.and_eq_true_iff.mp h'
    unfold PV.dats PyData.eqvAll PV.eqbs
    rw [PV.dat_eqv v w h1' h1, PV.dats_eqv vs ws h2' h2]
end
mutual
theorem Rep.dp {C : Ctx} {H : Hp} {M : Sto} {Z : Addr → Prop} : ∀ {v : PV} {x : V}, Rep C H M Z v x → v.pl = true → Dp C.K H x v.dat
  | _, _, .non, _ => .non
  | _, _, .bl b, _ => .bl b
  | _, _, .int i, _ => .int i
  | _, _, .str s, _ => .str s
  | _, _, .tup h l, p => by unfold PV.pl at p; unfold PV.dat; exact .tup h (RepL.dp l p)
  | _, _, .lz z h l, p => by unfold PV.pl at p; unfold PV.dat; exact .lst (.inl (.inl h)) (RepL.dp l p)
  | _, _, .lr h l, p => by unfold PV.pl at p; unfold PV.dat; exact .lst (LQ.sq (.inr h)) (RepL.dp l p)
  | _, _, .ref _, p => by cases p
  | _, _, .fn _, p => by cases p
  | _, _, .emp _ _, p => by cases p
theorem RepL.dp {C : Ctx} {H : Hp} {M : Sto} {Z : Addr → Prop} : ∀ {vs : List PV} {xs : List V}, RepL C H M Z vs xs → PV.pls vs = true → DpAll C.K H xs (PV.dats vs)
  | _, _, .nil, _ => .nil
  | _, _, .cons a b, p => by
    unfold PV.pls at p
    obtain ⟨h1, h2⟩ := Bool.and_eq_true_iff.mp p
    unfold PV.dats
    exact .cons (Rep.dp a h1) (RepL.dp b h2)
end
theorem Rep.now {C : Ctx} {H : Hp} {M : Sto} {Z : Addr → Prop} {v : PV} {x : V} (r : SR C H M Z) (h : Rep C H M Z v x) (p : (v.now M).pl = true) : Dp C.K H x (v.now M).dat := by
  cases v with
  | ref a =>
    obtain ⟨rfl, q⟩ := h.ref_inv
    have e : (PV.ref a).now M = (match M a with | some (.lst xs) => .lst xs | _ => .ref a) := rfl
    rw [e] at p ⊢
    cases m : M a with
    | none => rw [m] at q; cases q
    | some o =>
      rw [m] at p
      cases o with
      | lst xs =>
        obtain ⟨o, hh, vs, rfl, l⟩ := r.sto a _ m
        have p : PV.pls xs = true := by unfold PV.pl at p; exact p
        exact .lst (.inl (.inl hh)) (RepL.dp l p)
      | dct _ => cases p
      | dks _ => cases p
  | non => exact Rep.dp h p
  | bl _ => exact Rep.dp h p
  | int _ => exact Rep.dp h p
  | str _ => exact Rep.dp h p
  | tup _ => exact Rep.dp h p
  | lst _ => exact Rep.dp h p
  | fn _ => exact Rep.dp h p
  | emp => exact Rep.dp h p
theorem room_min {A : Around} {a b : Nat} (hu : A.units + 64 < cLine) (h : a ≤ 64 ∨ b ≤ 64) : A.units + min a b < cLine := by
  have h1 : min a b ≤ a := Nat.min_le_left _ _
  have h2 : min a b ≤ b := Nat.min_le_right _ _
  omega
theorem eq_ok (hu : X.A.units + 64 < cLine) : OpR X (compareOp .Eq) (r2 (ctx X ga) (cmpS .eq)) := by
  intro pins s σ H x y v u Q I rx ry h
  obtain ⟨a, b, M, Z, Q', r, ra, rb, ⟨⟨z1, z2, rfl, rfl⟩ | ⟨p1, p2, pd⟩, q⟩, c⟩ := h
  · obtain rfl := ra.str_inv
    obtain rfl := rb.str_inv
    exact op_eq pins s σ H _ _ v u Q I rx ry ⟨rfl, by rw [dec_str]; exact c.same r (.bl _) q⟩
  obtain ⟨as, q1⟩ := Dp.reads I _ x v (ra.now r p1) rx
  obtain ⟨bs, q2⟩ := Dp.reads I _ y u (rb.now r p2) ry
  refine SeqAt.compareEq_reads q1 q2 (PV.dat_lay _ p1) (PV.dat_lay _ p2) (by rw [PV.dat_dep, PV.dat_dep]; exact room_min hu pd) ⟨.bl _, H, I, rfl, ?_⟩
  rw [PV.dat_eqv _ _ p1 p2]
  exact c.same r (.bl _) q
theorem ne_ok (hu : X.A.units + 64 < cLine) : OpR X (compareOp .NotEq) (r2 (ctx X ga) (cmpS .ne)) := by
  intro pins s σ H x y v u Q I rx ry h
  obtain ⟨a, b, M, Z, Q', r, ra, rb, ⟨⟨z1, z2, rfl, rfl⟩ | ⟨p1, p2, pd⟩, q⟩, c⟩ := h
  · obtain rfl := ra.str_inv
    obtain rfl := rb.str_inv
    exact op_ne pins s σ H _ _ v u Q I rx ry ⟨rfl, by rw [dec_str]; exact c.same r (.bl _) q⟩
  obtain ⟨as, q1⟩ := Dp.reads I _ x v (ra.now r p1) rx
  obtain ⟨bs, q2⟩ := Dp.reads I _ y u (rb.now r p2) ry
  refine SeqAt.compareNe_reads q1 q2 (PV.dat_lay _ p1) (PV.dat_lay _ p2) (by rw [PV.dat_dep, PV.dat_dep]; exact room_min hu pd) ⟨.bl _, H, I, rfl, ?_⟩
  rw [PV.dat_eqv _ _ p1 p2]
  exact c.same r (.bl _) q

/-! ### other comparisons -/
abbrev cpOf : Cp → CmpOp
  | .eq => .Eq
  | .ne => .NotEq
  | .lt => .Lt
  | .le => .LtE
  | .gt => .Gt
  | .ge => .GtE
  | .is => .Is
  | .isnot => .IsNot
  | .isin => .In
  | .notin => .NotIn
theorem ints_of {C : Ctx} {H : Hp} {M : Sto} {Z : Addr → Prop} : ∀ {xs : List PV} {vs : List V} {ns : List Int}, RepL C H M Z xs vs → PV.ints xs = some ns → vs = ns.map V.int
  | _, _, _, .nil, e => by
    have e' := Option.some.inj e
    subst e'; rfl
  | v :: xs, _, ns, .cons a b, e => by
    cases v with
    | int i =>
      obtain ⟨ms, e1, e2⟩ := Option.map_eq_some_iff.mp (show (PV.ints xs).map (i :: ·) = some ns from e)
      obtain rfl := a.int_inv
      rw [← e2, ints_of b e1]; rfl
    | _ => cases e
theorem bools_of {C : Ctx} {H : Hp} {M : Sto} {Z : Addr → Prop} : ∀ {xs : List PV} {vs : List V} {ns : List Bool}, RepL C H M Z xs vs → PV.bools xs = some ns → vs = ns.map V.bl
  | _, _, _, .nil, e => by
    have e' := Option.some.inj e
    subst e'; rfl
  | v :: xs, _, ns, .cons a b, e => by
    cases v with
    | bl i =>
      obtain ⟨ms, e1, e2⟩ := Option.map_eq_some_iff.mp (show (PV.bools xs).map (i :: ·) = some ns from e)
      obtain rfl := a.bl_inv
      rw [← e2, bools_of b e1]; rfl
    | _ => cases e
theorem ord_ok (hu : X.A.units + 64 < cLine) {op : Cp} (rule : ∀ (i j : Int) (t u : Tok) (Q : Value → Shared → Prop) (s : Shared), Q (.bool (ordI op i j)) s → wpAny (model X.prog X.w) X.A (compareOp (cpOf op) (.int i t) (.int j u)) Q X.xe s) :
    OpR X (compareOp (cpOf op)) (r2 (ctx X ga) (ordS op)) := by
  intro pins s σ H x y v u Q I rx ry h
  obtain ⟨a, b, M, Z, Q', r, ra, rb, f, c⟩ := h
  cases a with
  | int i =>
    cases b with
    | int j =>
      obtain rfl := ra.int_inv
      obtain rfl := rb.int_inv
      obtain ⟨t, rfl⟩ := rx
      obtain ⟨t', rfl⟩ := ry
      exact rule i j t t' _ s ⟨.bl _, H, I, rfl, c.same r (.bl _) f⟩
    | _ => exact f.elim
  | tup xs =>
    cases b with
    | tup ys =>
      obtain ⟨rfl, ns, ms, e1, e2, q⟩ := f
      obtain ⟨p, vs, rfl, h1, l1⟩ := ra.tup_inv
      obtain ⟨p2, ws, rfl, h2, l2⟩ := rb.tup_inv
      have g1 := ints_of l1 e1
      have g2 := ints_of l2 e2
      subst g1 g2
      exact op_ltT (by omega) pins s σ H _ _ v u Q I rx ry ⟨p, p2, ns, ms, rfl, rfl, h1, h2, c.same r (.bl _) q⟩
    | _ => exact f.elim
  | _ => cases b <;> exact f.elim
theorem is_ok : OpR X (compareOp .Is) (r2 (ctx X ga) (isS false)) := by
  intro pins s σ H x y v u Q I rx ry h
  obtain ⟨a, b, M, Z, Q', r, ra, rb, f, c⟩ := h
  cases b with
  | non =>
    obtain rfl := rb.non_inv
    refine op_isN pins s σ H _ _ v u Q I rx ry ⟨rfl, ?_⟩
    cases a with
    | non => obtain rfl := ra.non_inv; exact c.same r (.bl _) f
    | bl b => obtain rfl := ra.bl_inv; exact c.same r (.bl _) f
    | int b => obtain rfl := ra.int_inv; exact c.same r (.bl _) f
    | str b => obtain rfl := ra.str_inv; exact c.same r (.bl _) f
    | tup b => cases ra; exact c.same r (.bl _) f
    | lst b => cases ra <;> exact c.same r (.bl _) f
    | ref b => cases ra; exact c.same r (.bl _) f
    | fn b => cases ra; exact c.same r (.bl _) f
    | emp => cases ra; exact c.same r (.bl _) f
  | bl k =>
    cases a with
    | bl j =>
      obtain rfl := ra.bl_inv
      obtain rfl := rb.bl_inv
      refine op_is_bl pins s σ H _ _ v u Q I rx ry ⟨j, k, rfl, rfl, ?_⟩
      have e : decide (j = k) = (j == k) := by cases j <;> cases k <;> rfl
      rw [e]
      exact c.same r (.bl _) f
    | _ => exact f.elim
  | _ => cases a <;> exact f.elim
theorem isnot_ok : OpR X (compareOp .IsNot) (r2 (ctx X ga) (isS true)) := by
  intro pins s σ H x y v u Q I rx ry h
  obtain ⟨a, b, M, Z, Q', r, ra, rb, f, c⟩ := h
  cases b with
  | non =>
    obtain rfl := rb.non_inv
    refine op_notN pins s σ H _ _ v u Q I rx ry ⟨rfl, ?_⟩
    cases a with
    | non => obtain rfl := ra.non_inv; exact c.same r (.bl _) f
    | bl b => obtain rfl := ra.bl_inv; exact c.same r (.bl _) f
    | int b => obtain rfl := ra.int_inv; exact c.same r (.bl _) f
    | str b => obtain rfl := ra.str_inv; exact c.same r (.bl _) f
    | tup b => cases ra; exact c.same r (.bl _) f
    | lst b => cases ra <;> exact c.same r (.bl _) f
    | ref b => cases ra; exact c.same r (.bl _) f
    | fn b => cases ra; exact c.same r (.bl _) f
    | emp => cases ra; exact c.same r (.bl _) f
  | bl k =>
    cases a with
    | bl j =>
      obtain rfl := ra.bl_inv
      obtain rfl := rb.bl_inv
      refine op_isnot_bl pins s σ H _ _ v u Q I rx ry ⟨j, k, rfl, rfl, ?_⟩
      have e : (!decide (j = k)) = !(j == k) := by cases j <;> cases k <;> rfl
      rw [e]
      exact c.same r (.bl _) f
    | _ => exact f.elim
  | _ => cases a <;> exact f.elim

/-! ### in, items, slices -/
theorem any_dat {x : PV} (hx : x.pl = true) : ∀ {ys : List PV}, PV.pls ys = true → ((PV.dats ys).any fun z => PyData.eqv z x.dat) = ys.any fun z => PV.eqb z x
  | [], _ => rfl
  | y :: ys, h => by
    unfold PV.pls at h
    obtain ⟨h1, h2⟩ := Bool.and_eq_true_iff.mp h
    unfold PV.dats
    rw [List.any_cons, List.any_cons, PV.dat_eqv y x h1 hx, any_dat hx h2]
theorem in_ok (hu : X.A.units + 65 < cLine) (neg : Bool) : OpR X (compareOp (if neg = true then .NotIn else .In)) (r2 (ctx X ga) (fun x y => inS neg x y)) := by
  intro pins s σ H x y v u Q I rx ry h
  obtain ⟨a, b, M, Z, Q', r, ra, rb, ⟨ys, e, p1, p2, pd, q⟩, c⟩ := h
  obtain ⟨as, q1⟩ := Dp.reads I _ x v (ra.dp p1) rx
  obtain ⟨p, vs, rfl, hs, l⟩ := rb.so_inv r e
  have room : X.A.units + 1 + min (PyData.depthAll (PV.dats ys)) a.dat.depth < cLine := by
    rw [PV.dats_dep, PV.dat_dep]
    have h1 : min (PV.deps ys) a.dep ≤ a.dep := Nat.min_le_right _ _
    have h2 : min (PV.deps ys) a.dep ≤ PV.deps ys := Nat.min_le_left _ _
    omega
  have fin : ∀ {k : Bool}, k = (if neg = true then !((PV.dats ys).any fun z => PyData.eqv z a.dat) else (PV.dats ys).any fun z => PyData.eqv z a.dat) → EP X pins σ Q (.bool k) s := fun {k} e => by
    rw [e, any_dat p1 p2]
    exact ⟨.bl _, H, I, rfl, c.same r (.bl _) q⟩
  rcases hs with hs | hs
  · obtain ⟨bs, q2⟩ := Dp.reads I _ _ u (Dp.lst hs (l.dp p2)) ry
    cases neg with
    | true => exact SeqAt.notIn_list_reads q2 q1 (PV.dats_lay _ p2) (PV.dat_lay _ p1) room (fin rfl)
    | false => exact SeqAt.in_list_reads q2 q1 (PV.dats_lay _ p2) (PV.dat_lay _ p1) room (fin rfl)
  · obtain ⟨bs, q2⟩ := Dp.reads I _ _ u (Dp.tup hs (l.dp p2)) ry
    cases neg with
    | true => exact SeqAt.notIn_tuple_reads q2 q1 (PV.dats_lay _ p2) (PV.dat_lay _ p1) room (fin rfl)
    | false => exact SeqAt.in_tuple_reads q2 q1 (PV.dats_lay _ p2) (PV.dat_lay _ p1) room (fin rfl)
theorem cmp_ok (hu : X.A.units + 65 < cLine) (op : Cp) : OpR X (compareOp (cpOf op)) (r2 (ctx X ga) (cmpS op)) := by
  have hu' : X.A.units + 64 < cLine := by omega
  cases op with
  | eq => exact eq_ok hu'
  | ne => exact ne_ok hu'
  | lt => exact ord_ok (op := .lt) hu' fun _ _ _ _ _ _ q => lt_int q
  | le => exact ord_ok (op := .le) hu' fun _ _ _ _ _ _ q => le_int q
  | gt => exact ord_ok (op := .gt) hu' fun _ _ _ _ _ _ q => gt_int q
  | ge => exact ord_ok (op := .ge) hu' fun _ _ _ _ _ _ q => ge_int q
  | is => exact is_ok
  | isnot => exact isnot_ok
  | isin => exact in_ok hu false
  | notin => exact in_ok hu true
theorem atI_rep {C : Ctx} {H : Hp} {M : Sto} {Z : Addr → Prop} {xs : List PV} {vs : List V} {i : Int} {v : PV} (l : RepL C H M Z xs vs) (h : atI xs i = some v) : ∃ u, atI vs i = some u ∧ Rep C H M Z v u := by
  unfold atI at h ⊢
  rw [← l.length]
  cases e : ixN xs.length i with
  | none => rw [e] at h; cases h
  | some j =>
    rw [e] at h
    exact l.get h
theorem ix_ok : IxR X (r2 (ctx X ga) ixS) := by
  intro value slice pins s σ H x y v u Q I rx ry h hp
  obtain ⟨a, b, M, Z, Q', r, ra, rb, f, c⟩ := h
  cases b with
  | int i =>
    obtain rfl := rb.int_inv
    have seq : (∃ xs v, so M a = some xs ∧ atI xs i = some v ∧ Q' v M) → wpAny (model X.prog X.w) X.A (subscriptTail value slice v u) (EP X pins σ Q) X.xe s := by
      rintro ⟨xs, w, e1, e2, q⟩
      obtain ⟨p, vs, rfl, hs, l⟩ := ra.so_inv r e1
      obtain ⟨z, e3, rz⟩ := atI_rep l e2
      rcases hs with hs | hs
      · exact ix_list value slice pins s σ H _ _ v u Q I rx ry ⟨p, vs, i, z, rfl, rfl, hs, e3, c.same r rz q⟩ hp
      · exact ix_tup value slice pins s σ H _ _ v u Q I rx ry ⟨p, vs, i, z, rfl, rfl, hs, e3, c.same r rz q⟩ hp
    cases a with
    | str z =>
      obtain rfl := ra.str_inv
      obtain ⟨hz, k, e, q⟩ := f
      exact ix_str value slice pins s σ H _ _ v u Q I rx ry ⟨z, i, k, rfl, rfl, hz, e, c.same r (.str _) q⟩ hp
    | _ => exact seq f
  | _ => cases a <;> exact f.elim
theorem cut_rep {C : Ctx} {H : Hp} {M : Sto} {Z : Addr → Prop} {xs : List PV} {vs : List V} (l : RepL C H M Z xs vs) (lo hi : Option Int) : RepL C H M Z (cutP xs lo hi) (cutV vs lo hi) := by
  unfold cutP cutV
  rw [← l.length]
  exact (l.drop _).take _
def rsl (C : Ctx) : V → Option Int → Option Int → Hp → VK → Prop := fun x l h H Q =>
  ∃ v M Z Q', SR C H M Z ∧ Rep C H M Z v x ∧ slS v l h M Q' ∧ Clo C H M Z Q' Q
theorem cut_whole {xs : List PV} {lo hi : Option Int} (h1 : HT.sIx xs.length 0 lo = 0) (h2 : HT.sIx xs.length xs.length hi = xs.length) : cutP xs lo hi = xs := by
  unfold cutP
  rw [h1, h2, List.drop_zero, Nat.sub_zero, List.take_length]
theorem sl_ok : SlR X (rsl (ctx X ga)) := by
  intro pins s σ H x v vl vu lo hi sl Q I rx hs pl pu h
  obtain ⟨a, M, Z, Q', r, ra, f, c⟩ := h
  have lists : (∃ xs, SG.lo M a = some xs ∧ Q' (.lst (cutP xs lo hi)) M) → rSlL X.K x lo hi H Q ∨ rSlA X.K x lo hi H Q := by
    rintro ⟨xs, e, q⟩
    obtain ⟨p, vs, rfl, hq, l⟩ := ra.lo_inv r e
    exact .inl ⟨p, vs, rfl, hq.sq, fun p2 hp => c.newL (mt := false) r (cut_rep l lo hi) q hp⟩
  refine (sl_list.or sl_tupA) pins s σ H x v vl vu lo hi sl Q I rx hs pl pu ?_
  cases a with
  | tup xs =>
    obtain ⟨p, vs, rfl, hq, l⟩ := ra.tup_inv
    refine .inr ⟨p, vs, rfl, hq, fun hw => ?_, fun _ p2 hp => c.newT r (cut_rep l lo hi) f hp⟩
    rw [← l.length] at hw
    have f : Q' (.tup (cutP xs lo hi)) M := f
    rw [cut_whole hw.1 hw.2] at f
    exact c.same r ra f
  | _ => exact lists f

/-! ### isinstance -/
abbrev tyOf : Ty → String
  | .int => "int"
  | .bool => "bool"
  | .str => "str"
  | .tuple => "tuple"
  | .list => "list"
theorem kit_all : ∀ (a b : String) (k : Bool), (a, b, k) ∈ ([("NoneType", "int", false), ("NoneType", "bool", false), ("NoneType", "str", false), ("NoneType", "tuple", false), ("NoneType", "list", false),
    ("bool", "int", true), ("bool", "bool", true), ("bool", "str", false), ("bool", "tuple", false), ("bool", "list", false),
    ("int", "int", true), ("int", "bool", false), ("int", "str", false), ("int", "tuple", false), ("int", "list", false),
    ("str", "int", false), ("str", "bool", false), ("str", "str", true), ("str", "tuple", false), ("str", "list", false),
    ("tuple", "int", false), ("tuple", "bool", false), ("tuple", "str", false), ("tuple", "tuple", true), ("tuple", "list", false),
    ("list", "int", false), ("list", "bool", false), ("list", "str", false), ("list", "tuple", false), ("list", "list", true),
    ("dict", "int", false), ("dict", "bool", false), ("dict", "str", false), ("dict", "tuple", false), ("dict", "list", false)] : List (String × String × Bool)) → kitB a b = some k := by
  have h : (([("NoneType", "int", false), ("NoneType", "bool", false), ("NoneType", "str", false), ("NoneType", "tuple", false), ("NoneType", "list", false),
    ("bool", "int", true), ("bool", "bool", true), ("bool", "str", false), ("bool", "tuple", false), ("bool", "list", false),
    ("int", "int", true), ("int", "bool", false), ("int", "str", false), ("int", "tuple", false), ("int", "list", false),
    ("str", "int", false), ("str", "bool", false), ("str", "str", true), ("str", "tuple", false), ("str", "list", false),
    ("tuple", "int", false), ("tuple", "bool", false), ("tuple", "str", false), ("tuple", "tuple", true), ("tuple", "list", false),
    ("list", "int", false), ("list", "bool", false), ("list", "str", false), ("list", "tuple", false), ("list", "list", true),
    ("dict", "int", false), ("dict", "bool", false), ("dict", "str", false), ("dict", "tuple", false), ("dict", "list", false)] : List (String × String × Bool)).all fun x => decide (kitB x.1 x.2.1 = some x.2.2)) = true := by decide +kernel
  intro a b k hm
  exact of_decide_eq_true (List.all_eq_true.mp h _ hm)
def tyx (v : PV) : String := match v with
  | .non => "NoneType"
  | .bl _ => "bool"
  | .int _ => "int"
  | .str _ => "str"
  | .tup _ => "tuple"
  | .lst _ => "list"
  | .ref _ => "list"
  | _ => "dict"
theorem kit_NoneType (t : Ty) : kitB "NoneType" (tyOf t) = some false := by cases t <;> exact kit_all _ _ _ (by decide)
theorem kit_bool (t : Ty) : kitB "bool" (tyOf t) = some (match t with | .int => true | .bool => true | _ => false) := by cases t <;> exact kit_all _ _ _ (by decide)
theorem kit_int (t : Ty) : kitB "int" (tyOf t) = some (match t with | .int => true | _ => false) := by cases t <;> exact kit_all _ _ _ (by decide)
theorem kit_str (t : Ty) : kitB "str" (tyOf t) = some (match t with | .str => true | _ => false) := by cases t <;> exact kit_all _ _ _ (by decide)
theorem kit_tuple (t : Ty) : kitB "tuple" (tyOf t) = some (match t with | .tuple => true | _ => false) := by cases t <;> exact kit_all _ _ _ (by decide)
theorem kit_list (t : Ty) : kitB "list" (tyOf t) = some (match t with | .list => true | _ => false) := by cases t <;> exact kit_all _ _ _ (by decide)
theorem kit_dict (t : Ty) : kitB "dict" (tyOf t) = some false := by cases t <;> exact kit_all _ _ _ (by decide)
theorem isi_inv {C : Ctx} {H : Hp} {M : Sto} {Z : Addr → Prop} {v : PV} {x : V} {t : Ty} {k : Bool} (r : SR C H M Z) (h : Rep C H M Z v x) (e : isiS v M t = some k) : TyX C.K H x (.type (tyx v)) ∧ kitB (tyx v) (tyOf t) = some k := by
  have lq : ∀ {a : Addr} {vs : List V}, LQ C.K H a vs → TyX C.K H (.ref a) (.type "list") := fun {a vs} q => by
    rcases q with q | ⟨o, q⟩ | ⟨its, n, q, _⟩
    · exact .base (.lst q)
    · exact .base (.frz q)
    · exact .kList q rfl
  cases v with
  | non => cases h; exact ⟨.base .non, (kit_NoneType t).trans e⟩
  | bl b => cases h; exact ⟨.base (.bl b), (kit_bool t).trans e⟩
  | int b => cases h; exact ⟨.base (.int b), (kit_int t).trans e⟩
  | str b => cases h; exact ⟨.base (.str b), (kit_str t).trans e⟩
  | tup xs =>
    obtain ⟨a, vs, rfl, hq, _⟩ := h.tup_inv
    refine ⟨?_, (kit_tuple t).trans e⟩
    rcases hq with (q | ⟨o, q⟩) | ⟨o, its, n, q, c, _⟩
    · exact .base (.tup q)
    · exact .fTuple q
    · exact .kTuple q c
  | lst xs =>
    obtain ⟨a, vs, rfl, hq, _⟩ := h.lo_inv r rfl
    exact ⟨lq hq, (kit_list t).trans e⟩
  | ref a =>
    obtain ⟨rfl, q⟩ := h.ref_inv
    cases m : M a with
    | none => rw [m] at q; cases q
    | some o =>
      unfold isiS at e
      simp only [m] at e
      cases o with
      | lst xs =>
        obtain ⟨o, hh, vs, rfl, l⟩ := r.sto a _ m
        exact ⟨.base (.lst hh), (kit_list t).trans e⟩
      | dct _ => cases e
      | dks _ => cases e
  | fn f => cases e
  | emp =>
    cases h with
    | emp z q => exact ⟨.base (.dK q), (kit_dict t).trans e⟩

/-! ### built-in functions -/
theorem maxI_mem : ∀ (ns : List Int) (m : Int), maxI m ns ∈ m :: ns
  | [], m => by simp [maxI]
  | x :: r, m => by
    unfold maxI
    have h := maxI_mem r (if x > m then x else m)
    rcases List.mem_cons.mp h with e | e
    · rw [e]; split <;> simp
    · exact List.mem_cons_of_mem _ (List.mem_cons_of_mem _ e)
theorem maxI_ge : ∀ (ns : List Int) (m : Int), ∀ y ∈ m :: ns, y ≤ maxI m ns
  | [], m, y, h => by simp at h; subst h; exact Int.le_refl _
  | x :: r, m, y, h => by
    unfold maxI
    have g := maxI_ge r (if x > m then x else m)
    have g0 := g (if x > m then x else m) List.mem_cons_self
    rcases List.mem_cons.mp h with e | h
    · subst e
      refine Int.le_trans ?_ g0
      split <;> omega
    · rcases List.mem_cons.mp h with e | h
      · subst e
        refine Int.le_trans ?_ g0
        split <;> omega
      · exact g y (List.mem_cons_of_mem _ h)
theorem minI_mem : ∀ (ns : List Int) (m : Int), minI m ns ∈ m :: ns
  | [], m => by simp [minI]
  | x :: r, m => by
    unfold minI
    have h := minI_mem r (if x < m then x else m)
    rcases List.mem_cons.mp h with e | e
    · rw [e]; split <;> simp
    · exact List.mem_cons_of_mem _ (List.mem_cons_of_mem _ e)
theorem minI_le : ∀ (ns : List Int) (m : Int), ∀ y ∈ m :: ns, minI m ns ≤ y
  | [], m, y, h => by simp at h; subst h; exact Int.le_refl _
  | x :: r, m, y, h => by
    unfold minI
    have g := minI_le r (if x < m then x else m)
    have g0 := g (if x < m then x else m) List.mem_cons_self
    rcases List.mem_cons.mp h with e | h
    · subst e
      refine Int.le_trans g0 ?_
      split <;> omega
    · rcases List.mem_cons.mp h with e | h
      · subst e
        refine Int.le_trans g0 ?_
        split <;> omega
      · exact g y (List.mem_cons_of_mem _ h)
theorem RepL.one {C : Ctx} {H : Hp} {M : Sto} {Z : Addr → Prop} {v : PV} {xs : List V} (l : RepL C H M Z [v] xs) : ∃ x, xs = [x] ∧ Rep C H M Z v x := by
  cases l with | cons a b => cases b; exact ⟨_, rfl, a⟩
theorem RepL.two {C : Ctx} {H : Hp} {M : Sto} {Z : Addr → Prop} {v w : PV} {xs : List V} (l : RepL C H M Z [v, w] xs) : ∃ x y, xs = [x, y] ∧ Rep C H M Z v x ∧ Rep C H M Z w y := by
  cases l with | cons a b => cases b with | cons c d => cases d; exact ⟨_, _, rfl, a, c⟩
abbrev blOf : Bl → Value
  | .len => .builtin "len"
  | .abs => .builtin "abs"
  | .max => .builtin "max"
  | .min => .builtin "min"
  | .sum => .builtin "sum"
  | .all => .builtin "all"
  | .any => .builtin "any"
  | .int => .type "int"
  | .str => .type "str"
  | .repr => .builtin "repr"
  | .tuple => .type "tuple"
  | .list => .type "list"
  | .listM => .type "list"
  | .sorted => .builtin "sorted"
  | .sortedM => .builtin "sorted"
/-- a built-in of one argument -/
theorem one_ok {f : Value} {g : PV → Sto → Q1 → Prop} (h : ∀ (pins : List (Addr × Obj)) (s : Shared) (σ : L2.St) (H : Hp) (v : PV) (x : V) (us : List Value) (M : Sto) (Z : Addr → Prop) (Q' : Q1) (Q : VK), L2.Inv X pins σ H s → Vals [x] us → SR (ctx X ga) H M Z → Rep (ctx X ga) H M Z v x →
    g v M Q' → Clo (ctx X ga) H M Z Q' Q → wpAny (model X.prog X.w) X.A (call f us) (EP X pins σ Q) X.xe s) : CallR X f (rc (ctx X ga) (one1 g)) := by
  intro pins s σ H xs us Q I rx hq
  obtain ⟨vs, M, Z, Q', r, l, q, c⟩ := hq
  match vs, l, q with
  | [v], l, q =>
    obtain ⟨x, rfl, rv⟩ := l.one
    exact h pins s σ H v x us M Z Q' Q I rx r rv q c
  | [], _, q => exact False.elim q
  | _ :: _ :: _, _, q => exact False.elim q
theorem call_repr_any {P : Program} {w : World} {A : Around} {E : Value → Shared → Prop} {s : Shared} {u : Value} {d : PyData} {as : List Addr} {Q : Value → Shared → Prop} (r : Reads s.heap u d as) (hs : d.showable = true) (hnd : d.hasDict = false) (hg : A.guards = some []) (hu : A.units + (d.depth + 1) < cLine) (hsz : d.shown.length ≤ sizeLine)
    (hQ : ∀ h' t tk, (∀ b o, s.heap.get? b = some o → h'.get? b = some o) → Q (.str d.shown t) { s with heap := h', toks := tk }) : wpAny (model P w) A (call (.builtin "repr") [u]) Q E s := by
  have key : (∃ a, u = .ref a) → wpAny (model P w) A (call (.builtin "repr") [u]) Q E s := by
    rintro ⟨a, rfl⟩
    exact repr_of_reads' r hs (PyData.noDict_hsm hnd) hg hu (fun _ _ e => e) hQ hsz
  cases r with
  | list _ _ _ _ => exact key ⟨_, rfl⟩
  | tuple _ _ _ _ => exact key ⟨_, rfl⟩
  | dict _ _ _ _ _ => exact key ⟨_, rfl⟩
  | none => exact PySem.P.repr_of_none (hQ s.heap _ _ fun _ _ e => e)
  | bool b => exact PySem.P.repr_of_bool (hQ s.heap _ _ fun _ _ e => e)
  | int i t => exact PySem.P.repr_of_int (of_decide_eq_true hs) (hQ s.heap _ _ fun _ _ e => e)
  | str x t => exact PySem.P.repr_of_str (hQ s.heap _ _ fun _ _ e => e) hsz
theorem blt_ok (hc : X.calm = true) (hu : X.A.units + 65 < cLine) (hgd : X.A.guards = some []) (b : Bl) : CallR X (blOf b) (rc (ctx X ga) (bltS b)) := by
  cases b with
  | len =>
    refine one_ok fun pins s σ H v x us M Z Q' Q I rx r rv f c => ?_
    have seq : (∃ xs, so M v = some xs ∧ Q' (.int xs.length) M) → wpAny (model X.prog X.w) X.A (call (blOf .len) us) (EP X pins σ Q) X.xe s := by
      rintro ⟨ys, e, q⟩
      obtain ⟨p, ws, rfl, hs, l2⟩ := rv.so_inv r e
      refine call_len pins s σ H _ us Q I rx ⟨.ref p, ws.length, rfl, ?_, ?_⟩
      · rcases hs with hs | hs
        · exact .inl ⟨ws, hs, rfl⟩
        · exact .inr ⟨ws, hs, rfl⟩
      · rw [← l2.length]; exact c.same r (.int _) q
    cases v with
    | str z =>
      obtain rfl := rv.str_inv
      exact call_len pins s σ H _ us Q I rx ⟨.str z, z.length, rfl, ⟨f.1, rfl⟩, c.same r (.int _) f.2⟩
    | _ => exact seq f
  | abs =>
    refine one_ok fun pins s σ H v x us M Z Q' Q I rx r rv f c => ?_
    cases v with
    | int i =>
      obtain rfl := rv.int_inv
      exact call_abs pins s σ H _ us Q I rx ⟨i, rfl, c.same r (.int _) f⟩
    | _ => exact False.elim f
  | max =>
    intro pins s σ H xs us Q I rx h
    obtain ⟨vs, M, Z, Q', r, l, f, c⟩ := h
    match vs, l, f with
    | [v, w], l, f =>
      obtain ⟨x, y, rfl, rv, rw⟩ := l.two
      obtain ⟨i, j, rfl, rfl, f⟩ := f
      obtain rfl := rv.int_inv
      obtain rfl := rw.int_inv
      exact call_max2 hc pins s σ H _ us Q I rx ⟨i, j, rfl, c.same r (.int _) f⟩
    | [v], l, f =>
      obtain ⟨x, rfl, rv⟩ := l.one
      obtain ⟨ys, n, ns, e1, e2, q⟩ := f
      obtain ⟨p, ws, rfl, hs, l2⟩ := rv.lo_inv r e1
      have g := ints_of l2 e2
      subst g
      refine cr_max hc pins s σ H _ us Q I rx ⟨p, n :: ns, rfl, hs.sq, by simp, fun m h1 h2 => ?_⟩
      have e : m = maxI n ns := Int.le_antisymm (maxI_ge ns n m h1) (h2 _ (maxI_mem ns n))
      subst e
      exact c.same r (.int _) q
    | [], _, f => exact False.elim f
    | _ :: _ :: _ :: _, _, f => exact False.elim f
  | min =>
    intro pins s σ H xs us Q I rx h
    obtain ⟨vs, M, Z, Q', r, l, f, c⟩ := h
    match vs, l, f with
    | [v, w], l, f =>
      obtain ⟨x, y, rfl, rv, rw⟩ := l.two
      obtain ⟨i, j, rfl, rfl, f⟩ := f
      obtain rfl := rv.int_inv
      obtain rfl := rw.int_inv
      exact call_min2 hc pins s σ H _ us Q I rx ⟨i, j, rfl, c.same r (.int _) f⟩
    | [v], l, f =>
      obtain ⟨x, rfl, rv⟩ := l.one
      obtain ⟨ys, n, ns, e1, e2, q⟩ := f
      obtain ⟨p, ws, rfl, hs, l2⟩ := rv.lo_inv r e1
      have g := ints_of l2 e2
      subst g
      refine cr_min hc pins s σ H _ us Q I rx ⟨p, n :: ns, rfl, hs.sq, by simp, fun m h1 h2 => ?_⟩
      have e : m = minI n ns := Int.le_antisymm (h2 _ (minI_mem ns n)) (minI_le ns n m h1)
      subst e
      exact c.same r (.int _) q
    | [], _, f => exact False.elim f
    | _ :: _ :: _ :: _, _, f => exact False.elim f
  | sum =>
    refine one_ok fun pins s σ H v x us M Z Q' Q I rx r rv f c => ?_
    obtain ⟨ys, ns, e1, e2, q⟩ := f
    obtain ⟨p, ws, rfl, hs, l2⟩ := rv.lo_inv r e1
    have g := ints_of l2 e2
    subst g
    exact cr_sum hc pins s σ H _ us Q I rx ⟨p, ns, rfl, hs.sq, c.same r (.int _) q⟩
  | all =>
    refine one_ok fun pins s σ H v x us M Z Q' Q I rx r rv f c => ?_
    obtain ⟨ys, ns, e1, e2, q⟩ := f
    obtain ⟨p, ws, rfl, hs, l2⟩ := rv.lo_inv r e1
    have g := bools_of l2 e2
    subst g
    exact cr_all hc pins s σ H _ us Q I rx ⟨p, ns, rfl, hs.sq, c.same r (.bl _) q⟩
  | any =>
    refine one_ok fun pins s σ H v x us M Z Q' Q I rx r rv f c => ?_
    obtain ⟨ys, ns, e1, e2, q⟩ := f
    obtain ⟨p, ws, rfl, hs, l2⟩ := rv.lo_inv r e1
    have g := bools_of l2 e2
    subst g
    exact cr_any hc pins s σ H _ us Q I rx ⟨p, ns, rfl, hs.sq, c.same r (.bl _) q⟩
  | int =>
    refine one_ok fun pins s σ H v x us M Z Q' Q I rx r rv f c => ?_
    cases v with
    | int i =>
      obtain rfl := rv.int_inv
      exact call_int1 pins s σ H _ us Q I rx (.inl ⟨i, rfl, c.same r (.int _) f⟩)
    | bl i =>
      obtain rfl := rv.bl_inv
      exact call_int1 pins s σ H _ us Q I rx (.inr ⟨i, rfl, c.same r (.int _) f⟩)
    | _ => exact False.elim f
  | str =>
    refine one_ok fun pins s σ H v x us M Z Q' Q I rx r rv f c => ?_
    cases v with
    | int i =>
      obtain rfl := rv.int_inv
      exact call_str_int pins s σ H _ us Q I rx ⟨i, rfl, f.1, c.same r (.str _) f.2⟩
    | _ => exact False.elim f
  | repr =>
    refine one_ok fun pins s σ H v x us M Z Q' Q I rx r rv f c => ?_
    obtain ⟨⟨p1, p2, p3, p4⟩, q⟩ := f
    obtain ⟨u, rfl, ru⟩ := rx.one
    obtain ⟨as, rd⟩ := Dp.reads I _ x u (rv.now r p1) ru
    refine call_repr_any rd p3 (PyData.hasDict_of_canLay _ (PV.dat_lay _ p1)) hgd (by rw [PV.dat_dep]; omega) p4 fun h' t tk hk => ?_
    exact ⟨.str _, H, I.kept hk, ⟨t, rfl⟩, c.same r (.str _) q⟩
  | tuple =>
    refine one_ok fun pins s σ H v x us M Z Q' Q I rx r rv f c => ?_
    obtain ⟨ys, e1, q⟩ := f
    obtain ⟨p, ws, rfl, hs, l2⟩ := rv.so_inv r e1
    refine call_tuple_of pins s σ H _ us Q I rx ⟨p, ws, rfl, ?_⟩
    rcases hs with hs | hs
    · exact .inl ⟨hs, fun p2 hp => c.newT r l2 q hp⟩
    · exact .inr ⟨hs, c.same r (.tup hs l2) q⟩
  | list =>
    refine one_ok fun pins s σ H v x us M Z Q' Q I rx r rv f c => ?_
    obtain ⟨ys, e1, q⟩ := f
    obtain ⟨p, ws, rfl, hs, l2⟩ := rv.so_inv r e1
    exact call_list_of pins s σ H _ us Q I rx ⟨p, ws, rfl, hs, fun p2 hp => c.newL (mt := false) r l2 q hp⟩
  | listM =>
    refine one_ok fun pins s σ H v x us M Z Q' Q I rx r rv f c => ?_
    obtain ⟨ys, e1, q⟩ := f
    obtain ⟨p, ws, rfl, hs, l2⟩ := rv.so_inv r e1
    exact call_list_of pins s σ H _ us Q I rx ⟨p, ws, rfl, hs, fun p2 hp => c.newL (mt := true) r l2 q hp⟩
  | sorted => intro pins s σ H xs us Q I rx ⟨_, _, _, _, _, _, f, _⟩; exact False.elim f
  | sortedM => intro pins s σ H xs us Q I rx ⟨_, _, _, _, _, _, f, _⟩; exact False.elim f

/-! ### methods of lists, stores -/
theorem mt_extendL : MtM X "list.extend" (fun x vs H Q => ∃ l b xs zs, x = .ref l ∧ vs = [.ref b] ∧ H l = some (.lst xs) ∧ LQ X.K H b zs ∧ xs.length + zs.length ≤ sizeLine ∧ Q .non (upd H l (.lst (xs ++ zs)))) := by
  intro pins s σ H x vs v us Q I rx rv h
  obtain ⟨l, b, xs, zs, rfl, rfl, h1, h2, hz, q⟩ := h
  cases rx
  obtain ⟨u, rfl, ru⟩ := rv.one
  cases ru
  obtain ⟨_, its, n, r, hl, e⟩ := I.lstM h1
  obtain ⟨its2, n2, r2, e2, _⟩ := h2.isL I
  have hl2 := r2.length
  have sz : its.toArray.size + its2.toArray.size ≤ sizeLine := by simp only [List.size_toArray]; omega
  have c1 : ¬ (!its.toArray.isEmpty && Builtin.List.listTooLong (its.toArray.size + its2.toArray.size)) = true := by
    rw [notLongL sz]; simp
  have inner := AutoSeq1.list_extend_list_list_0 l its.toArray n b its2.toArray n2 c1 (by rw [List.size_toArray]; omega) (by omega)
  refine call_meets F.slot_list_extend ⟨_, e, rfl⟩ F.entry_list_extend
    (F.args_list_extend_2 _ _) inner ⟨e, e2, ?_⟩
  refine ⟨.non, _, I.lset (its' := its ++ its2) h1 e (by simp) (r.append r2) ?_, rfl, q⟩
  simp only [List.length_append]; omega
abbrev mtOf : Mt → String
  | .append => "list.append"
  | .extend => "list.extend"
  | .insert => "list.insert"
  | .index => "list.index"
  | .count => "list.count"
  | .pop => "list.pop"
theorem mth_ok (m : Mt) : MtR X (mtOf m) (rm (ctx X ga) (mthS m)) := by
  intro pins s σ H x xs v us Q I rx rxs h
  obtain ⟨a, vs, M, Z, Q', r, ra, l, f, c⟩ := h
  cases m with
  | append =>
    match vs, l, f with
    | [y], l, f =>
      obtain ⟨p, ys, rfl, m, hz, q⟩ := f
      obtain ⟨rfl, _⟩ := ra.ref_inv
      obtain ⟨z, rfl, rz⟩ := l.one
      obtain ⟨o, hh, ws, rfl, l2⟩ := r.sto p _ m
      exact mt_append pins s σ H _ _ v us Q I rx rxs ⟨p, ws, z, rfl, rfl, hh, by rw [← l2.length]; exact hz, c.wrL r m (l2.append (.cons rz .nil)) .non q⟩
    | [], _, f => exact False.elim f
    | _ :: _ :: _, _, f => exact False.elim f
  | extend =>
    match vs, l, f with
    | [y], l, f =>
      obtain ⟨p, ys, zs, rfl, m, e, hz, q⟩ := f
      obtain ⟨rfl, _⟩ := ra.ref_inv
      obtain ⟨z, rfl, rz⟩ := l.one
      obtain ⟨o, hh, ws, rfl, l2⟩ := r.sto p _ m
      obtain ⟨b, us2, rfl, hb, l3⟩ := rz.lo_inv r e
      exact mt_extendL pins s σ H _ _ v us Q I rx rxs ⟨p, b, ws, us2, rfl, rfl, hh, hb, by rw [← l2.length, ← l3.length]; exact hz, c.wrL r m (l2.append l3) .non q⟩
    | [], _, f => exact False.elim f
    | _ :: _ :: _, _, f => exact False.elim f
  | _ => cases vs <;> exact False.elim f
/-- o[i] = v -/
def rset (C : Ctx) : V → V → V → Hp → (Hp → Prop) → Prop := fun x y z H Q =>
  ∃ a b v M Z Q', SR C H M Z ∧ Rep C H M Z a x ∧ Rep C H M Z b y ∧ Rep C H M Z v z ∧ setS a b v M Q' ∧ ∀ H' M' Z', Ext H M Z H' M' Z' → SR C H' M' Z' → Q' M' → Q H'
theorem set_ok : PSet X (rset (ctx X ga)) := by
  intro pins s σ H o i z ov iv u Q I ro ri rz h
  obtain ⟨a, b, v, M, Z, Q', r, ra, rb, rv, f, c⟩ := h
  cases a with
  | ref p =>
    cases b with
    | int k =>
      obtain ⟨xs, j, m, e, q⟩ := f
      obtain ⟨rfl, _⟩ := ra.ref_inv
      obtain rfl := rb.int_inv
      obtain ⟨o, hh, ws, rfl, l2⟩ := r.sto p _ m
      refine set_list pins s σ H _ _ z ov iv u Q I ro ri rz ⟨p, ws, k, j, rfl, rfl, hh, by rw [← l2.length]; exact e, ?_⟩
      exact c _ _ _ (Ext.wr m) (r.wr (so' := .lst (xs.set j v)) m ⟨_, rfl, l2.set rv j⟩) q
    | _ => exact f.elim
  | _ => cases b <;> exact f.elim
end
end SG
namespace SG
open PySem PySem.Spec PyProof.Rows L2

/-! ### readings of the small language -/
structure EnvR (C : Ctx) (H : Hp) (M : Sto) (Z : Addr → Prop) (ρ : Rho) (σ : L2.St) : Prop where
  len : ρ.length = σ.length
  get : ∀ (i : Nat) (v : PV), ρ[i]? = some (some v) → ∃ x, σ[i]? = some (some x) ∧ Rep C H M Z v x
theorem EnvR.mono {C : Ctx} {H H1 : Hp} {M M1 : Sto} {Z Z1 : Addr → Prop} {ρ : Rho} {σ : L2.St} (e : EnvR C H M Z ρ σ) (r : SR C H M Z) (x : Ext H M Z H1 M1 Z1) : EnvR C H1 M1 Z1 ρ σ :=
  ⟨e.len, fun i v h => let ⟨u, h1, h2⟩ := e.get i v h; ⟨u, h1, h2.mono r x⟩⟩
theorem EnvR.set {C : Ctx} {H : Hp} {M : Sto} {Z : Addr → Prop} {ρ : Rho} {σ : L2.St} (e : EnvR C H M Z ρ σ) {v : PV} {u : V} (r : Rep C H M Z v u) (i : Nat) : EnvR C H M Z (ρ.set i (some v)) (σ.set i (some u)) := by
  refine ⟨by simp [e.len], fun j w h => ?_⟩
  by_cases q : j = i
  · subst q
    by_cases hj : j < ρ.length
    · rw [List.getElem?_set_self hj] at h
      cases h
      exact ⟨u, List.getElem?_set_self (by rw [← e.len]; exact hj), r⟩
    · rw [List.getElem?_eq_none (by simpa using hj)] at h; cases h
  · rw [List.getElem?_set_ne (Ne.symm q)] at h ⊢
    exact e.get j w h
def rd (C : Ctx) (F : FS) (e : E) : TE := fun σ H Q => ∃ ρ M Z Q', SR C H M Z ∧ EnvR C H M Z ρ σ ∧ wpE F e ρ M Q' ∧ Clo C H M Z Q' Q
def CloL (C : Ctx) (H : Hp) (M : Sto) (Z : Addr → Prop) (Q' : List PV → Sto → Prop) (Q : List V → Hp → Prop) : Prop :=
  ∀ vs xs H' M' Z', Ext H M Z H' M' Z' → SR C H' M' Z' → RepL C H' M' Z' vs xs → Q' vs M' → Q xs H'
def rdL (C : Ctx) (F : FS) (es : List E) : TA := fun σ H Q => ∃ ρ M Z Q', SR C H M Z ∧ EnvR C H M Z ρ σ ∧ wpL F es ρ M Q' ∧ CloL C H M Z Q' Q
def CloB {α : Type} (C : Ctx) (H : Hp) (M : Sto) (Z : Addr → Prop) (Q' : α → Sto → Prop) (Q : α → Hp → Prop) : Prop :=
  ∀ k H' M' Z', Ext H M Z H' M' Z' → SR C H' M' Z' → Q' k M' → Q k H'
def rdO (C : Ctx) (F : FS) (e : Option E) : TO := fun σ H Q => ∃ ρ M Z Q', SR C H M Z ∧ EnvR C H M Z ρ σ ∧ wpO F e ρ M Q' ∧ CloB C H M Z Q' Q
/-- an expression as a test -/
def rdT (C : Ctx) (F : FS) (e : E) : TT := fun σ H Q => ∃ ρ M Z Q', SR C H M Z ∧ EnvR C H M Z ρ σ ∧ wpE F e ρ M (fun v M' => ∃ k, truS M' v = some k ∧ Q' k M') ∧ CloB C H M Z Q' Q

theorem PE.imp {X : Cx} {e : Expr} {t t' : TE} (h : PE X e t) (i : ∀ σ H Q, t' σ H Q → t σ H Q) : PE X e t' := ⟨fun pins s σ H Q I q => h.run pins s σ H Q I (i σ H Q q)⟩
theorem PT.imp {X : Cx} {e : Expr} {t t' : TT} (h : PT X e t) (i : ∀ σ H Q, t' σ H Q → t σ H Q) : PT X e t' := ⟨fun pins s σ H Q I q => h.run pins s σ H Q I (i σ H Q q)⟩
theorem PW.imp {X : Cx} {e : Expr} {t t' : TT} (h : PW X e t) (i : ∀ σ H Q, t' σ H Q → t σ H Q) : PW X e t' := ⟨fun wh pins s σ H Q I q => h.run wh pins s σ H Q I (i σ H Q q)⟩
theorem PA.imp {X : Cx} {e : List Expr} {t t' : TA} (h : PA X e t) (i : ∀ σ H Q, t' σ H Q → t σ H Q) : PA X e t' := ⟨fun p pins s σ H Q I q => h.run p pins s σ H Q I (i σ H Q q)⟩
theorem PO.imp {X : Cx} {e : Option Expr} {t t' : TO} (h : PO X e t) (i : ∀ σ H Q, t' σ H Q → t σ H Q) : PO X e t' := ⟨fun pins s σ H Q I q => h.run pins s σ H Q I (i σ H Q q)⟩

section
variable {X : Cx} {ga : Str → Option Addr} {F : FS}

/-! ### rules -/
theorem ps_var {i : Nat} {x : Str} {pos : Pos} (hN : X.N[i]? = some x) (hv : Vis X.env.scope x) (hd : (x == ("__debug__" : Str)) = false) (hcd : (x == ("__classdict__" : Str)) = false) : PE X (.Name x pos) (rd (ctx X ga) F (.var i)) :=
  PE.imp (pe_var hN hv hd hcd) fun σ H Q ⟨ρ, M, Z, Q', r, e, ⟨v, h, q⟩, c⟩ => by
    obtain ⟨u, h1, h2⟩ := e.get i v h
    exact ⟨u, h1, c.same r h2 q⟩
/-- a value that is the same everywhere -/
theorem ps_cst {e : Expr} {v : PV} {x : V} (h : PE X e (tC x)) (rv : ∀ H M Z, Rep (ctx X ga) H M Z v x) : PE X e (rd (ctx X ga) F (.cst v)) :=
  PE.imp h fun σ H Q ⟨ρ, M, Z, Q', r, e, q, c⟩ => c.same r (rv H M Z) q
theorem rd_two {a b : E} {f : PV → PV → Sto → Q1 → Prop} {σ : L2.St} {H : Hp} {Q : VK} {ρ : Rho} {M : Sto} {Z : Addr → Prop} {Q' : Q1} (r : SR (ctx X ga) H M Z) (e : EnvR (ctx X ga) H M Z ρ σ)
    (h : wpE F a ρ M fun x M1 => wpE F b ρ M1 fun y M2 => f x y M2 Q') (c : Clo (ctx X ga) H M Z Q' Q) : tOp (r2 (ctx X ga) f) (rd (ctx X ga) F a) (rd (ctx X ga) F b) σ H Q := by
  refine ⟨ρ, M, Z, _, r, e, h, fun v x H1 M1 Z1 x1 r1 rv h1 => ?_⟩
  refine ⟨ρ, M1, Z1, _, r1, e.mono r x1, h1, fun w y H2 M2 Z2 x2 r2 rw h2 => ?_⟩
  exact ⟨v, w, M2, Z2, Q', r2, rv.mono r1 x2, rw, h2, fun z u H3 M3 Z3 x3 r3 rz h3 => c z u H3 M3 Z3 ((x1.trans x2).trans x3) r3 rz h3⟩
theorem ps_bin {op : Op} {a b : Expr} {ea eb : E} {pos : Pos} (ha : PE X a (rd (ctx X ga) F ea)) (hb : PE X b (rd (ctx X ga) F eb)) : PE X (.BinOp a (opOf op) b pos) (rd (ctx X ga) F (.bin op ea eb)) :=
  PE.imp (pe_op (bin_ok op) ha hb) fun σ H Q ⟨ρ, M, Z, Q', r, e, h, c⟩ => rd_two r e h c
theorem ps_neg {a : Expr} {ea : E} {pos : Pos} (ha : PE X a (rd (ctx X ga) F ea)) : PE X (.UnaryOp .USub a pos) (rd (ctx X ga) F (.neg ea)) :=
  PE.imp (pe_un un_neg ha) fun σ H Q ⟨ρ, M, Z, Q', r, e, h, c⟩ => ⟨ρ, M, Z, _, r, e, h, fun v x H1 M1 Z1 x1 r1 rv ⟨i, h1, q⟩ => by
    subst h1
    obtain rfl := rv.int_inv
    exact ⟨i, rfl, c _ _ _ _ _ x1 r1 (.int _) q⟩⟩
theorem ps_cmp {op : Cp} {a b : Expr} {ea eb : E} {pos : Pos} (hu : X.A.units + 65 < cLine) (ha : PE X a (rd (ctx X ga) F ea)) (hb : PE X b (rd (ctx X ga) F eb)) (hm : behindInMarks (cpOf op) b = false) : PE X (.Compare a [cpOf op] [b] pos) (rd (ctx X ga) F (.cmp op ea eb)) :=
  PE.imp (pe_cmpR (cmp_ok hu op) ha hb hm) fun σ H Q ⟨ρ, M, Z, Q', r, e, h, c⟩ => rd_two r e h c
/-- any expression, as a test, by its value -/
theorem pt_tru {a : Expr} {ea : E} (ha : PE X a (rd (ctx X ga) F ea)) (he : ∀ whole, isTrue a X.env whole = (do let v ← whole; standAt a.pos; holding [v] (truthy v))) : PT X a (rdT (ctx X ga) F ea) :=
  PT.imp (pt_truth ha he) fun σ H Q ⟨ρ, M, Z, Q', r, e, h, c⟩ => ⟨ρ, M, Z, _, r, e, h, fun v x H1 M1 Z1 x1 r1 rv ⟨k, h1, q⟩ => ⟨k, tru_inv r1 rv h1, c k H1 M1 Z1 x1 r1 q⟩⟩
/-- a comparison's value is a truth -/
theorem cmpS_bl {op : Cp} {x y : PV} {M : Sto} {Q : Q1} (h : cmpS op x y M Q) : cmpS op x y M fun v M' => (∃ k, v = .bl k) ∧ Q v M' := by
  have ord : ∀ op, ordS op x y M Q → ordS op x y M fun v M' => (∃ k, v = .bl k) ∧ Q v M' := fun op h => by
    unfold ordS at h ⊢
    split at h
    · exact ⟨⟨_, rfl⟩, h⟩
    · obtain ⟨e, ns, ms, h1, h2, q⟩ := h
      exact ⟨e, ns, ms, h1, h2, ⟨_, rfl⟩, q⟩
    · exact h
  have isx : ∀ neg, isS neg x y M Q → isS neg x y M fun v M' => (∃ k, v = .bl k) ∧ Q v M' := fun neg h => by
    unfold isS at h ⊢
    split at h
    · exact ⟨⟨_, rfl⟩, h⟩
    · exact ⟨⟨_, rfl⟩, h⟩
    · exact h
  have inx : ∀ neg, inS neg x y M Q → inS neg x y M fun v M' => (∃ k, v = .bl k) ∧ Q v M' := fun neg h => by
    obtain ⟨ys, h1, h2, h3, h4, q⟩ := h
    exact ⟨ys, h1, h2, h3, h4, ⟨_, rfl⟩, q⟩
  cases op with
  | eq => exact ⟨h.1, ⟨_, rfl⟩, h.2⟩
  | ne => exact ⟨h.1, ⟨_, rfl⟩, h.2⟩
  | lt => exact ord .lt h
  | le => exact ord .le h
  | gt => exact ord .gt h
  | ge => exact ord .ge h
  | is => exact isx false h
  | isnot => exact isx true h
  | isin => exact inx false h
  | notin => exact inx true h
theorem pt_cmp' {op : Cp} {a b : Expr} {ea eb : E} {pos : Pos} (hu : X.A.units + 65 < cLine) (ha : PE X a (rd (ctx X ga) F ea)) (hb : PE X b (rd (ctx X ga) F eb)) (hm : behindInMarks (cpOf op) b = false) : PT X (.Compare a [cpOf op] [b] pos) (rdT (ctx X ga) F (.cmp op ea eb)) :=
  PT.imp (pt_cmpR (cmp_ok hu op) ha hb hm) fun σ H Q ⟨ρ, M, Z, Q', r, e, h, c⟩ => by
    refine ⟨ρ, M, Z, _, r, e, h, fun v x H1 M1 Z1 x1 r1 rv h1 => ?_⟩
    refine ⟨ρ, M1, Z1, _, r1, e.mono r x1, h1, fun w y H2 M2 Z2 x2 r2 rw h2 => ?_⟩
    refine ⟨v, w, M2, Z2, _, r2, rv.mono r1 x2, rw, cmpS_bl h2, fun z u H3 M3 Z3 x3 r3 rz ⟨⟨k, hk⟩, k2, h3, q⟩ => ?_⟩
    subst hk
    obtain rfl := rz.bl_inv
    have e2 : k = k2 := Option.some.inj h3
    subst e2
    exact ⟨k, rfl, c k H3 M3 Z3 ((x1.trans x2).trans x3) r3 q⟩
theorem rd_chain {op op' : Cp} {a b d : E} {σ : L2.St} {H : Hp} {Q : VK} {ρ : Rho} {M : Sto} {Z : Addr → Prop} {Q' : Q1} (r : SR (ctx X ga) H M Z) (e : EnvR (ctx X ga) H M Z ρ σ)
    (h : wpE F (.chain op op' a b d) ρ M Q') (c : Clo (ctx X ga) H M Z Q' Q) : tChain (r2 (ctx X ga) (cmpS op)) (r2 (ctx X ga) (cmpS op')) (rd (ctx X ga) F a) (rd (ctx X ga) F b) (rd (ctx X ga) F d) σ H Q := by
  refine ⟨ρ, M, Z, _, r, e, h, fun v x H1 M1 Z1 x1 r1 rv h1 => ?_⟩
  refine ⟨ρ, M1, Z1, _, r1, e.mono r x1, h1, fun w y H2 M2 Z2 x2 r2 rw h2 => ?_⟩
  refine ⟨v, w, M2, Z2, _, r2, rv.mono r1 x2, rw, h2, fun z u H3 M3 Z3 x3 r3 rz ⟨k, h3, q⟩ => ?_⟩
  subst h3
  obtain rfl := rz.bl_inv
  refine ⟨k, rfl, ?_⟩
  cases k with
  | false =>
    rw [if_neg Bool.false_ne_true] at q ⊢
    exact c _ _ _ _ _ ((x1.trans x2).trans x3) r3 (.bl _) q
  | true =>
    rw [if_pos rfl] at q ⊢
    refine ⟨ρ, M3, Z3, _, r3, e.mono r ((x1.trans x2).trans x3), q, fun z2 u2 H4 M4 Z4 x4 r4 rz4 h4 => ?_⟩
    exact ⟨w, z2, M4, Z4, Q', r4, rw.mono r2 (x3.trans x4), rz4, h4, fun z5 u5 H5 M5 Z5 x5 r5 rz5 h5 => c _ _ _ _ _ ((((x1.trans x2).trans x3).trans x4).trans x5) r5 rz5 h5⟩
theorem ps_chain {op op' : Cp} {a b d : Expr} {ea eb ed : E} {pos : Pos} (hu : X.A.units + 65 < cLine) (ha : PE X a (rd (ctx X ga) F ea)) (hb : PE X b (rd (ctx X ga) F eb)) (hd : PE X d (rd (ctx X ga) F ed)) (hm : lastMarks [cpOf op, cpOf op'] [b, d] = false) :
    PE X (.Compare a [cpOf op, cpOf op'] [b, d] pos) (rd (ctx X ga) F (.chain op op' ea eb ed)) :=
  PE.imp (pe_chain (cmp_ok hu op) (cmp_ok hu op') ha hb hd hm) fun σ H Q ⟨ρ, M, Z, Q', r, e, h, c⟩ => rd_chain r e h c
theorem rd_mono (F : FS) {op : Cp} {x y : PV} {M : Sto} {Q Q2 : Q1} (h : cmpS op x y M Q) (i : ∀ k M', Q (.bl k) M' → Q2 (.bl k) M') : cmpS op x y M Q2 := by
  have ord : ∀ op, ordS op x y M Q → ordS op x y M Q2 := fun op h => by
    unfold ordS at h ⊢
    split at h
    · exact i _ _ h
    · obtain ⟨e, ns, ms, h1, h2, q⟩ := h
      exact ⟨e, ns, ms, h1, h2, i _ _ q⟩
    · exact h
  have isx : ∀ neg, isS neg x y M Q → isS neg x y M Q2 := fun neg h => by
    unfold isS at h ⊢
    split at h
    · exact i _ _ h
    · exact i _ _ h
    · exact h
  have inx : ∀ neg, inS neg x y M Q → inS neg x y M Q2 := fun neg h => by
    obtain ⟨ys, h1, h2, h3, h4, q⟩ := h
    exact ⟨ys, h1, h2, h3, h4, i _ _ q⟩
  cases op with
  | eq => exact ⟨h.1, i _ _ h.2⟩
  | ne => exact ⟨h.1, i _ _ h.2⟩
  | lt => exact ord .lt h
  | le => exact ord .le h
  | gt => exact ord .gt h
  | ge => exact ord .ge h
  | is => exact isx false h
  | isnot => exact isx true h
  | isin => exact inx false h
  | notin => exact inx true h
theorem pt_chain' {op op' : Cp} {a b d : Expr} {ea eb ed : E} {pos : Pos} (hu : X.A.units + 65 < cLine) (ha : PE X a (rd (ctx X ga) F ea)) (hb : PE X b (rd (ctx X ga) F eb)) (hd : PE X d (rd (ctx X ga) F ed)) (hm : lastMarks [cpOf op, cpOf op'] [b, d] = false) :
    PT X (.Compare a [cpOf op, cpOf op'] [b, d] pos) (rdT (ctx X ga) F (.chain op op' ea eb ed)) :=
  PT.imp (pt_chain (cmp_ok hu op) (cmp_ok hu op') ha hb hd hm) fun σ H Q ⟨ρ, M, Z, Q', r, e, h, c⟩ => by
    refine ⟨ρ, M, Z, _, r, e, h, fun v x H1 M1 Z1 x1 r1 rv h1 => ?_⟩
    refine ⟨ρ, M1, Z1, _, r1, e.mono r x1, h1, fun w y H2 M2 Z2 x2 r2 rw h2 => ?_⟩
    refine ⟨v, w, M2, Z2, _, r2, rv.mono r1 x2, rw, h2, fun z u H3 M3 Z3 x3 r3 rz ⟨k, h3, q⟩ => ?_⟩
    subst h3
    obtain rfl := rz.bl_inv
    refine ⟨k, rfl, ?_⟩
    cases k with
    | false =>
      rw [if_neg Bool.false_ne_true] at q ⊢
      obtain ⟨k2, e2, q⟩ := q
      cases e2
      exact ⟨false, rfl, c _ _ _ _ ((x1.trans x2).trans x3) r3 q⟩
    | true =>
      rw [if_pos rfl] at q ⊢
      refine ⟨ρ, M3, Z3, _, r3, e.mono r ((x1.trans x2).trans x3), q, fun z2 u2 H4 M4 Z4 x4 r4 rz4 h4 => ?_⟩
      refine ⟨w, z2, M4, Z4, _, r4, rw.mono r2 (x3.trans x4), rz4, cmpS_bl h4, fun z5 u5 H5 M5 Z5 x5 r5 rz5 ⟨⟨k5, hk⟩, k6, h5, q5⟩ => ?_⟩
      subst hk
      obtain rfl := rz5.bl_inv
      have e2 : k5 = k6 := Option.some.inj h5
      subst e2
      exact ⟨k5, rfl, c k5 _ _ _ ((((x1.trans x2).trans x3).trans x4).trans x5) r5 q5⟩

/-! ### and, or, not, if -/
theorem ps_and {a b : Expr} {rest : List Expr} {ea eb : E} {pos : Pos} (ha : PE X a (rd (ctx X ga) F ea)) (hb : PE X (.BoolOp .And (b :: rest) pos) (rd (ctx X ga) F eb)) : PE X (.BoolOp .And (a :: b :: rest) pos) (rd (ctx X ga) F (.and ea eb)) :=
  PE.imp (pe_andT ha hb) fun σ H Q ⟨ρ, M, Z, Q', r, e, h, c⟩ => by
    refine ⟨ρ, M, Z, _, r, e, h, fun v x H1 M1 Z1 x1 r1 rv ⟨k, h1, q⟩ => ⟨k, tru_inv r1 rv h1, ?_⟩⟩
    cases k with
    | true =>
      rw [if_pos rfl] at q ⊢
      exact ⟨ρ, M1, Z1, Q', r1, e.mono r x1, q, fun w y H2 M2 Z2 x2 r2 rw h2 => c _ _ _ _ _ (x1.trans x2) r2 rw h2⟩
    | false =>
      rw [if_neg Bool.false_ne_true] at q ⊢
      exact c _ _ _ _ _ x1 r1 rv q
theorem ps_or {a b : Expr} {rest : List Expr} {ea eb : E} {pos : Pos} (ha : PE X a (rd (ctx X ga) F ea)) (hb : PE X (.BoolOp .Or (b :: rest) pos) (rd (ctx X ga) F eb)) : PE X (.BoolOp .Or (a :: b :: rest) pos) (rd (ctx X ga) F (.or ea eb)) :=
  PE.imp (pe_orT ha hb) fun σ H Q ⟨ρ, M, Z, Q', r, e, h, c⟩ => by
    refine ⟨ρ, M, Z, _, r, e, h, fun v x H1 M1 Z1 x1 r1 rv ⟨k, h1, q⟩ => ⟨k, tru_inv r1 rv h1, ?_⟩⟩
    cases k with
    | true =>
      rw [if_pos rfl] at q ⊢
      exact c _ _ _ _ _ x1 r1 rv q
    | false =>
      rw [if_neg Bool.false_ne_true] at q ⊢
      exact ⟨ρ, M1, Z1, Q', r1, e.mono r x1, q, fun w y H2 M2 Z2 x2 r2 rw h2 => c _ _ _ _ _ (x1.trans x2) r2 rw h2⟩
theorem pt_and' {a b : Expr} {rest : List Expr} {ea eb : E} {pos : Pos} (ha : PT X a (rdT (ctx X ga) F ea)) (hb : PW X (.BoolOp .And (b :: rest) pos) (rdT (ctx X ga) F eb)) : PW X (.BoolOp .And (a :: b :: rest) pos) (rdT (ctx X ga) F (.and ea eb)) :=
  PW.imp (pw_and ha hb) fun σ H Q ⟨ρ, M, Z, Q', r, e, h, c⟩ => by
    refine ⟨ρ, M, Z, fun k M1 => if k = true then wpE F eb ρ M1 (fun v M' => ∃ k, truS M' v = some k ∧ Q' k M') else Q' false M1, r, e, ?_, fun k H1 M1 Z1 x1 r1 q => ?_⟩
    · have h : wpE F ea ρ M fun x M1 => ∃ k, truS M1 x = some k ∧ if k = true then wpE F eb ρ M1 (fun v M' => ∃ k, truS M' v = some k ∧ Q' k M') else ∃ k, truS M1 x = some k ∧ Q' k M1 := h
      have e2 : (fun (x : PV) (M1 : Sto) => ∃ k, truS M1 x = some k ∧ if k = true then wpE F eb ρ M1 (fun v M' => ∃ k, truS M' v = some k ∧ Q' k M') else ∃ k, truS M1 x = some k ∧ Q' k M1) =
          fun v M' => ∃ k, truS M' v = some k ∧ if k = true then wpE F eb ρ M' (fun v M' => ∃ k, truS M' v = some k ∧ Q' k M') else Q' false M' := by
        funext x M1
        apply propext
        constructor
        · rintro ⟨k, h1, h2⟩
          refine ⟨k, h1, ?_⟩
          cases k with
          | true => exact h2
          | false =>
            rw [if_neg Bool.false_ne_true] at h2 ⊢
            obtain ⟨k2, h3, h4⟩ := h2
            rw [h1] at h3; cases h3
            exact h4
        · rintro ⟨k, h1, h2⟩
          refine ⟨k, h1, ?_⟩
          cases k with
          | true => exact h2
          | false =>
            rw [if_neg Bool.false_ne_true] at h2 ⊢
            exact ⟨false, h1, h2⟩
      rw [e2] at h
      exact h
    · cases k with
      | true =>
        rw [if_pos rfl] at q ⊢
        exact ⟨ρ, M1, Z1, Q', r1, e.mono r x1, q, fun k H2 M2 Z2 x2 r2 h2 => c k _ _ _ (x1.trans x2) r2 h2⟩
      | false =>
        rw [if_neg Bool.false_ne_true] at q ⊢
        exact c _ _ _ _ x1 r1 q
theorem pt_or' {a b : Expr} {rest : List Expr} {ea eb : E} {pos : Pos} (ha : PT X a (rdT (ctx X ga) F ea)) (hb : PW X (.BoolOp .Or (b :: rest) pos) (rdT (ctx X ga) F eb)) : PW X (.BoolOp .Or (a :: b :: rest) pos) (rdT (ctx X ga) F (.or ea eb)) :=
  PW.imp (pw_or ha hb) fun σ H Q ⟨ρ, M, Z, Q', r, e, h, c⟩ => by
    refine ⟨ρ, M, Z, fun k M1 => if k = true then Q' true M1 else wpE F eb ρ M1 (fun v M' => ∃ k, truS M' v = some k ∧ Q' k M'), r, e, ?_, fun k H1 M1 Z1 x1 r1 q => ?_⟩
    · have h : wpE F ea ρ M fun x M1 => ∃ k, truS M1 x = some k ∧ if k = true then ∃ k, truS M1 x = some k ∧ Q' k M1 else wpE F eb ρ M1 (fun v M' => ∃ k, truS M' v = some k ∧ Q' k M') := h
      have e2 : (fun (x : PV) (M1 : Sto) => ∃ k, truS M1 x = some k ∧ if k = true then ∃ k, truS M1 x = some k ∧ Q' k M1 else wpE F eb ρ M1 (fun v M' => ∃ k, truS M' v = some k ∧ Q' k M')) =
          fun v M' => ∃ k, truS M' v = some k ∧ if k = true then Q' true M' else wpE F eb ρ M' (fun v M' => ∃ k, truS M' v = some k ∧ Q' k M') := by
        funext x M1
        apply propext
        constructor
        · rintro ⟨k, h1, h2⟩
          refine ⟨k, h1, ?_⟩
          cases k with
          | false => exact h2
          | true =>
            rw [if_pos rfl] at h2 ⊢
            obtain ⟨k2, h3, h4⟩ := h2
            rw [h1] at h3; cases h3
            exact h4
        · rintro ⟨k, h1, h2⟩
          refine ⟨k, h1, ?_⟩
          cases k with
          | false => exact h2
          | true =>
            rw [if_pos rfl] at h2 ⊢
            exact ⟨true, h1, h2⟩
      rw [e2] at h
      exact h
    · cases k with
      | false =>
        rw [if_neg Bool.false_ne_true] at q ⊢
        exact ⟨ρ, M1, Z1, Q', r1, e.mono r x1, q, fun k H2 M2 Z2 x2 r2 h2 => c k _ _ _ (x1.trans x2) r2 h2⟩
      | true =>
        rw [if_pos rfl] at q ⊢
        exact c _ _ _ _ x1 r1 q
theorem ps_not {a : Expr} {ea : E} {pos : Pos} (ha : PE X a (rd (ctx X ga) F ea)) : PE X (.UnaryOp .Not a pos) (rd (ctx X ga) F (.not ea)) :=
  PE.imp (pe_notT ha) fun σ H Q ⟨ρ, M, Z, Q', r, e, h, c⟩ => ⟨ρ, M, Z, _, r, e, h, fun v x H1 M1 Z1 x1 r1 rv ⟨k, h1, q⟩ => ⟨k, tru_inv r1 rv h1, c _ _ _ _ _ x1 r1 (.bl _) q⟩⟩
theorem pt_not' {a : Expr} {ea : E} {pos : Pos} (ha : PT X a (rdT (ctx X ga) F ea)) : PT X (.UnaryOp .Not a pos) (rdT (ctx X ga) F (.not ea)) :=
  PT.imp (pt_not ha) fun σ H Q ⟨ρ, M, Z, Q', r, e, h, c⟩ => by
    refine ⟨ρ, M, Z, fun k M1 => Q' (!k) M1, r, e, ?_, fun k H1 M1 Z1 x1 r1 q => c _ _ _ _ x1 r1 q⟩
    have h : wpE F ea ρ M fun x M1 => ∃ k, truS M1 x = some k ∧ ∃ k2, truS M1 (.bl (!k)) = some k2 ∧ Q' k2 M1 := h
    have e2 : (fun (x : PV) (M1 : Sto) => ∃ k, truS M1 x = some k ∧ ∃ k2, truS M1 (.bl (!k)) = some k2 ∧ Q' k2 M1) = fun v M' => ∃ k, truS M' v = some k ∧ Q' (!k) M' := by
      funext x M1
      apply propext
      constructor
      · rintro ⟨k, h1, k2, h2, h3⟩
        cases h2
        exact ⟨k, h1, h3⟩
      · rintro ⟨k, h1, h2⟩
        exact ⟨k, h1, _, rfl, h2⟩
    rw [e2] at h
    exact h
theorem ps_ite {t a b : Expr} {et ea eb : E} {pos : Pos} (ht : PT X t (rdT (ctx X ga) F et)) (ha : PE X a (rd (ctx X ga) F ea)) (hb : PE X b (rd (ctx X ga) F eb)) : PE X (.IfExp t a b pos) (rd (ctx X ga) F (.ite et ea eb)) :=
  PE.imp (pe_ifExp ht ha hb) fun σ H Q ⟨ρ, M, Z, Q', r, e, h, c⟩ => by
    refine ⟨ρ, M, Z, _, r, e, h, fun k H1 M1 Z1 x1 r1 q => ?_⟩
    cases k with
    | true =>
      rw [if_pos rfl] at q ⊢
      exact ⟨ρ, M1, Z1, Q', r1, e.mono r x1, q, fun w y H2 M2 Z2 x2 r2 rw h2 => c _ _ _ _ _ (x1.trans x2) r2 rw h2⟩
    | false =>
      rw [if_neg Bool.false_ne_true] at q ⊢
      exact ⟨ρ, M1, Z1, Q', r1, e.mono r x1, q, fun w y H2 M2 Z2 x2 r2 rw h2 => c _ _ _ _ _ (x1.trans x2) r2 rw h2⟩
theorem pt_ite' {t a b : Expr} {et ea eb : E} {pos : Pos} (ht : PT X t (rdT (ctx X ga) F et)) (ha : PT X a (rdT (ctx X ga) F ea)) (hb : PT X b (rdT (ctx X ga) F eb)) : PT X (.IfExp t a b pos) (rdT (ctx X ga) F (.ite et ea eb)) := by
  refine ⟨fun pins s σ H Q I hq => ?_⟩
  obtain ⟨ρ, M, Z, Q', r, e, h, c⟩ := hq
  rw [arm_isTrue_IfExp]
  refine wpAny_bind (thn (ht.run pins s σ H (fun k H1 => if k = true then rdT (ctx X ga) F ea σ H1 Q else rdT (ctx X ga) F eb σ H1 Q) I ?_) fun k s1 ⟨H1, I1, q1⟩ => ?_)
  · refine ⟨ρ, M, Z, _, r, e, h, fun k H1 M1 Z1 x1 r1 q => ?_⟩
    cases k with
    | true =>
      rw [if_pos rfl] at q ⊢
      exact ⟨ρ, M1, Z1, Q', r1, e.mono r x1, q, fun k H2 M2 Z2 x2 r2 h2 => c k _ _ _ (x1.trans x2) r2 h2⟩
    | false =>
      rw [if_neg Bool.false_ne_true] at q ⊢
      exact ⟨ρ, M1, Z1, Q', r1, e.mono r x1, q, fun k H2 M2 Z2 x2 r2 h2 => c k _ _ _ (x1.trans x2) r2 h2⟩
  · cases k with
    | true => exact ha.run pins s1 σ H1 Q I1 q1
    | false => exact hb.run pins s1 σ H1 Q I1 q1

/-! ### argument lists, displays, subscripts -/
theorem ps_nil : PA X [] (rdL (ctx X ga) F []) := PA.imp pa_nil fun σ H Q ⟨ρ, M, Z, Q', r, e, h, c⟩ => c [] [] H M Z Ext.refl r .nil h
theorem ps_cons {a : Expr} {es : List Expr} {ea : E} {ees : List E} (ha : PE X a (rd (ctx X ga) F ea)) (hr : PA X es (rdL (ctx X ga) F ees)) (hs : starEach (a :: es) X.env = (false, eval a X.env) :: starEach es X.env) : PA X (a :: es) (rdL (ctx X ga) F (ea :: ees)) :=
  PA.imp (pa_cons ha hr hs) fun σ H Q ⟨ρ, M, Z, Q', r, e, h, c⟩ => by
    refine ⟨ρ, M, Z, _, r, e, h, fun v x H1 M1 Z1 x1 r1 rv h1 => ?_⟩
    exact ⟨ρ, M1, Z1, _, r1, e.mono r x1, h1, fun vs xs H2 M2 Z2 x2 r2 rvs h2 => c _ _ _ _ _ (x1.trans x2) r2 (.cons (rv.mono r1 x2) rvs) h2⟩
theorem ps_tup {es : List Expr} {ees : List E} {k : Nat} {pos : Pos} (h : PA X es (rdL (ctx X ga) F ees)) (hz : ees.length ≤ 1000) (hl : ∀ (ρ : Rho) (M : Sto) (Q : List PV → Sto → Prop), wpL F ees ρ M Q → wpL F ees ρ M fun vs M' => vs.length = ees.length ∧ Q vs M') : PE X (.Tuple es k pos) (rd (ctx X ga) F (.tup ees)) :=
  PE.imp (pe_tup h) fun σ H Q ⟨ρ, M, Z, Q', r, e, h, c⟩ => by
    refine ⟨ρ, M, Z, _, r, e, hl ρ M _ h, fun vs xs H1 M1 Z1 x1 r1 rvs ⟨hn, h1⟩ => ⟨?_, fun p hp => ?_⟩⟩
    · rw [← rvs.length, hn]; exact Nat.le_trans hz (by decide)
    · have c1 : Clo (ctx X ga) H1 M1 Z1 Q' Q := fun v x H2 M2 Z2 x2 r2 rv h2 => c _ _ _ _ _ (x1.trans x2) r2 rv h2
      exact c1.newT r1 rvs h1 hp
theorem ps_lst {es : List Expr} {ees : List E} {mt : Bool} {pos : Pos} (h : PA X es (rdL (ctx X ga) F ees)) (hz : ees.length ≤ 1000) (hl : ∀ (ρ : Rho) (M : Sto) (Q : List PV → Sto → Prop), wpL F ees ρ M Q → wpL F ees ρ M fun vs M' => vs.length = ees.length ∧ Q vs M') : PE X (.List es pos) (rd (ctx X ga) F (.lst mt ees)) :=
  PE.imp (pe_lst h) fun σ H Q ⟨ρ, M, Z, Q', r, e, h, c⟩ => by
    refine ⟨ρ, M, Z, _, r, e, hl ρ M _ h, fun vs xs H1 M1 Z1 x1 r1 rvs ⟨hn, h1⟩ => ⟨?_, fun p hp => ?_⟩⟩
    · rw [← rvs.length, hn]; exact Nat.le_trans hz (by decide)
    · have c1 : Clo (ctx X ga) H1 M1 Z1 Q' Q := fun v x H2 M2 Z2 x2 r2 rv h2 => c _ _ _ _ _ (x1.trans x2) r2 rv h2
      exact c1.newL r1 rvs h1 hp
theorem ps_ix {a b : Expr} {ea eb : E} {pos : Pos} (ha : PE X a (rd (ctx X ga) F ea)) (hb : PE X b (rd (ctx X ga) F eb)) (hs : PlainIx b) : PE X (.Subscript a b pos) (rd (ctx X ga) F (.ix ea eb)) :=
  PE.imp (pe_ix ix_ok ha hb hs) fun σ H Q ⟨ρ, M, Z, Q', r, e, h, c⟩ => rd_two r e h c
theorem ps_ono : PO X none (rdO (ctx X ga) F none) := PO.imp po_none fun σ H Q ⟨ρ, M, Z, Q', r, e, h, c⟩ => c none H M Z Ext.refl r h
theorem ps_oso {a : Expr} {ea : E} (ha : PE X a (rd (ctx X ga) F ea)) : PO X (some a) (rdO (ctx X ga) F (some ea)) :=
  PO.imp (po_some ha) fun σ H Q ⟨ρ, M, Z, Q', r, e, h, c⟩ => ⟨ρ, M, Z, _, r, e, h, fun v x H1 M1 Z1 x1 r1 rv ⟨i, h1, q⟩ => by
    subst h1
    obtain rfl := rv.int_inv
    exact ⟨i, rfl, c _ _ _ _ x1 r1 q⟩⟩
theorem ps_sl {a : Expr} {lo hi : Option Expr} {ea : E} {el eh : Option E} {p2 pos : Pos} (ha : PE X a (rd (ctx X ga) F ea)) (hl : PO X lo (rdO (ctx X ga) F el)) (hh : PO X hi (rdO (ctx X ga) F eh)) : PE X (.Subscript a (.Slice lo hi none p2) pos) (rd (ctx X ga) F (.sl ea el eh)) :=
  PE.imp (pe_slice sl_ok ha hl hh) fun σ H Q ⟨ρ, M, Z, Q', r, e, h, c⟩ => by
    refine ⟨ρ, M, Z, _, r, e, h, fun v x H1 M1 Z1 x1 r1 rv h1 => ?_⟩
    refine ⟨ρ, M1, Z1, _, r1, e.mono r x1, h1, fun i H2 M2 Z2 x2 r2 h2 => ?_⟩
    refine ⟨ρ, M2, Z2, _, r2, e.mono r (x1.trans x2), h2, fun j H3 M3 Z3 x3 r3 h3 => ?_⟩
    exact ⟨v, M3, Z3, Q', r3, rv.mono r1 (x2.trans x3), h3, fun z u H4 M4 Z4 x4 r4 rz h4 => c _ _ _ _ _ (((x1.trans x2).trans x3).trans x4) r4 rz h4⟩
/-! ### calls -/
theorem rd_call {es : List E} {g : List PV → Sto → Q1 → Prop} {σ : L2.St} {H : Hp} {Q : VK} {ρ : Rho} {M : Sto} {Z : Addr → Prop} {Q' : Q1} (r : SR (ctx X ga) H M Z) (e : EnvR (ctx X ga) H M Z ρ σ)
    (h : wpL F es ρ M fun vs M1 => g vs M1 Q') (c : Clo (ctx X ga) H M Z Q' Q) : tCB (rc (ctx X ga) g) (rdL (ctx X ga) F es) σ H Q :=
  ⟨ρ, M, Z, _, r, e, h, fun vs xs H1 M1 Z1 x1 r1 rvs h1 => ⟨vs, M1, Z1, Q', r1, rvs, h1, fun z u H2 M2 Z2 x2 r2 rz h2 => c _ _ _ _ _ (x1.trans x2) r2 rz h2⟩⟩
/-- f(e, ..), f a def of the text that stands in a global name -/
theorem pe_glob_call {r : List V → Hp → VK → Prop} {f : Addr} {x : Str} {p pos : Pos} {e : Expr} {es : List Expr} {t : TA} (hc : CallR X (.ref f) r) (hg : Gl X x) (hm : X.mg x = some (.ref f)) (hk : PySem.W.keepIn X.K (.ref f) = true) (ha : PA X (e :: es) t)
    (hdb : (x == ("__debug__" : Str)) = false) (he : starEach (e :: es) X.env = (false, eval e X.env) :: starEach es X.env) (hpl : (backTo pos (starEach es X.env)).any (·.1) = false) : PE X (.Call (.Name x p) (e :: es) [] pos) (tCB r t) := by
  refine ⟨fun pins s σ H Q I h => ?_⟩
  refine wpAny_Call_Name_kw (ld_glob I hg hm ?_ hdb)
  refine PySem.W.callWith_K (h₀ := X.base) I.ok.mod.kin hk (thn (ha.run pos pins s σ H _ I h) fun us s1 ⟨vs, H1, I1, rv, q⟩ => ⟨I1.kIn, ?_⟩) he hpl
  exact hc pins s1 σ H1 vs us Q I1 rv q
theorem ps_call {f : Str} {a : Addr} {p pos : Pos} {e : Expr} {es : List Expr} {ees : List E} (hc : CallR X (.ref a) (rc (ctx X ga) (F f))) (hg : Gl X f) (hm : X.mg f = some (.ref a)) (hk : PySem.W.keepIn X.K (.ref a) = true) (ha : PA X (e :: es) (rdL (ctx X ga) F ees))
    (hdb : (f == ("__debug__" : Str)) = false) (he : starEach (e :: es) X.env = (false, eval e X.env) :: starEach es X.env) (hpl : (backTo pos (starEach es X.env)).any (·.1) = false) : PE X (.Call (.Name f p) (e :: es) [] pos) (rd (ctx X ga) F (.call f ees)) :=
  PE.imp (pe_glob_call hc hg hm hk ha hdb he hpl) fun σ H Q ⟨ρ, M, Z, Q', r, e, h, c⟩ => rd_call r e h c
/-- f(e, ..), f a def that stands in a local name -/
theorem pe_loc_call {r : Addr → List V → Hp → VK → Prop} {x : Str} {i : Nat} {p pos : Pos} {e : Expr} {es : List Expr} {t : TA} (hN : X.N[i]? = some x) (hv : Vis X.env.scope x) (ha : PA X (e :: es) t)
    (hdb : (x == ("__debug__" : Str)) = false) (hcd : (x == ("__classdict__" : Str)) = false) (he : starEach (e :: es) X.env = (false, eval e X.env) :: starEach es X.env) (hpl : (backTo pos (starEach es X.env)).any (·.1) = false) :
    PE X (.Call (.Name x p) (e :: es) [] pos) (fun σ H Q => ∃ f, σ[i]? = some (some (.ref f)) ∧ PySem.W.keepIn X.K (.ref f) = true ∧ CallR X (.ref f) (r f) ∧ t σ H fun vs H1 => r f vs H1 Q) := by
  refine ⟨fun pins s σ H Q I ⟨f, hs, hk, hc, h⟩ => ?_⟩
  refine wpAny_Call_Name_kw (thn ((pe_var (pos := p) hN hv hdb hcd).run pins s σ H (fun v H1 => v = .ref f ∧ H1 = H) I ⟨.ref f, hs, rfl, rfl⟩) fun u s0 ⟨v, H0, I0, r0, e1, e2⟩ => ?_)
  subst e1 e2
  cases r0
  refine PySem.W.callWith_K (h₀ := X.base) I0.ok.mod.kin hk (thn (ha.run pos pins s0 σ H0 _ I0 h) fun us s1 ⟨vs, H1, I1, rv, q⟩ => ⟨I1.kIn, ?_⟩) he hpl
  exact hc pins s1 σ H1 vs us Q I1 rv q
abbrev blNm : Bl → Str
  | .len => "len"
  | .abs => "abs"
  | .max => "max"
  | .min => "min"
  | .sum => "sum"
  | .all => "all"
  | .any => "any"
  | .int => "int"
  | .str => "str"
  | .repr => "repr"
  | .tuple => "tuple"
  | .list => "list"
  | .listM => "list"
  | .sorted => "sorted"
  | .sortedM => "sorted"
theorem boot_bl (b : Bl) : bootBuiltins (blNm b) = some (blOf b) := by cases b <;> decide +kernel
theorem pe_blt {b : Bl} {r : List V → Hp → VK → Prop} {p pos : Pos} {e : Expr} {es : List Expr} {t : TA} (hc : CallR X (blOf b) r) (hg : Gl X (blNm b)) (hm : X.mg (blNm b) = none) (ha : PA X (e :: es) t)
    (he : starEach (e :: es) X.env = (false, eval e X.env) :: starEach es X.env) (hpl : (backTo pos (starEach es X.env)).any (·.1) = false) : PE X (.Call (.Name (blNm b) p) (e :: es) [] pos) (tCB r t) := by
  have hv := boot_bl b
  cases b with
  | int => exact pe_callTy hc hg hm hv ha (by decide) (by decide) he hpl
  | str => exact pe_callTy hc hg hm hv ha (by decide) (by decide) he hpl
  | tuple => exact pe_callTy hc hg hm hv ha (by decide) (by decide) he hpl
  | list => exact pe_callTy hc hg hm hv ha (by decide) (by decide) he hpl
  | listM => exact pe_callTy hc hg hm hv ha (by decide) (by decide) he hpl
  | _ => exact pe_callB hc hg hm hv ha (by decide) (by decide) he hpl
theorem ps_blt {b : Bl} {p pos : Pos} {e : Expr} {es : List Expr} {ees : List E} (hc : X.calm = true) (hu : X.A.units + 65 < cLine) (hgd : X.A.guards = some []) (hg : Gl X (blNm b)) (hm : X.mg (blNm b) = none) (ha : PA X (e :: es) (rdL (ctx X ga) F ees))
    (he : starEach (e :: es) X.env = (false, eval e X.env) :: starEach es X.env) (hpl : (backTo pos (starEach es X.env)).any (·.1) = false) : PE X (.Call (.Name (blNm b) p) (e :: es) [] pos) (rd (ctx X ga) F (.blt b ees)) :=
  PE.imp (pe_blt (blt_ok hc hu hgd b) hg hm ha he hpl) fun σ H Q ⟨ρ, M, Z, Q', r, e, h, c⟩ => rd_call r e h c
/-- isinstance(x, T) -/
theorem boot_ty (t : Ty) : bootBuiltins (Str.ofString (tyOf t)) = some (.type (tyOf t)) := by cases t <;> decide +kernel
theorem ps_isi {t : Ty} {p p2 pos : Pos} {e : Expr} {ee : E} (hg : Gl X "isinstance") (hm : X.mg "isinstance" = none) (hg2 : Gl X (Str.ofString (tyOf t))) (hm2 : X.mg (Str.ofString (tyOf t)) = none) (ha : PE X e (rd (ctx X ga) F ee))
    (he : starEach (e :: [.Name (Str.ofString (tyOf t)) p2]) X.env = (false, eval e X.env) :: starEach [.Name (Str.ofString (tyOf t)) p2] X.env) : PE X (.Call (.Name "isinstance" p) [e, .Name (Str.ofString (tyOf t)) p2] [] pos) (rd (ctx X ga) F (.isi ee t)) := by
  have ht : PE X (.Name (Str.ofString (tyOf t)) p2) (tC (.ty (tyOf t))) := by
    have hv := boot_ty t
    cases t <;> exact pe_bltn hg2 hm2 hv rfl (by decide) (by decide)
  refine PE.imp (pe_callB call_isi hg hm boot_isinstance (pa_cons ha (pa_cons ht pa_nil rfl) he) (by decide) (by decide) he rfl) fun σ H Q ⟨ρ, M, Z, Q', r, e, h, c⟩ => ?_
  refine ⟨ρ, M, Z, _, r, e, h, fun v x H1 M1 Z1 x1 r1 rv ⟨k, h1, q⟩ => ?_⟩
  obtain ⟨h2, h3⟩ := isi_inv r1 rv h1
  exact ⟨x, .ty (tyOf t), .type (tyx v), .type (tyOf t), k, rfl, .ty _, h2, kit_ty h3, c _ _ _ _ _ x1 r1 (.bl _) q⟩
/-- methods of lists -/
abbrev mtNm : Mt → Str
  | .append => "append"
  | .extend => "extend"
  | .insert => "insert"
  | .index => "index"
  | .count => "count"
  | .pop => "pop"
theorem slot_mt (m : Mt) : Slot "list" (mtNm m) (mtOf m) := by
  cases m with
  | append => exact PySem.F.slot_list_append
  | extend => exact PySem.F.slot_list_extend
  | insert => exact PySem.F.slot_list_insert
  | index => exact PySem.F.slot_list_index
  | count => exact PySem.F.slot_list_count
  | pop => exact PySem.F.slot_list_pop
theorem type_mt (m : Mt) : typeOf (.builtin (mtOf m)) = pure (.type "method_descriptor") := by
  cases m with
  | append => exact PySem.F.type_list_append
  | extend => exact PySem.F.type_list_extend
  | insert => exact PySem.F.type_list_insert
  | index => exact PySem.F.type_list_index
  | count => exact PySem.F.type_list_count
  | pop => exact PySem.F.type_list_pop
theorem ps_mth {m : Mt} {o e : Expr} {es : List Expr} {apos cpos : Pos} {eo : E} {ees : List E} (slot : Slot "list" (mtNm m) (mtOf m)) (hty : typeOf (.builtin (mtOf m)) = pure (.type "method_descriptor")) (ho : PE X o (rd (ctx X ga) F eo)) (ha : PA X (e :: es) (rdL (ctx X ga) F ees))
    (hbase : attributeBase o (mtNm m) X.env (eval o X.env) = eval o X.env)
    (hfew : ((backTo cpos (starEach (e :: es) X.env)).all (fun x => !x.1) && (backToKw cpos (keywordEach [] X.env)).all (fun x => x.1.isSome)
      && decide ((e :: es).length + ([] : List Keyword).length + (if ([] : List Keyword).isEmpty then 0 else 1) < 30)) = true)
    (hline : (apos.endLine == cpos.line) = true) (hs : starEach (e :: es) X.env = (false, eval e X.env) :: starEach es X.env) (hpl : (backTo cpos (starEach es X.env)).any (·.1) = false) :
    PE X (.Call (.Attribute o (mtNm m) apos) (e :: es) [] cpos) (rd (ctx X ga) F (.mth m eo ees)) :=
  PE.imp (pe_bm PySem.F.plainAttrs_list slot hty (mth_ok m) ho ha hbase hfew hline hs hpl) fun σ H Q ⟨ρ, M, Z, Q', r, e, h, c⟩ => by
    refine ⟨ρ, M, Z, _, r, e, h, fun v x H1 M1 Z1 x1 r1 rv ⟨⟨ys, hy⟩, h1⟩ => ?_⟩
    obtain ⟨p, ws, rfl, hq, _⟩ := rv.lo_inv r1 hy
    refine ⟨.inl ⟨rfl, ws, hq.sq⟩, ρ, M1, Z1, _, r1, e.mono r x1, h1, fun vs xs H2 M2 Z2 x2 r2 rvs h2 => ?_⟩
    exact ⟨v, vs, M2, Z2, Q', r2, rv.mono r1 x2, rvs, h2, fun z u H3 M3 Z3 x3 r3 rz h3 => c _ _ _ _ _ ((x1.trans x2).trans x3) r3 rz h3⟩

/-! ### what is walked -/
/-- the iterator J yields the items, as long as keep holds -/
def ItOk (C : Ctx) (J : L2.It) (items : List PV) (keep : Sto → Prop) (H1 : Hp) (M1 : Sto) (Z1 : Addr → Prop) : Prop :=
  ∀ i H M Z, Ext H1 M1 Z1 H M Z → SR C H M Z → keep M →
    (∀ v, items[i]? = some v → J.go i H ∧ ∀ x H', J.yld i H x H' → Ext H M Z H' M Z ∧ SR C H' M Z ∧ Rep C H' M Z v x) ∧ (items.length = i → J.stop i H)
def rdI (C : Ctx) (F : FS) (it : It) : TI := fun σ H R => ∃ ρ M Z Q', SR C H M Z ∧ EnvR C H M Z ρ σ ∧ wpI F it ρ M Q' ∧
  ∀ J H1 M1 Z1 items keep, Ext H M Z H1 M1 Z1 → SR C H1 M1 Z1 → ItOk C J items keep H1 M1 Z1 → keep M1 → Q' items keep M1 → R J H1
theorem PI.imp {tg iter : Expr} {t t' : TI} (h : PI X tg iter t) (i : ∀ σ H R, t' σ H R → t σ H R) : PI X tg iter t' := ⟨fun pins s σ H Q I q => h.run pins s σ H Q I (i σ H Q q)⟩
theorem itok_tup {C : Ctx} {a : Addr} {xs : List PV} {vs : List V} {keep : Sto → Prop} {H1 : Hp} {M1 : Sto} {Z1 : Addr → Prop} (r1 : SR C H1 M1 Z1) (h : SqT C.K H1 a vs) (l : RepL C H1 M1 Z1 xs vs) (inj : ∀ H us, SqT C.K H a vs → SqT C.K H a us → us.length = vs.length → True) :
    ItOk C (Itt C.K a) xs keep H1 M1 Z1 := by
  intro i H M Z x r _
  have h' := sqT_mono r1 x h
  have l' := RepL.mono r1 x l
  refine ⟨fun v hv => ?_, fun hi => ⟨vs, h', by rw [← l.length]; exact Nat.le_of_eq hi⟩⟩
  obtain ⟨u, hu, ru⟩ := l'.get hv
  refine ⟨⟨vs, u, h', hu⟩, fun y H' ⟨e1, e2⟩ => ?_⟩
  subst e1
  have e3 := e2 vs h'
  rw [hu] at e3
  cases e3
  exact ⟨Ext.refl, r, ru⟩
theorem LQ.mono {C : Ctx} {H H1 : Hp} {M M1 : Sto} {Z Z1 : Addr → Prop} {a : Addr} {vs : List V} {xs : List PV} (r : SR C H M Z) (x : Ext H M Z H1 M1 Z1) (h : Rep C H M Z (.lst xs) (.ref a)) (q : LQ C.K H a vs) (n : ∀ ws, LQ C.K H a ws → ws = vs) : LQ C.K H1 a vs := by
  cases h with
  | lz z h l => rw [← n _ (.inl h)]; exact .inl (x.unm _ _ h (r.frz _ z).1).1
  | lr h l =>
    rw [← n _ (.inr h)]
    rcases h with ⟨o, h⟩ | h
    · exact .inr (.inl ⟨o, (x.unm _ _ h (r.nofrz h)).1⟩)
    · exact .inr (.inr h)
/-- a told list keeps its items -/
theorem lst_keeps {C : Ctx} {H : Hp} {M : Sto} {Z : Addr → Prop} {x : V} {xs : List PV} (r : SR C H M Z) (h : Rep C H M Z (.lst xs) x) : ∃ a vs, x = .ref a ∧ RepL C H M Z xs vs ∧ ∀ H1 M1 Z1, Ext H M Z H1 M1 Z1 → LQ C.K H1 a vs := by
  cases h with
  | lz z h l => exact ⟨_, _, rfl, l, fun H1 M1 Z1 x => .inl (x.unm _ _ h (r.frz _ z).1).1⟩
  | lr h l =>
    refine ⟨_, _, rfl, l, fun H1 M1 Z1 x => ?_⟩
    rcases h with ⟨o, h⟩ | h
    · exact .inr (.inl ⟨o, (x.unm _ _ h (r.nofrz h)).1⟩)
    · exact .inr (.inr h)
theorem itok_lst {C : Ctx} {a : Addr} {xs : List PV} {vs : List V} {H1 : Hp} {M1 : Sto} {Z1 : Addr → Prop} (r1 : SR C H1 M1 Z1) (l : RepL C H1 M1 Z1 xs vs) (k : ∀ H M Z, Ext H1 M1 Z1 H M Z → LQ C.K H a vs) {keep : Sto → Prop} : ItOk C (Itl C.K a) xs keep H1 M1 Z1 := by
  intro i H M Z x r _
  have h' := (k H M Z x).sq
  have l' := RepL.mono r1 x l
  refine ⟨fun v hv => ?_, fun hi => ⟨vs, h', by rw [← l.length]; exact Nat.le_of_eq hi⟩⟩
  obtain ⟨u, hu, ru⟩ := l'.get hv
  refine ⟨⟨vs, u, h', hu⟩, fun y H' ⟨e1, e2⟩ => ?_⟩
  subst e1
  have e3 := e2 vs h'
  rw [hu] at e3
  cases e3
  exact ⟨Ext.refl, r, ru⟩
theorem itok_ref {C : Ctx} {a : Addr} {xs : List PV} {H1 : Hp} {M1 : Sto} {Z1 : Addr → Prop} : ItOk C (Itl C.K a) xs (fun M' => M' a = some (.lst xs)) H1 M1 Z1 := by
  intro i H M Z x r hk
  obtain ⟨o, hh, vs, rfl, l⟩ := r.sto a _ hk
  have h' : SqL C.K H a vs := .inl (.inl hh)
  refine ⟨fun v hv => ?_, fun hi => ⟨vs, h', by rw [← l.length]; exact Nat.le_of_eq hi⟩⟩
  obtain ⟨u, hu, ru⟩ := l.get hv
  refine ⟨⟨vs, u, h', hu⟩, fun y H' ⟨e1, e2⟩ => ?_⟩
  subst e1
  have e3 := e2 vs h'
  rw [hu] at e3
  cases e3
  exact ⟨Ext.refl, r, ru⟩
/-- a list or a tuple as it comes -/
theorem pi_any {tg l : Expr} {tl : TE} (hl : PE X l tl) : PI X tg l (fun σ H R => tl σ H fun x H1 => ∃ a, x = .ref a ∧ (((∃ xs, SqL X.K H1 a xs) ∧ R (Itl X.K a) H1) ∨ ((∃ xs, SqT X.K H1 a xs) ∧ R (Itt X.K a) H1))) := by
  refine ⟨fun pins s σ H R I h => ?_⟩
  refine thn (hl.run pins s σ H _ I h) fun v s1 ⟨x, H1, I1, r1, q1⟩ => ?_
  obtain ⟨a, rfl, q1⟩ := q1
  cases r1
  have fp : ∀ b ∈ [s1.heap.objs.size], FpOk X pins H1 b := fun b hb => by
    have e : b = s1.heap.objs.size := by simpa using hb
    subst e
    exact I1.fpOk (Nat.le_refl _) (I1.hok.fresh (Nat.le_refl _))
  rcases q1 with ⟨⟨xs, hq⟩, q⟩ | ⟨⟨xs, hq⟩, q⟩
  · obtain ⟨its, _, p, _⟩ := I1.list hq
    refine wpAny_pyIter_list p.isList ⟨s1.heap.objs.size, [s1.heap.objs.size], _, _, H1, rfl, ?_, turn_list a _, ?_, fp, q⟩
    · exact I1.kept (t' := s1.toks) fun b o e => Heap.get?_push_of_some _ e
    · exact ⟨_, Heap.get?_push_size _ rfl, rfl, rfl⟩
  · obtain ⟨its, _, p, _⟩ := I1.tuple hq
    refine wpAny_pyIter_tuple (show s1.heap.IsTuple a its.toArray from p) ⟨s1.heap.objs.size, [s1.heap.objs.size], _, _, H1, rfl, ?_, turn_tuple a _, ?_, fp, q⟩
    · exact I1.kept (t' := s1.toks) fun b o e => Heap.get?_push_of_some _ e
    · exact ⟨_, Heap.get?_push_size _ rfl, rfl, rfl⟩
theorem pi_val {tg l : Expr} {el : E} (hl : PE X l (rd (ctx X ga) F el)) : PI X tg l (rdI (ctx X ga) F (.val el)) :=
  PI.imp (pi_any hl) fun σ H R ⟨ρ, M, Z, Q', r, e, h, c⟩ => by
    refine ⟨ρ, M, Z, _, r, e, h, fun v x H1 M1 Z1 x1 r1 rv h1 => ?_⟩
    cases v with
    | tup xs =>
      obtain ⟨a, vs, rfl, hq, l⟩ := rv.tup_inv
      exact ⟨a, rfl, .inr ⟨⟨vs, hq⟩, c _ _ _ _ _ _ x1 r1 (itok_tup r1 hq l fun _ _ _ _ _ => trivial) trivial h1⟩⟩
    | lst xs =>
      obtain ⟨a, vs, rfl, l, k⟩ := lst_keeps r1 rv
      exact ⟨a, rfl, .inl ⟨⟨vs, (k _ _ _ Ext.refl).sq⟩, c _ _ _ _ _ _ x1 r1 (itok_lst r1 l k) trivial h1⟩⟩
    | ref a =>
      obtain ⟨xs, m, q⟩ := h1
      obtain ⟨rfl, _⟩ := rv.ref_inv
      obtain ⟨o, hh, vs, rfl, l⟩ := r1.sto a _ m
      exact ⟨a, rfl, .inl ⟨⟨vs, .inl (.inl hh)⟩, c _ _ _ _ _ _ x1 r1 itok_ref m q⟩⟩
    | _ => exact h1.elim
theorem rng_get {lo hi : Int} {i : Nat} {v : PV} (h : (rngL lo hi)[i]? = some v) : i < (hi - lo).toNat ∧ v = .int (lo + (i : Nat)) := by
  unfold rngL at h
  rw [List.getElem?_map] at h
  by_cases q : i < (hi - lo).toNat
  · rw [List.getElem?_range q] at h
    cases h
    exact ⟨q, rfl⟩
  · rw [List.getElem?_eq_none (by simpa using q)] at h
    cases h
theorem itok_rng {C : Ctx} {lo hi : Int} {keep : Sto → Prop} {H1 : Hp} {M1 : Sto} {Z1 : Addr → Prop} : ItOk C (Itr lo (hi - lo).toNat) (rngL lo hi) keep H1 M1 Z1 := by
  intro i H M Z x r hk
  refine ⟨fun v hv => ?_, fun hi => by unfold rngL at hi; rw [List.length_map, List.length_range] at hi; exact Nat.le_of_eq hi⟩
  obtain ⟨h1, h2⟩ := rng_get hv
  refine ⟨h1, fun y H' ⟨e1, e2⟩ => ?_⟩
  subst e1 e2 h2
  exact ⟨Ext.refl, r, .int _⟩
theorem pi_rng {tg a : Expr} {ea : E} {p pos : Pos} (hg : Gl X "range") (hm : X.mg "range" = none) (ha : PE X a (rd (ctx X ga) F ea)) (hs : starEach [a] X.env = [(false, eval a X.env)]) : PI X tg (.Call (.Name "range" p) [a] [] pos) (rdI (ctx X ga) F (.rng ea)) :=
  PI.imp (pi_range1 hg hm (pa_cons ha pa_nil hs) hs) fun σ H R ⟨ρ, M, Z, Q', r, e, h, c⟩ => by
    refine ⟨ρ, M, Z, _, r, e, h, fun v x H1 M1 Z1 x1 r1 rv ⟨j, h1, h2, h3, q⟩ => ?_⟩
    subst h1
    obtain rfl := rv.int_inv
    refine ⟨j, rfl, h2, h3, ?_⟩
    have e3 : Itr 0 j.toNat = Itr 0 (j - 0).toNat := by rw [Int.sub_zero]
    rw [e3]
    exact c _ _ _ _ _ _ x1 r1 itok_rng trivial q
theorem pi_rng2 {tg a b : Expr} {ea eb : E} {p pos : Pos} (hg : Gl X "range") (hm : X.mg "range" = none) (ha : PE X a (rd (ctx X ga) F ea)) (hb : PE X b (rd (ctx X ga) F eb)) (hs : starEach [a, b] X.env = [(false, eval a X.env), (false, eval b X.env)]) (hs2 : starEach [b] X.env = [(false, eval b X.env)]) :
    PI X tg (.Call (.Name "range" p) [a, b] [] pos) (rdI (ctx X ga) F (.rng2 ea eb)) :=
  PI.imp (pi_range2 hg hm (pa_cons ha (pa_cons hb pa_nil hs2) (by rw [hs, hs2])) hs hs2) fun σ H R ⟨ρ, M, Z, Q', r, e, h, c⟩ => by
    refine ⟨ρ, M, Z, _, r, e, h, fun v x H1 M1 Z1 x1 r1 rv h1 => ?_⟩
    refine ⟨ρ, M1, Z1, _, r1, e.mono r x1, h1, fun w y H2 M2 Z2 x2 r2 rw ⟨i, j, e1, e2, h2, h3, h4, h5, q⟩ => ?_⟩
    subst e1 e2
    obtain rfl := rv.int_inv
    obtain rfl := rw.int_inv
    exact ⟨i, j, rfl, ⟨h2, h3, h4, h5⟩, c _ _ _ _ _ _ (x1.trans x2) r2 itok_rng trivial q⟩
end
end SG
/-! tuples backwards; lists unpacked; zip of lists and tuples -/
namespace SG
open PySem PySem.Spec PyProof.Rows L2
section
variable {P : Program} {w : World} {A : Around} {E : Value → Shared → Prop} {s : Shared}
theorem range_pick {α : Type} (l : List α) : ∀ n, (List.range n).filterMap (fun k => l[k]?) = l.take n
  | 0 => by simp
  | n + 1 => by
    rw [List.range_succ, List.filterMap_append, range_pick l n, List.take_succ]
    cases h : l[n]? <;> simp [h]
theorem rev_pick (xs : Array Value) : ((List.range xs.size).filterMap fun (k : Nat) => xs[(((xs.size : Int) - 1) + (k : Int) * -1).toNat]?) = xs.toList.reverse := by
  have e : ((List.range xs.size).filterMap fun (k : Nat) => xs[(((xs.size : Int) - 1) + (k : Int) * -1).toNat]?) = (List.range xs.size).filterMap fun k => xs.toList.reverse[k]? := by
    have cg : ∀ {l : List Nat} {f g : Nat → Option Value}, (∀ x ∈ l, f x = g x) → l.filterMap f = l.filterMap g := by
      intro l f g
      induction l with
      | nil => intro _; rfl
      | cons x r ih =>
        intro h
        rw [List.filterMap_cons, List.filterMap_cons, h x List.mem_cons_self, ih fun y hy => h y (List.mem_cons_of_mem _ hy)]
    refine cg fun k hk => ?_
    have hk : k < xs.size := List.mem_range.mp hk
    have e1 : (((xs.size : Int) - 1) + (k : Int) * -1).toNat = xs.size - 1 - k := by omega
    rw [e1, List.getElem?_reverse (by simpa using hk)]
    simp
  rw [e, range_pick, List.take_of_length_le (by simp)]
theorem sliceApplied_rev {sl : Addr} {vl vu vs : Value} {n : Nat} {Q : Int × Int × Nat → Shared → Prop} (hs : s.heap.IsSliceOf sl vl vu vs) (pl : IsPart vl none) (pu : IsPart vu none) (ps : IsPart vs (some (-1)))
    (h : Q ((n : Int) - 1, -1, n) s) : wpAny (model P w) A (Builtin.Slice.sliceApplied (.ref sl) (pure (n : Int))) Q E s := by
  obtain ⟨os, hos, hcs, hds⟩ := id hs
  unfold Builtin.Slice.sliceApplied Builtin.Slice.sliceFields
  refine wpAny_bind (wpAny_bind (wpAny_field hos hds (x := vl) rfl (wpAny_bind (wpAny_field hos hds (x := vu) rfl (wpAny_bind (wpAny_field hos hds (x := vs) rfl (wpAny_pure ?_)))))))
  refine wpAny_bind (HT.slicePart_ ps ?_)
  show wpAny _ _ (if ((-1 : Int) == 0) = true then _ else _) _ _ s
  rw [if_neg (by decide)]
  refine wpAny_bind (HT.slicePart_ pl (wpAny_bind (HT.slicePart_ pu (wpAny_bind (wpAny_pure ?_)))))
  have e1 : Builtin.Slice.sliceAdjust none none (-1) (n : Int) = ((n : Int) - 1, -1) := rfl
  have e2 : Builtin.Slice.slicePlaces ((n : Int) - 1) (-1) (-1) = n := by
    unfold Builtin.Slice.slicePlaces
    rw [if_neg (by decide)]
    split
    · have : -(-1 : Int) = 1 := by decide
      rw [this, Int.ediv_one]
      omega
    · omega
  show wpAny _ _ (match Builtin.Slice.sliceAdjust none none (-1) (n : Int) with | (lo, hi) => pure (lo, (-1 : Int), Builtin.Slice.slicePlaces lo hi (-1))) _ _ s
  rw [e1]
  show wpAny _ _ (pure ((n : Int) - 1, (-1 : Int), Builtin.Slice.slicePlaces ((n : Int) - 1) (-1) (-1))) _ _ s
  rw [e2]
  exact wpAny_pure h
theorem getItem_tuple_rev {t sl : Addr} {items : Array Value} {vl vu vs : Value} {Q : Value → Shared → Prop} (ht : IsTup s.heap t items) (hs : s.heap.IsSliceOf sl vl vu vs) (pl : IsPart vl none) (pu : IsPart vu none) (ps : IsPart vs (some (-1)))
    (h : Q (.ref s.heap.objs.size) { s with heap := s.heap.push { cls := .type "tuple", data := .seq items.toList.reverse.toArray } }) (hsz : items.size ≤ sizeLine) : wpAny (model P w) A (getItem (.ref t) (.ref sl)) Q E s := by
  have htake : sizeOk (.seq items.toList.reverse.toArray) := by
    show items.toList.reverse.toArray.size ≤ sizeLine
    simpa using hsz
  obtain ⟨os, hos, hcs, hds⟩ := id hs
  have hTs : s.TypeIs (.ref sl) "slice" := ⟨os, hos, hcs⟩
  unfold getItem
  try with_reducible refine wpAny_holding ?_
  first | refine wpAny_bind (wpAny_pure ?_) | skip
  refine wpAny_bind (wpAny_sequenceKey ht.typeIs (by decide) ?_)
  refine wpAny_bind (wpAny_callSpecial?_slot (name := Str.ofString "__getitem__") ht.typeIs PyProof.Rows.slot_tuple_getitem (wpAny_call_entry PyProof.Rows.slot_tuple_getitem ht.typeIs entry_tuple_getitem ?_ (args_tuple_getitem _ _)))
  show wpAny _ _ (Builtin.Tuple.tupleItemsOf (.ref t) >>= _) _ _ s
  refine wpAny_bind (tupleItemsOf_ ht ?_)
  refine wpAny_bind (wpAny_typeOf hTs ?_)
  rw [if_pos (by decide)]
  refine wpAny_bind (sliceApplied_rev hs pl pu ps ?_)
  have hno : ¬ ((((items.size : Int) - 1) == 0 && (-1 : Int) == 1 && items.size == items.size) = true) := by
    intro q
    rw [Bool.and_eq_true, Bool.and_eq_true] at q
    exact absurd (eq_of_beq q.1.2) (by decide)
  show wpAny _ _ (if (((items.size : Int) - 1) == 0 && (-1 : Int) == 1 && items.size == items.size) = true then _ else _) _ _ s
  rw [if_neg hno, rev_pick]
  first
    | exact wpAny_bind (m := Builtin.Tuple.tupleExact _) (wpAny_newObj_type (wpAny_pure ⟨_, rfl, wpAny_pure h⟩) htake)
    | exact wpAny_bind (m := Builtin.Tuple.tupleExact _) (wpAny_newObj_type (wpAny_bind (wpAny_pure (wpAny_pure ⟨_, rfl, wpAny_pure h⟩))) htake)
    | exact wpAny_bind (wpAny_bind (m := Builtin.Tuple.tupleExact _) (wpAny_newObj_type (wpAny_pure (wpAny_pure ⟨_, rfl, wpAny_pure h⟩)) htake))
    | exact wpAny_bind (wpAny_bind (m := Builtin.Tuple.tupleExact _) (wpAny_newObj_type (wpAny_pure ⟨_, rfl, wpAny_pure h⟩) htake))
end
section
variable {X : Cx} {ga : Str → Option Addr} {F : FS}
/-- x[::-1], x a list or a tuple -/
def tRevA (K : PySem.W.Frag) (te : TE) : TE := fun σ H Q => te σ H fun x H1 => ∃ a xs, x = .ref a ∧ ((SqL K H1 a xs ∧ ∀ p, H1 p = none → Q (.ref p) (upd H1 p (.lst xs.reverse))) ∨ (SqT K H1 a xs ∧ ∀ p, H1 p = none → Q (.ref p) (upd H1 p (.tup xs.reverse))))
theorem pe_revA {e : Expr} {te : TE} {k : Nat} {p1 p2 p3 pos : Pos} (he : PE X e te) : PE X (.Subscript e (.Slice none none (some (.UnaryOp .USub (.Constant (.int 1) k p1) p2)) p3) pos) (tRevA X.K te) := by
  refine ⟨fun pins s σ H Q I h => ?_⟩
  refine Subscript_ (thn (he.run pins s σ H _ I h) fun v s1 ⟨x, H1, I1, r1, q1⟩ => ?_)
  obtain ⟨a, xs, rfl, q⟩ := q1
  cases r1
  have step : PO X (some (.UnaryOp .USub (.Constant (.int 1) k p1) p2)) (tPart (tUn (rU fun i => .int (-i)) (tC (.int 1)))) := po_some (pe_un un_neg pe_int)
  refine wpAny_Slice (thn (po_none.run pins s1 σ H1 (fun o G => o = none ∧ G = H1) I1 ⟨rfl, rfl⟩) fun vl s2 ⟨l, H2, I2, pl, el, e2⟩ => ?_)
  subst el
  subst e2
  refine thn (po_none.run pins s2 σ H2 (fun o G => o = none ∧ G = H2) I2 ⟨rfl, rfl⟩) fun vu s3 ⟨u, H3, I3, pu, eu, e3⟩ => ?_
  subst eu
  subst e3
  refine thn (step.run pins s3 σ H3 (fun o G => o = some (-1) ∧ G = H3) I3 ⟨1, rfl, -1, rfl, rfl, rfl⟩) fun vs s4 ⟨o, H4, I4, ps, eo, e4⟩ => ?_
  subst eo
  subst e4
  have I5 : L2.Inv X pins σ H4 { s4 with heap := s4.heap.push { cls := .type "slice", data := .fields #[vl, vu, vs] } } := I4.kept (t' := s4.toks) fun b ob z => Heap.get?_push_of_some _ z
  show wpAny (model X.prog X.w) X.A (subscriptTail e (.Slice none none (some (.UnaryOp .USub (.Constant (.int 1) k p1) p2)) p3) (.ref a) (.ref s4.heap.objs.size)) (EP X pins σ Q) X.xe { s4 with heap := s4.heap.push { cls := .type "slice", data := .fields #[vl, vu, vs] } }
  rcases q with ⟨hx, q⟩ | ⟨hx, q⟩
  · obtain ⟨its, r, ht, hz⟩ := I5.list hx
    have hlen := r.length
    refine tail_any (ops := [.ref a, .ref s4.heap.objs.size]) ht.isList.typeIs (PySem.slot_list_getitem.lookup) ?_ (by with_unfolding_all rfl)
    refine wpAny_getItem_list_slice ht.isList (Heap.IsSliceOf.new _ vl vu vs) pl pu ps (by decide) ?_ (by rw [List.size_toArray]; omega)
    rw [PySem.W.krv_pick]
    refine ⟨.ref _, _, I5.laid (t' := s4.toks) (o := .lst xs.reverse) (fun b ob z => Heap.get?_push_of_some _ z) (Nat.le_refl _) ?_, rfl, q _ (I5.hok.fresh (Nat.le_refl _))⟩
    exact ⟨by rw [List.length_reverse]; exact hz, _, 0, r.reverse, Heap.get?_push_size _ rfl⟩
  · obtain ⟨its, r, ht, hz⟩ := I5.tuple hx
    have hlen := r.length
    refine tail_any (ops := [.ref a, .ref s4.heap.objs.size]) ht.typeIs (PyProof.Rows.slot_tuple_getitem.lookup) ?_ (by with_unfolding_all rfl)
    refine getItem_tuple_rev ht (Heap.IsSliceOf.new _ vl vu vs) pl pu ps ?_ (by rw [List.size_toArray]; omega)
    refine ⟨.ref _, _, I5.laid (t' := s4.toks) (o := .tup xs.reverse) (fun b ob z => Heap.get?_push_of_some _ z) (Nat.le_refl _) ?_, rfl, q _ (I5.hok.fresh (Nat.le_refl _))⟩
    exact ⟨by rw [List.length_reverse]; exact hz, its.reverse, r.reverse, ⟨_, Heap.get?_push_size _ rfl, rfl, 0, by simp⟩⟩
end
end SG
namespace SG
open PySem PySem.Spec PyProof.Rows L2
section
variable {P : Program} {w : World} {A : Around} {E : Value → Shared → Prop} {s : Shared}
theorem draw_list {it l : Addr} {items : Array Value} (hne : l ≠ it) : ∀ (n i : Nat) (u : Shared) (Q : List Value → Shared → Prop), u.heap.IsListIter it l i → u.heap.IsList l items → i + n ≤ items.size →
    (∀ h', h'.IsListIter it l (i + n) → Heap.SameBut it u.heap h' → Q ((items.toList.drop i).take n) { u with heap := h' }) → wpAny (model P w) A (draw (.ref it) n) Q E u
  | 0, i, u, Q, hit, _, _, hQ => by
    show wpAny _ _ (pure []) Q E u
    exact wpAny_pure (by simpa using hQ u.heap hit (Heap.SameBut.refl ..))
  | n + 1, i, u, Q, hit, hl, hle, hQ => by
    have hlt : i < items.size := by omega
    show wpAny _ _ (pyNext (.ref it) >>= _) Q E u
    refine wpAny_bind (wpAny_pyNext_list_item hit hl (x := items[i]) (by simp [hlt]) fun h1 hit1 hs1 => ?_)
    refine wpAny_bind (wpAny_holding (draw_list hne n (i + 1) _ _ hit1 (hl.extBut hs1.extBut hne) (by omega) fun h2 hit2 hs2 => wpAny_pure ?_))
    have cut : items.toList.drop i = items[i] :: items.toList.drop (i + 1) := by simp [List.drop_eq_getElem_cons, hlt]
    have q := hQ h2 (by rw [show i + (n + 1) = i + 1 + n by omega]; exact hit2) (hs1.trans hs2)
    rw [cut, List.take_succ_cons] at q
    exact q
theorem unpackItems_list {l : Addr} {items : Array Value} {Q : List Value → Shared → Prop} (hh : A.handled = none) (hl : s.heap.IsList l items)
    (hQ : ∀ h', Heap.ExtBut s.heap.objs.size s.heap h' → Q items.toList { s with heap := h' }) : wpAny (model P w) A (unpackItems (.ref l) items.size none) Q E s := by
  have hne : l ≠ s.heap.objs.size := by
    obtain ⟨o, ho, _⟩ := hl
    exact Nat.ne_of_lt (Heap.lt_size ho)
  unfold unpackItems
  refine wpAny_bind ?_
  · unfold notIterableAtAll
    refine wpAny_bind (wpAny_specialOf hl.typeIs PySem.slot_list_iter.lookup ?_)
    refine wpAny_pure ?_
    simp only [Bool.false_eq_true, if_false]
    refine wpAny_bind (wpAny_holding (wpAny_pyIter_list hl ?_))
    refine wpAny_bind (wpAny_holding (draw_list hne items.size 0 _ _ ⟨_, Heap.get?_push_size _ rfl, rfl, rfl⟩ (hl.push _) (by omega) fun h1 hit1 hs1 => ?_))
    have all : List.take items.size (List.drop 0 items.toList) = items.toList := by
      rw [List.drop_zero]
      exact List.take_of_length_le (by simp)
    rw [all]
    rw [if_neg (by simp)]
    have hl1 : h1.IsList l items := (hl.push _).extBut hs1.extBut hne
    refine wpAny_bind (wpAny_holding (wpAny_pyNext_list_end hh hit1 hl1 (by simp) fun h2 he2 => ?_))
    simp only [Option.isSome_none, Bool.false_eq_true, if_false]
    refine wpAny_pure (hQ h2 fun b o hb e => he2 b o hb (hs1.extBut b o hb (Heap.get?_push_of_some _ e)))
theorem assign_Tuple_list {env : Env} {elts : List Expr} {k} {pos : Pos} {l : Addr} {items : Array Value} {Q : Unit → Shared → Prop} (hh : A.handled = none) (hl : s.heap.IsList l items)
    (hn : (assignEach elts env).length = items.size) (hst : (assignEach elts env).findIdx? (·.1) = none)
    (h : ∀ h', Heap.ExtBut s.heap.objs.size s.heap h' → wpAny (model P w) A (assignInOrder ((assignEach elts env).map (·.2)) items.toList) Q E { s with heap := h' }) :
    wpAny (model P w) A (assign (.Tuple elts k pos) env (.ref l)) Q E s := by
  rw [assign_Tuple]
  refine wpAny_bind (wpAny_standAt ?_)
  unfold unpack
  rw [hn, hst]
  exact wpAny_bind (wpAny_holding (unpackItems_list hh hl h))
end
section
variable {X : Cx}
def gSq (K : PySem.W.Frag) (n : Nat) (t : TGs) : TG := fun v σ H Q => ∃ a xs, v = .ref a ∧ (SqT K H a xs ∨ SqL K H a xs) ∧ xs.length = n ∧ t xs σ H Q
theorem pg_seq {es : List Expr} {k : Nat} {pos : Pos} {t : TGs} {n : Nat} (hc : X.calm = true) (h : PGs X es t) (hn : (assignEach es X.env).length = n) (hst : (assignEach es X.env).findIdx? (·.1) = none) : PG X (.Tuple es k pos) (gSq X.K n t) := by
  refine ⟨fun pins s σ H v u Q I r hw => ?_⟩
  obtain ⟨a, xs, rfl, hq | hq, hl, hw⟩ := hw
  · exact (pg_tup hc h hn hst).run pins s σ H _ u Q I r ⟨a, xs, rfl, hq, hl, hw⟩
  · cases r
    obtain ⟨its, rv, pl, hz⟩ := I.list hq
    refine assign_Tuple_list (I.ok.hd hc) pl.isList (by simp [hn, ← hl, rv.length]) hst fun h' hx => ?_
    have I1 : L2.Inv X pins σ H { s with heap := h' } := I.kept (t' := s.toks) fun b o e => hx b o (Nat.ne_of_lt (Heap.lt_size e)) e
    exact h.run pins _ σ H xs _ Q I1 (by simpa using rv) hw
end
/-! ### zip of lists and tuples -/
def SqB (b : Bool) (K : PySem.W.Frag) (H : Hp) (a : Addr) (xs : List V) : Prop := match b with
  | true => SqT K H a xs
  | false => SqL K H a xs
def ItB (b : Bool) (h : Heap) (it a : Addr) (i : Nat) : Prop := match b with
  | true => h.IsTupleIter it a i
  | false => h.IsListIter it a i
def AtB (b : Bool) (h : Heap) (a : Addr) (items : Array Value) : Prop := match b with
  | true => h.IsTuple a items
  | false => h.IsList a items
def itO (b : Bool) (a : Addr) : Obj := match b with
  | true => { cls := .type "tuple_iterator", data := .fields #[.ref a, .int 0 0] }
  | false => { cls := .type "list_iterator", data := .fields #[.ref a, .int 0 0] }
theorem drawsB {P : Program} {w : World} {A : Around} (b : Bool) (hh : A.handled = none) (it a : Addr) (hne : a ≠ it) (items : Array Value) : Draws P w A it [it, a] items.size (fun i v => items[i]? = some v) (fun i h => ItB b h it a i ∧ AtB b h a items) := by
  cases b with
  | true => exact Draws.tuple hh it a hne items
  | false => exact Draws.list hh it a hne items
theorem beginsB (b : Bool) (a : Addr) (items : Array Value) : Begins (.ref a) (itO b a) fun h => AtB b h a items := by
  cases b with
  | true => exact begins_tuple a items
  | false => exact begins_list a items
theorem ItB.at {b : Bool} {h h' : Heap} {it a : Addr} {i : Nat} (x : ItB b h it a i) (k : ∀ o, h.get? it = some o → h'.get? it = some o) : ItB b h' it a i := by
  cases b with
  | true => exact Heap.IsTupleIter.at x k
  | false => exact Heap.IsListIter.at x k
theorem ItB.obj {b : Bool} {h : Heap} {it a : Addr} {i : Nat} (x : ItB b h it a i) : ∃ o, h.get? it = some o ∧ ∀ v, o.data ≠ .cell v := by
  cases b with
  | true =>
    obtain ⟨o, e, _, d⟩ := x
    exact ⟨o, e, fun v t => by rw [d] at t; cases t⟩
  | false =>
    obtain ⟨o, e, _, d⟩ := x
    exact ⟨o, e, fun v t => by rw [d] at t; cases t⟩
theorem itB_new {b : Bool} {h : Heap} {it a : Addr} (e : h.get? it = some (itO b a)) : ItB b h it a 0 := by
  cases b with
  | true => exact ⟨_, e, rfl, rfl⟩
  | false => exact ⟨_, e, rfl, rfl⟩
theorem invB {X : Cx} {pins : List (Addr × Obj)} {σ : L2.St} {H : Hp} {s : Shared} {b : Bool} {a : Addr} {xs : List V} (I : L2.Inv X pins σ H s) (h : SqB b X.K H a xs) : ∃ its : List Value, Vals xs its ∧ AtB b s.heap a its.toArray ∧ a < s.heap.objs.size := by
  cases b with
  | true =>
    obtain ⟨its, r, p, _⟩ := I.tuple h
    obtain ⟨o, ho, _⟩ := id p
    exact ⟨its, r, p, Heap.lt_size ho⟩
  | false =>
    obtain ⟨its, r, p, _⟩ := I.list h
    exact ⟨its, r, p.isList, p.lt⟩
theorem injB {X : Cx} {pins : List (Addr × Obj)} {σ : L2.St} {H : Hp} {s : Shared} {b : Bool} {a : Addr} {xs ys : List V} (I : L2.Inv X pins σ H s) (h : SqB b X.K H a xs) (h' : SqB b X.K H a ys) : xs = ys := by
  cases b with
  | true => exact I.tuple_inj h h'
  | false => exact I.list_inj h h'
end SG
/-! zip of three tuples, enumerate of a tuple -/
namespace SG
open PySem PySem.Spec PyProof.Rows L2
/-- the tuples at a, b, c, the items in new tuples -/
def ItzQ (b1 b2 b3 : Bool) (K : PySem.W.Frag) (a b c : Addr) : L2.It :=
  ⟨fun i H => ∃ (xs ys zs : List V) (x y z : V), SqB b1 K H a xs ∧ SqB b2 K H b ys ∧ SqB b3 K H c zs ∧ xs[i]? = some x ∧ ys[i]? = some y ∧ zs[i]? = some z,
    fun i H v H' => ∃ T x y z, v = .ref T ∧ H T = none ∧ H' = upd H T (.tup [x, y, z]) ∧ (∀ xs, SqB b1 K H a xs → xs[i]? = some x) ∧ (∀ ys, SqB b2 K H b ys → ys[i]? = some y) ∧ ∀ zs, SqB b3 K H c zs → zs[i]? = some z,
    fun i H => ∃ xs ys zs : List V, SqB b1 K H a xs ∧ SqB b2 K H b ys ∧ SqB b3 K H c zs ∧ i ≤ xs.length ∧ i ≤ ys.length ∧ i ≤ zs.length ∧ (i = xs.length ∨ i = ys.length ∨ i = zs.length)⟩
theorem turn_zipQ {b1 b2 b3 : Bool} {P : Program} {w : World} {K : PySem.W.Frag} {elts : List Expr} {kk : Nat} {tpos : Pos} {a b c N : Addr} (ha : a < N) (hb : b < N) (hc0 : c < N) :
    Turn P w K (.Tuple elts kk tpos) (ItzQ b1 b2 b3 K a b c) [N + 5, N + 3, N + 4, N, N + 1, N + 2] (N + 5) (fun i h => IsZip h (N + 5) (N + 3) (N + 4) .none ∧ IsTupOf3 h (N + 3) (.ref N) (.ref (N + 1)) (.ref (N + 2)) ∧ (∃ x y z, IsTupOf3 h (N + 4) x y z) ∧ ItB b1 h N a i ∧ ItB b2 h (N + 1) b i ∧ ItB b3 h (N + 2) c i) where
  mem := by simp
  obj := fun i h st q hq => by
    obtain ⟨hz, hTI, ⟨x, y, z, hTO⟩, h1, h2, h3⟩ := st
    have hq' : q = N + 5 ∨ q = N + 3 ∨ q = N + 4 ∨ q = N ∨ q = N + 1 ∨ q = N + 2 := by simpa using hq
    rcases hq' with r | r | r | r | r | r
    · rw [r]; exact ⟨_, hz, fun v t => nomatch t⟩
    · rw [r]; exact ⟨_, hTI, fun v t => nomatch t⟩
    · rw [r]; exact ⟨_, hTO, fun v t => nomatch t⟩
    · rw [r]; exact h1.obj
    · rw [r]; exact h2.obj
    · rw [r]; exact h3.obj
  keep := fun i h h' st k => by
    obtain ⟨hz, hTI, ⟨x, y, z, hTO⟩, h1, h2, h3⟩ := st
    exact ⟨k _ (by simp) _ hz, k _ (by simp) _ hTI, ⟨x, y, z, k _ (by simp) _ hTO⟩, h1.at fun o q => k _ (by simp) o q, h2.at fun o q => k _ (by simp) o q, h3.at fun o q => k _ (by simp) o q⟩
  item := by
    intro X hP hw hK hc i pins s σ H E I hf st hg
    subst hP hw hK
    obtain ⟨hz, hTI, ⟨x0, y0, z0, hTO⟩, h1, h2, h3⟩ := st
    obtain ⟨xs, ys, zs, x, y, z, qx, qy, qz, gx, gy, gz⟩ := hg
    obtain ⟨i1, v1, p1, _⟩ := invB I qx
    obtain ⟨i2, v2, p2, _⟩ := invB I qy
    obtain ⟨i3, v3, p3, _⟩ := invB I qz
    obtain ⟨u1, hu1, r1⟩ := v1.get gx
    obtain ⟨u2, hu2, r2⟩ := v2.get gy
    obtain ⟨u3, hu3, r3⟩ := v3.get gz
    have lt1 : i < i1.toArray.size := by simpa using (List.getElem?_eq_some_iff.mp hu1).1
    have lt2 : i < i2.toArray.size := by simpa using (List.getElem?_eq_some_iff.mp hu2).1
    have lt3 : i < i3.toArray.size := by simpa using (List.getElem?_eq_some_iff.mp hu3).1
    have hh : X.A.in1.handled = none := I.ok.hd hc
    have hzl : N + 5 < s.heap.objs.size := Heap.lt_size hz
    refine wpAny_pyNext_zipD3_item (zip_sep3 (N := N) (fp1 := [a]) (fp2 := [b]) (fp3 := [c]) (by simpa using ha) (by simpa using hb) (by simpa using hc0)) (drawsB b1 hh N a (Nat.ne_of_lt ha) i1.toArray) (drawsB b2 hh (N + 1) b (Nat.ne_of_lt (Nat.lt_succ_of_lt hb)) i2.toArray) (drawsB b3 hh (N + 2) c (Nat.ne_of_lt (Nat.lt_succ_of_lt (Nat.lt_succ_of_lt hc0))) i3.toArray) hz hTI hTO ⟨h1, p1⟩ ⟨h2, p2⟩ ⟨h3, p3⟩ lt1 lt2 lt3 fun w1 w2 w3 h' tk g1 g2 g3 z' TO' s1 s2 s3 hT hsz hk => ?_
    have e1 : w1 = u1 := by
      have g1' : i1[i]? = some w1 := by simpa using g1
      rw [hu1] at g1'; exact (Option.some.inj g1').symm
    have e2 : w2 = u2 := by
      have g1' : i2[i]? = some w2 := by simpa using g2
      rw [hu2] at g1'; exact (Option.some.inj g1').symm
    have e3 : w3 = u3 := by
      have g1' : i3[i]? = some w3 := by simpa using g3
      rw [hu3] at g1'; exact (Option.some.inj g1').symm
    subst e1
    subst e2
    subst e3
    refine ⟨_, rfl, wpAny_letOwnedTupleGo_zip (s := { s with heap := h', toks := tk }) z' fun h'' z'' sb => ?_⟩
    have hT2 : h''.get? s.heap.objs.size = some { cls := .type "tuple", data := .seq #[w1, w2, w3] } := (sb.2 _ (Nat.ne_of_gt hzl)).trans hT
    have new : ObjOk X.prog X.w (upd H s.heap.objs.size (.tup [x, y, z])) h'' s.heap.objs.size (.tup [x, y, z]) :=
      ⟨by show 3 ≤ sizeLine; decide, [w1, w2, w3], .cons r1 (.cons r2 (.cons r3 .nil)), ⟨_, hT2, rfl, _, rfl⟩⟩
    have I1 : L2.Inv X pins σ (upd H s.heap.objs.size (.tup [x, y, z])) { s with heap := h'', toks := tk } :=
      I.turnedNew (t' := tk) (ch := [N + 5, N + 3, N + 4, N, N + 1, N + 2]) (fun q o hb q' => (sb.2 q (fun t => hb (by simp [t]))).trans (hk q o (fun t => hb (by simp [t])) (fun t => hb (by simp [t])) (fun t => hb (by simp [t])) (fun t => hb (by simp [t])) (fun t => hb (by simp [t])) q')) hf (Nat.le_refl _) new
    refine ⟨.ref s.heap.objs.size, _, I1, rfl, ⟨_, x, y, z, rfl, I.hok.fresh (Nat.le_refl _), rfl, fun l hl => by rw [injB I hl qx]; exact gx, fun l hl => by rw [injB I hl qy]; exact gy, fun l hl => by rw [injB I hl qz]; exact gz⟩, ⟨z'', ?_, ⟨w1, w2, w3, ?_⟩, ?_, ?_, ?_⟩, fun q hq => ?_⟩
    · exact (sb.2 _ (by simp)).trans (hk _ _ (by simp) (by simp) (by simp) (by simp) (by simp) hTI)
    · exact (sb.2 _ (by simp)).trans TO'
    · exact s1.1.at fun o q => (sb.2 _ (by simp)).trans q
    · exact s2.1.at fun o q => (sb.2 _ (by simp)).trans q
    · exact s3.1.at fun o q => (sb.2 _ (by simp)).trans q
    · have hlt : q < s.heap.objs.size := by
        have hq' : q = N + 5 ∨ q = N + 3 ∨ q = N + 4 ∨ q = N ∨ q = N + 1 ∨ q = N + 2 := by simpa using hq
        rcases hq' with r | r | r | r | r | r
        · rw [r]; exact hzl
        · rw [r]; exact Heap.lt_size hTI
        · rw [r]; exact Heap.lt_size hTO
        · rw [r]; obtain ⟨_, e1, _⟩ := h1.obj; exact Heap.lt_size e1
        · rw [r]; obtain ⟨_, e1, _⟩ := h2.obj; exact Heap.lt_size e1
        · rw [r]; obtain ⟨_, e1, _⟩ := h3.obj; exact Heap.lt_size e1
      rw [upd_ne (Nat.ne_of_lt hlt)]
      exact (hf q hq).1
  done := by
    intro X hP hw hK hc i pins s σ H E I hf st hg
    subst hP hw hK
    obtain ⟨hz, hTI, ⟨x0, y0, z0, hTO⟩, h1, h2, h3⟩ := st
    obtain ⟨xs, ys, zs, qx, qy, qz, l1, l2, l3, hend⟩ := hg
    obtain ⟨i1, v1, p1, _⟩ := invB I qx
    obtain ⟨i2, v2, p2, _⟩ := invB I qy
    obtain ⟨i3, v3, p3, _⟩ := invB I qz
    have m1 := v1.length
    have m2 := v2.length
    have m3 := v3.length
    have hh : X.A.in1.handled = none := I.ok.hd hc
    refine wpAny_pyNext_zipD3_end (zip_sep3 (N := N) (fp1 := [a]) (fp2 := [b]) (fp3 := [c]) (by simpa using ha) (by simpa using hb) (by simpa using hc0)) (drawsB b1 hh N a (Nat.ne_of_lt ha) i1.toArray) (drawsB b2 hh (N + 1) b (Nat.ne_of_lt (Nat.lt_succ_of_lt hb)) i2.toArray) (drawsB b3 hh (N + 2) c (Nat.ne_of_lt (Nat.lt_succ_of_lt (Nat.lt_succ_of_lt hc0))) i3.toArray) hz hTI hTO ⟨h1, p1⟩ ⟨h2, p2⟩ ⟨h3, p3⟩ (by simp; omega) (by simp; omega) (by simp; omega) (by simp; omega) fun h' tk hk => ?_
    exact ⟨rfl, I.turnedL (t' := tk) (ch := [N + 5, N + 3, N + 4, N, N + 1, N + 2]) (fun q o hb q' => hk q o (fun t => hb (by simp [t])) (fun t => hb (by simp [t])) (fun t => hb (by simp [t])) (fun t => hb (by simp [t])) (fun t => hb (by simp [t])) q') hf⟩
  self := fun A i s Q E st h => wpAny_pyIter_zip st.1 h
def iZipQ (K : PySem.W.Frag) (ta : TA) : TI := fun σ H R => ta σ H fun vs H1 => ∃ b1 b2 b3 a b c xs ys zs, vs = [.ref a, .ref b, .ref c] ∧ SqB b1 K H1 a xs ∧ SqB b2 K H1 b ys ∧ SqB b3 K H1 c zs ∧ R (ItzQ b1 b2 b3 K a b c) H1
theorem pi_zipQ {X : Cx} {e e2 e3 : Expr} {ta : TA} {p pos tpos : Pos} {elts : List Expr} {kk : Nat} (hg : Gl X "zip") (hm : X.mg "zip" = none) (ha : PA X [e, e2, e3] ta)
    (hs : starEach [e, e2, e3] X.env = (false, eval e X.env) :: starEach [e2, e3] X.env) (hpl : (backTo pos (starEach [e2, e3] X.env)).any (·.1) = false) :
    PI X (.Tuple elts kk tpos) (.Call (.Name "zip" p) [e, e2, e3] [] pos) (iZipQ X.K ta) := by
  refine ⟨fun pins s σ H R I h => ?_⟩
  refine Call_ (ld_blt I hg hm PyProof.Rows.boot_zip (PyProof.Rows.callWith_type1 (thn (ha.run pos pins s σ H _ I h) fun us s1 ⟨vs, H1, I1, r1, q1⟩ => ?_) hs hpl))
  obtain ⟨b1, b2, b3, a, b, c, xs, ys, zs, rfl, qx, qy, qz, q⟩ := q1
  cases r1 with
  | cons r rr =>
    cases rr with
    | cons r' rr =>
      cases rr with
      | cons r'' rr =>
        cases rr
        cases r
        cases r'
        cases r''
        obtain ⟨i1, v1, p1, l1⟩ := invB I1 qx
        obtain ⟨i2, v2, p2, l2⟩ := invB I1 qy
        obtain ⟨i3, v3, p3, l3⟩ := invB I1 qz
        refine zip_begins3 (beginsB b1 a i1.toArray) (beginsB b2 b i2.toArray) (beginsB b3 c i3.toArray) p1 p2 p3 fun h' hz hTI hTO g1 g2 g3 hsz hk => wpAny_pyIter_zip hz ?_
        have I2 : L2.Inv X pins σ H1 { s1 with heap := h' } := I1.kept (t' := s1.toks) hk
        refine ⟨s1.heap.objs.size + 5, [s1.heap.objs.size + 5, s1.heap.objs.size + 3, s1.heap.objs.size + 4, s1.heap.objs.size, s1.heap.objs.size + 1, s1.heap.objs.size + 2], _, _, H1, rfl, I2, turn_zipQ l1 l2 l3, ⟨hz, hTI, ⟨_, _, _, hTO⟩, itB_new g1, itB_new g2, itB_new g3⟩, fun d hd => ?_, q⟩
        have hle : s1.heap.objs.size ≤ d := by
          have hd' : d = s1.heap.objs.size + 5 ∨ d = s1.heap.objs.size + 3 ∨ d = s1.heap.objs.size + 4 ∨ d = s1.heap.objs.size ∨ d = s1.heap.objs.size + 1 ∨ d = s1.heap.objs.size + 2 := by simpa using hd
          rcases hd' with z | z | z | z | z | z <;> rw [z] <;> first | exact Nat.le_refl _ | exact Nat.le_add_right _ _
        exact I1.fpOk hle (I1.hok.fresh hle)
/-! ### two -/
def ItzP (b1 b2 : Bool) (K : PySem.W.Frag) (a b : Addr) : L2.It :=
  ⟨fun i H => ∃ (xs ys : List V) (x y : V), SqB b1 K H a xs ∧ SqB b2 K H b ys ∧ xs[i]? = some x ∧ ys[i]? = some y,
    fun i H v H' => ∃ T x y, v = .ref T ∧ H T = none ∧ H' = upd H T (.tup [x, y]) ∧ (∀ xs, SqB b1 K H a xs → xs[i]? = some x) ∧ ∀ ys, SqB b2 K H b ys → ys[i]? = some y,
    fun i H => ∃ xs ys : List V, SqB b1 K H a xs ∧ SqB b2 K H b ys ∧ i ≤ xs.length ∧ i ≤ ys.length ∧ (i = xs.length ∨ i = ys.length)⟩
theorem turn_zipP {b1 b2 : Bool} {P : Program} {w : World} {K : PySem.W.Frag} {elts : List Expr} {kk : Nat} {tpos : Pos} {a b N : Addr} (ha : a < N) (hb : b < N) :
    Turn P w K (.Tuple elts kk tpos) (ItzP b1 b2 K a b) [N + 4, N + 2, N + 3, N, N + 1] (N + 4) (fun i h => IsZip h (N + 4) (N + 2) (N + 3) .none ∧ IsTupOf2 h (N + 2) (.ref N) (.ref (N + 1)) ∧ (∃ x y, IsTupOf2 h (N + 3) x y) ∧ ItB b1 h N a i ∧ ItB b2 h (N + 1) b i) where
  mem := by simp
  obj := fun i h st q hq => by
    obtain ⟨hz, hTI, ⟨x, y, hTO⟩, h1, h2⟩ := st
    have hq' : q = N + 4 ∨ q = N + 2 ∨ q = N + 3 ∨ q = N ∨ q = N + 1 := by simpa using hq
    rcases hq' with r | r | r | r | r
    · rw [r]; exact ⟨_, hz, fun v t => nomatch t⟩
    · rw [r]; exact ⟨_, hTI, fun v t => nomatch t⟩
    · rw [r]; exact ⟨_, hTO, fun v t => nomatch t⟩
    · rw [r]; exact h1.obj
    · rw [r]; exact h2.obj
  keep := fun i h h' st k => by
    obtain ⟨hz, hTI, ⟨x, y, hTO⟩, h1, h2⟩ := st
    exact ⟨k _ (by simp) _ hz, k _ (by simp) _ hTI, ⟨x, y, k _ (by simp) _ hTO⟩, h1.at fun o q => k _ (by simp) o q, h2.at fun o q => k _ (by simp) o q⟩
  item := by
    intro X hP hw hK hc i pins s σ H E I hf st hg
    subst hP hw hK
    obtain ⟨hz, hTI, ⟨x0, y0, hTO⟩, h1, h2⟩ := st
    obtain ⟨xs, ys, x, y, qx, qy, gx, gy⟩ := hg
    obtain ⟨i1, v1, p1, _⟩ := invB I qx
    obtain ⟨i2, v2, p2, _⟩ := invB I qy
    obtain ⟨u1, hu1, r1⟩ := v1.get gx
    obtain ⟨u2, hu2, r2⟩ := v2.get gy
    have lt1 : i < i1.toArray.size := by simpa using (List.getElem?_eq_some_iff.mp hu1).1
    have lt2 : i < i2.toArray.size := by simpa using (List.getElem?_eq_some_iff.mp hu2).1
    have hh : X.A.in1.handled = none := I.ok.hd hc
    have hzl : N + 4 < s.heap.objs.size := Heap.lt_size hz
    refine wpAny_pyNext_zipD2_item (zip_sep2 (N := N) (fp1 := [a]) (fp2 := [b]) (by simpa using ha) (by simpa using hb)) (drawsB b1 hh N a (Nat.ne_of_lt ha) i1.toArray) (drawsB b2 hh (N + 1) b (Nat.ne_of_lt (Nat.lt_succ_of_lt hb)) i2.toArray) hz hTI hTO ⟨h1, p1⟩ ⟨h2, p2⟩ lt1 lt2 fun w1 w2 h' tk g1 g2 z' TO' s1 s2 hT hsz hk => ?_
    have e1 : w1 = u1 := by
      have g1' : i1[i]? = some w1 := by simpa using g1
      rw [hu1] at g1'; exact (Option.some.inj g1').symm
    have e2 : w2 = u2 := by
      have g1' : i2[i]? = some w2 := by simpa using g2
      rw [hu2] at g1'; exact (Option.some.inj g1').symm
    subst e1
    subst e2
    refine ⟨_, rfl, wpAny_letOwnedTupleGo_zip (s := { s with heap := h', toks := tk }) z' fun h'' z'' sb => ?_⟩
    have hT2 : h''.get? s.heap.objs.size = some { cls := .type "tuple", data := .seq #[w1, w2] } := (sb.2 _ (Nat.ne_of_gt hzl)).trans hT
    have new : ObjOk X.prog X.w (upd H s.heap.objs.size (.tup [x, y])) h'' s.heap.objs.size (.tup [x, y]) :=
      ⟨show 2 ≤ sizeLine by decide, [w1, w2], .cons r1 (.cons r2 .nil), ⟨_, hT2, rfl, _, rfl⟩⟩
    have I1 : L2.Inv X pins σ (upd H s.heap.objs.size (.tup [x, y])) { s with heap := h'', toks := tk } :=
      I.turnedNew (t' := tk) (ch := [N + 4, N + 2, N + 3, N, N + 1]) (fun q o hb q' => (sb.2 q (fun t => hb (by simp [t]))).trans (hk q o (fun t => hb (by simp [t])) (fun t => hb (by simp [t])) (fun t => hb (by simp [t])) (fun t => hb (by simp [t])) q')) hf (Nat.le_refl _) new
    refine ⟨.ref s.heap.objs.size, _, I1, rfl, ⟨_, x, y, rfl, I.hok.fresh (Nat.le_refl _), rfl, fun l hl => by rw [injB I hl qx]; exact gx, fun l hl => by rw [injB I hl qy]; exact gy⟩, ⟨z'', ?_, ⟨w1, w2, ?_⟩, ?_, ?_⟩, fun q hq => ?_⟩
    · exact (sb.2 _ (by simp)).trans (hk _ _ (by simp) (by simp) (by simp) (by simp) hTI)
    · exact (sb.2 _ (by simp)).trans TO'
    · exact s1.1.at fun o q => (sb.2 _ (by simp)).trans q
    · exact s2.1.at fun o q => (sb.2 _ (by simp)).trans q
    · have hlt : q < s.heap.objs.size := by
        have hq' : q = N + 4 ∨ q = N + 2 ∨ q = N + 3 ∨ q = N ∨ q = N + 1 := by simpa using hq
        rcases hq' with r | r | r | r | r
        · rw [r]; exact hzl
        · rw [r]; exact Heap.lt_size hTI
        · rw [r]; exact Heap.lt_size hTO
        · rw [r]; obtain ⟨_, e1, _⟩ := h1.obj; exact Heap.lt_size e1
        · rw [r]; obtain ⟨_, e1, _⟩ := h2.obj; exact Heap.lt_size e1
      rw [upd_ne (Nat.ne_of_lt hlt)]
      exact (hf q hq).1
  done := by
    intro X hP hw hK hc i pins s σ H E I hf st hg
    subst hP hw hK
    obtain ⟨hz, hTI, ⟨x0, y0, hTO⟩, h1, h2⟩ := st
    obtain ⟨xs, ys, qx, qy, l1, l2, hend⟩ := hg
    obtain ⟨i1, v1, p1, _⟩ := invB I qx
    obtain ⟨i2, v2, p2, _⟩ := invB I qy
    have m1 := v1.length
    have m2 := v2.length
    have hh : X.A.in1.handled = none := I.ok.hd hc
    refine wpAny_pyNext_zipD2_end (zip_sep2 (N := N) (fp1 := [a]) (fp2 := [b]) (by simpa using ha) (by simpa using hb)) (drawsB b1 hh N a (Nat.ne_of_lt ha) i1.toArray) (drawsB b2 hh (N + 1) b (Nat.ne_of_lt (Nat.lt_succ_of_lt hb)) i2.toArray) hz hTI hTO ⟨h1, p1⟩ ⟨h2, p2⟩ (by simp; omega) (by simp; omega) (by simp; omega) fun h' tk hk => ?_
    exact ⟨rfl, I.turnedL (t' := tk) (ch := [N + 4, N + 2, N + 3, N, N + 1]) (fun q o hb q' => hk q o (fun t => hb (by simp [t])) (fun t => hb (by simp [t])) (fun t => hb (by simp [t])) (fun t => hb (by simp [t])) q') hf⟩
  self := fun A i s Q E st h => wpAny_pyIter_zip st.1 h
def iZipP (K : PySem.W.Frag) (ta : TA) : TI := fun σ H R => ta σ H fun vs H1 => ∃ b1 b2 a b xs ys, vs = [.ref a, .ref b] ∧ SqB b1 K H1 a xs ∧ SqB b2 K H1 b ys ∧ R (ItzP b1 b2 K a b) H1
theorem pi_zipP {X : Cx} {e e2 : Expr} {ta : TA} {p pos tpos : Pos} {elts : List Expr} {kk : Nat} (hg : Gl X "zip") (hm : X.mg "zip" = none) (ha : PA X [e, e2] ta)
    (hs : starEach [e, e2] X.env = (false, eval e X.env) :: starEach [e2] X.env) (hpl : (backTo pos (starEach [e2] X.env)).any (·.1) = false) :
    PI X (.Tuple elts kk tpos) (.Call (.Name "zip" p) [e, e2] [] pos) (iZipP X.K ta) := by
  refine ⟨fun pins s σ H R I h => ?_⟩
  refine Call_ (ld_blt I hg hm PyProof.Rows.boot_zip (PyProof.Rows.callWith_type1 (thn (ha.run pos pins s σ H _ I h) fun us s1 ⟨vs, H1, I1, r1, q1⟩ => ?_) hs hpl))
  obtain ⟨b1, b2, a, b, xs, ys, rfl, qx, qy, q⟩ := q1
  cases r1 with
  | cons r rr =>
    cases rr with
    | cons r' rr =>
      cases rr
      cases r
      cases r'
      obtain ⟨i1, v1, p1, l1⟩ := invB I1 qx
      obtain ⟨i2, v2, p2, l2⟩ := invB I1 qy
      refine zip_begins2 (beginsB b1 a i1.toArray) (beginsB b2 b i2.toArray) p1 p2 fun h' hz hTI hTO g1 g2 hsz hk => wpAny_pyIter_zip hz ?_
      have I2 : L2.Inv X pins σ H1 { s1 with heap := h' } := I1.kept (t' := s1.toks) hk
      refine ⟨s1.heap.objs.size + 4, [s1.heap.objs.size + 4, s1.heap.objs.size + 2, s1.heap.objs.size + 3, s1.heap.objs.size, s1.heap.objs.size + 1], _, _, H1, rfl, I2, turn_zipP l1 l2, ⟨hz, hTI, ⟨_, _, hTO⟩, itB_new g1, itB_new g2⟩, fun d hd => ?_, q⟩
      have hle : s1.heap.objs.size ≤ d := by
        have hd' : d = s1.heap.objs.size + 4 ∨ d = s1.heap.objs.size + 2 ∨ d = s1.heap.objs.size + 3 ∨ d = s1.heap.objs.size ∨ d = s1.heap.objs.size + 1 := by simpa using hd
        rcases hd' with z | z | z | z | z <;> rw [z] <;> first | exact Nat.le_refl _ | exact Nat.le_add_right _ _
      exact I1.fpOk hle (I1.hok.fresh hle)
/-! ### enumerate of a tuple -/
def IteT (K : PySem.W.Frag) (a : Addr) : L2.It :=
  ⟨fun i H => ∃ (xs : List V) (x : V), SqT K H a xs ∧ xs[i]? = some x, fun i H v H' => ∃ T x, v = .ref T ∧ H T = none ∧ H' = upd H T (.tup [.int (i : Nat), x]) ∧ ∀ xs, SqT K H a xs → xs[i]? = some x, fun i H => ∃ xs : List V, SqT K H a xs ∧ i = xs.length⟩
theorem turn_enumT {P : Program} {w : World} {K : PySem.W.Frag} {elts : List Expr} {kk : Nat} {tpos : Pos} {a N : Addr} (ha : a < N) :
    Turn P w K (.Tuple elts kk tpos) (IteT K a) [N + 1, N] (N + 1) (fun i h => (∃ old, IsEnum h (N + 1) N ((i : Nat) : Int) old) ∧ h.IsTupleIter N a i) where
  mem := by simp
  obj := fun i h st b hb => by
    obtain ⟨⟨old, he⟩, ⟨o, ho, hc, hd⟩⟩ := st
    have e' : b = N + 1 ∨ b = N := by simpa using hb
    rcases e' with z | z
    · rw [z]; exact ⟨_, he, fun v q => nomatch q⟩
    · rw [z]; exact ⟨o, ho, fun v q => by rw [hd] at q; cases q⟩
  keep := fun i h h' st k => let ⟨⟨old, he⟩, hi⟩ := st; ⟨⟨old, k _ (by simp) _ he⟩, hi.at fun o q => k _ (by simp) o q⟩
  item := by
    intro X hP hw hK hc i pins s σ H E I hf st hg
    subst hP hw hK
    obtain ⟨⟨old, he⟩, hit⟩ := st
    obtain ⟨xs, x, qx, gx⟩ := hg
    obtain ⟨i1, v1, p1, _⟩ := I.tuple qx
    obtain ⟨u, hu, ru⟩ := v1.get gx
    have lt1 : i < i1.toArray.size := by simpa using (List.getElem?_eq_some_iff.mp hu).1
    have hh : X.A.in1.handled = none := I.ok.hd hc
    have hel : N + 1 < s.heap.objs.size := Heap.lt_size he
    refine wpAny_pyNext_enum_itemC (Draws.tuple hh N a (Nat.ne_of_lt ha) i1.toArray) he ⟨hit, p1⟩ lt1 (Nat.succ_ne_self _) (by
      simp only [List.mem_cons, List.not_mem_nil, or_false, not_or]
      exact ⟨Nat.succ_ne_self _, Nat.ne_of_gt (Nat.lt_succ_of_lt ha)⟩) fun w1 h' tk g1 ho s1 hT hsz hk => ?_
    have e1 : w1 = u := by
      have g1' : i1[i]? = some w1 := by simpa using g1
      rw [hu] at g1'; exact (Option.some.inj g1').symm
    subst e1
    refine ⟨_, rfl, wpAny_letOwnedTupleGo_enum (s := { s with heap := h', toks := tk + 1 }) ho fun h'' he' sb => ?_⟩
    have hT2 : h''.get? s.heap.objs.size = some { cls := .type "tuple", data := .seq #[.int i tk, w1] } := (sb.2 _ (Nat.ne_of_gt hel)).trans hT
    have new : ObjOk X.prog X.w (upd H s.heap.objs.size (.tup [.int (i : Nat), x])) h'' s.heap.objs.size (.tup [.int (i : Nat), x]) :=
      ⟨by show 2 ≤ sizeLine; decide, [.int i tk, w1], .cons ⟨_, rfl⟩ (.cons ru .nil), ⟨_, hT2, rfl, _, rfl⟩⟩
    have I1 : L2.Inv X pins σ (upd H s.heap.objs.size (.tup [.int (i : Nat), x])) { s with heap := h'', toks := tk + 1 } :=
      I.turnedNew (ch := [N + 1, N]) (fun b ob hb q => (sb.2 b (fun z => hb (by simp [z]))).trans (hk b ob (fun z => hb (by simp [z])) (fun z => hb (by simp [z])) q)) hf (Nat.le_refl _) new
    refine ⟨.ref s.heap.objs.size, _, I1, rfl, ⟨_, x, rfl, I.hok.fresh (Nat.le_refl _), rfl, fun l hl => by rw [I.tuple_inj hl qx]; exact gx⟩, ⟨⟨w1, ?_⟩, s1.1.at fun o q => (sb.2 _ (Nat.ne_of_lt (Nat.lt_succ_self _))).trans q⟩, fun b hb => ?_⟩
    · have e1 : ((i + 1 : Nat) : Int) = (i : Int) + 1 := by omega
      rw [e1]; exact he'
    · have hb' : b < s.heap.objs.size := by
        have e' : b = N + 1 ∨ b = N := by simpa using hb
        rcases e' with z | z
        · rw [z]; exact hel
        · rw [z]; exact Nat.lt_of_succ_lt hel
      rw [upd_ne (Nat.ne_of_lt hb')]
      exact (hf b hb).1
  done := by
    intro X hP hw hK hc i pins s σ H E I hf st hg
    subst hP hw hK
    obtain ⟨⟨old, he⟩, hit⟩ := st
    obtain ⟨xs, qx, hx⟩ := hg
    obtain ⟨i1, v1, p1, _⟩ := I.tuple qx
    have hl := v1.length
    obtain ⟨f0, f1, f2, f3, f4, f5⟩ := hf N (by simp)
    have hh : X.A.in1.handled = none := I.ok.hd hc
    have en : i = i1.toArray.size := by simp; omega
    refine wpAny_pyNext_enum_endD (Draws.tuple hh N a (Nat.ne_of_lt ha) i1.toArray) he ⟨by rw [← en]; exact hit, p1⟩ fun h' eb => ⟨rfl, I.turned (t' := s.toks) (fun b o hb q => eb b o hb q) f0 f1 f3 f4 f5⟩
  self := fun A i s Q E st h => let ⟨⟨_, he⟩, _⟩ := st; wpAny_pyIter_enum he h
theorem meets_enum1 {v : Value} {o : Obj} {H : Heap → Prop} (B : Begins v o H) :
    Meets (Builtin.«enumerate.__new__» ⟨[.type "enumerate", v], []⟩) (fun _ R s => H s.heap ∧
      R (.ok (.ret (.ref (s.heap.push o).objs.size))) { s with heap := (s.heap.push o).push { cls := .type "enumerate", data := .fields #[.none, .bool false, .ref s.heap.objs.size, rawInt 0, .none, .none] } }) :=
  .of_wp fun prog w A R s h => by
    obtain ⟨hp, g, d, tk, os⟩ := s
    obtain ⟨h1, h⟩ := h
    have subE := sub_enumerate
    have q1 : ∀ {A' : Around} {E : Value → Shared → Prop} {Q : Value → Shared → Prop}, Q (.ref hp.objs.size) ⟨hp.push o, g, d, tk, os⟩ → wpAny (model prog w) A' (pyIter v) Q E ⟨hp, g, d, tk, os⟩ :=
      fun q => B.iter prog w _ _ ⟨hp, g, d, tk, os⟩ _ h1 q
    wp_walk using q1
    refine wpAny_stack_any fun st => wpAny_pure ?_
    split
    · rename_i c _ _ _ _ _
      cases (c == Value.type "enumerate")
      · wp_walk using q1
        exact ⟨_, rfl, h⟩
      · wp_walk using q1
        exact ⟨_, rfl, h⟩
    · wp_walk using q1
      exact ⟨_, rfl, h⟩
theorem call_enumT {P : Program} {w : World} {A : Around} {E : Value → Shared → Prop} {s : Shared} {v : Value} {o : Obj} {H : Heap → Prop} {Q : Value → Shared → Prop} (B : Begins v o H) (h1 : H s.heap)
    (h : ∀ h', IsEnum h' (s.heap.objs.size + 1) s.heap.objs.size 0 .none → h'.get? s.heap.objs.size = some o → (∀ b o, s.heap.get? b = some o → h'.get? b = some o) → Q (.ref (s.heap.objs.size + 1)) { s with heap := h' }) :
    wpAny (model P w) A (call (.type "enumerate") [v]) Q E s := by
  refine callType_new F.called_enumerate (by decide) (F.typeCall_enumerate_1 _) (F.newCall_enumerate_1 _) (fun obj => F.args_object_init_2 obj _) F.entry_enumerate_new (meets_enum1 B) ⟨h1, ?_⟩
  have hz : (s.heap.push o).objs.size = s.heap.objs.size + 1 := Heap.size_push ..
  show _ ∧ _
  rw [hz]
  have he : IsEnum ((s.heap.push o).push { cls := .type "enumerate", data := .fields #[.none, .bool false, .ref s.heap.objs.size, rawInt 0, .none, .none] }) (s.heap.objs.size + 1) s.heap.objs.size 0 .none := by
    have q := Heap.get?_push_size (s.heap.push o) (o := { cls := .type "enumerate", data := .fields #[.none, .bool false, .ref s.heap.objs.size, rawInt 0, .none, .none] }) rfl
    rw [hz] at q
    exact q
  exact ⟨⟨_, he, rfl⟩, h _ he (Heap.get?_push_of_some _ (Heap.get?_push_size _ B.free)) fun b o x => Heap.get?_push_of_some _ (Heap.get?_push_of_some _ x)⟩
/-- enumerate of a list or of a tuple -/
def iEnumA (K : PySem.W.Frag) (ta : TA) : TI := fun σ H R => ta σ H fun vs H1 => ∃ a xs, vs = [.ref a] ∧ ((SqL K H1 a xs ∧ R (Ite K a) H1) ∨ (SqT K H1 a xs ∧ R (IteT K a) H1))
theorem pi_enumA {X : Cx} {e : Expr} {ta : TA} {p pos tpos : Pos} {elts : List Expr} {kk : Nat} (hg : Gl X "enumerate") (hm : X.mg "enumerate" = none) (ha : PA X [e] ta) (hs : starEach [e] X.env = [(false, eval e X.env)]) :
    PI X (.Tuple elts kk tpos) (.Call (.Name "enumerate" p) [e] [] pos) (iEnumA X.K ta) := by
  refine ⟨fun pins s σ H R I h => ?_⟩
  refine Call_ (ld_blt I hg hm boot_enumerate (PyProof.Rows.callWith_type1 (thn (ha.run pos pins s σ H _ I h) fun us s1 ⟨vs, H1, I1, r1, q1⟩ => ?_) hs rfl))
  obtain ⟨a, xs, rfl, q1⟩ := q1
  cases r1 with
  | cons r rr =>
    cases rr
    cases r
    have two : ∀ b, b ∈ [s1.heap.objs.size + 1, s1.heap.objs.size] → FpOk X pins H1 b := fun b hb => by
      have e' : b = s1.heap.objs.size + 1 ∨ b = s1.heap.objs.size := by simpa using hb
      have hle : s1.heap.objs.size ≤ b := by rcases e' with z | z <;> rw [z] <;> first | exact Nat.le_refl _ | exact Nat.le_add_right _ _
      exact I1.fpOk hle (I1.hok.fresh hle)
    rcases q1 with ⟨hq, q⟩ | ⟨hq, q⟩
    · obtain ⟨its, rv, pl, hz⟩ := I1.list hq
      refine call_enumerate_list pl.isList fun h' he hit hsz hk => wpAny_pyIter_enum he ?_
      exact ⟨s1.heap.objs.size + 1, [s1.heap.objs.size + 1, s1.heap.objs.size], _, _, H1, rfl, I1.kept (t' := s1.toks) hk, turn_enum a (s1.heap.objs.size + 1) s1.heap.objs.size, ⟨⟨.none, he⟩, hit, Nat.succ_ne_self _⟩, two, q⟩
    · obtain ⟨its, rv, pt, hz⟩ := I1.tuple hq
      have l1 : a < s1.heap.objs.size := let ⟨_, e, _⟩ := pt; Heap.lt_size e
      refine call_enumT (begins_tuple a its.toArray) pt fun h' he hit hk => wpAny_pyIter_enum he ?_
      exact ⟨s1.heap.objs.size + 1, [s1.heap.objs.size + 1, s1.heap.objs.size], _, _, H1, rfl, I1.kept (t' := s1.toks) hk, turn_enumT l1, ⟨⟨.none, he⟩, ⟨_, hit, rfl, rfl⟩⟩, two, q⟩
end SG
namespace SG
open PySem PySem.Spec PyProof.Rows L2
section
variable {X : Cx} {ga : Str → Option Addr} {F : FS}

/-! ### zip, enumerate -/
theorem zipL_get : ∀ {xs ys : List PV} {i : Nat} {v : PV}, (zipL xs ys)[i]? = some v → ∃ x y, xs[i]? = some x ∧ ys[i]? = some y ∧ v = .tup [x, y]
  | x :: r, y :: t, 0, v, h => by
    have e : PV.tup [x, y] = v := by unfold zipL at h; simpa using h
    exact ⟨x, y, rfl, rfl, e.symm⟩
  | x :: r, y :: t, i + 1, v, h => by
    unfold zipL at h
    rw [List.getElem?_cons_succ] at h
    obtain ⟨a, b, h1, h2, h3⟩ := zipL_get h
    exact ⟨a, b, by simpa using h1, by simpa using h2, h3⟩
  | [], _, _, _, h => by unfold zipL at h; simp at h
  | _ :: _, [], _, _, h => by unfold zipL at h; simp at h
theorem zipL_len : ∀ {xs ys : List PV} {i : Nat}, (zipL xs ys).length ≤ i → xs.length ≤ i ∨ ys.length ≤ i
  | x :: r, y :: t, i, h => by
    unfold zipL at h
    rw [List.length_cons] at h
    rcases zipL_len (xs := r) (ys := t) (i := i - 1) (by omega) with q | q
    · left; rw [List.length_cons]; omega
    · right; rw [List.length_cons]; omega
  | [], _, _, _ => .inl (Nat.zero_le _)
  | _ :: _, [], _, _ => .inr (Nat.zero_le _)
theorem pair_rep {C : Ctx} {H : Hp} {M : Sto} {Z : Addr → Prop} {vs : List PV} {us : List V} {T : Addr} (r : SR C H M Z) (h : H T = none) (l : RepL C H M Z vs us) : Ext H M Z (upd H T (.tup us)) M Z ∧ SR C (upd H T (.tup us)) M Z ∧ Rep C (upd H T (.tup us)) M Z (.tup vs) (.ref T) :=
  ⟨Ext.new h, r.new h, .tup (.inl (.inl upd_same)) (RepL.mono r (Ext.new h) l)⟩
theorem src_keeps {C : Ctx} {H : Hp} {M : Sto} {Z : Addr → Prop} {v : PV} {x : V} {xs : List PV} (r : SR C H M Z) (h : Rep C H M Z v x) (e : srcS v = some xs) :
    ∃ b a us, x = .ref a ∧ RepL C H M Z xs us ∧ ∀ H' M' Z', Ext H M Z H' M' Z' → SqB b C.K H' a us := by
  cases v with
  | tup ys =>
    cases e
    obtain ⟨a, us, rfl, q, l⟩ := h.tup_inv
    exact ⟨true, a, us, rfl, l, fun H' M' Z' y => sqT_mono r y q⟩
  | lst ys =>
    cases e
    obtain ⟨a, us, rfl, l, k⟩ := lst_keeps r h
    exact ⟨false, a, us, rfl, l, fun H' M' Z' y => (k H' M' Z' y).sq⟩
  | _ => cases e
theorem zipL_len2 : ∀ {xs ys : List PV}, (zipL xs ys).length ≤ xs.length ∧ (zipL xs ys).length ≤ ys.length ∧ ((zipL xs ys).length = xs.length ∨ (zipL xs ys).length = ys.length)
  | x :: r, y :: t => by
    unfold zipL
    obtain ⟨a, b, c⟩ := zipL_len2 (xs := r) (ys := t)
    simp only [List.length_cons]
    omega
  | [], _ => by unfold zipL; simp
  | _ :: _, [] => by unfold zipL; simp
theorem itok_zipP {C : Ctx} {b1 b2 : Bool} {a b : Addr} {xs ys : List PV} {us ws : List V} {keep : Sto → Prop} {H1 : Hp} {M1 : Sto} {Z1 : Addr → Prop} (r1 : SR C H1 M1 Z1) (ka : ∀ H M Z, Ext H1 M1 Z1 H M Z → SqB b1 C.K H a us) (kb : ∀ H M Z, Ext H1 M1 Z1 H M Z → SqB b2 C.K H b ws) (la : RepL C H1 M1 Z1 xs us) (lb : RepL C H1 M1 Z1 ys ws) :
    ItOk C (ItzP b1 b2 C.K a b) (zipL xs ys) keep H1 M1 Z1 := by
  intro i H M Z x r _
  have ha' := ka H M Z x
  have hb' := kb H M Z x
  refine ⟨fun v hv => ?_, fun hi => ?_⟩
  · obtain ⟨p, q, h1, h2, rfl⟩ := zipL_get hv
    obtain ⟨u, hu, ru⟩ := (RepL.mono r1 x la).get h1
    obtain ⟨w, hw, rw'⟩ := (RepL.mono r1 x lb).get h2
    refine ⟨⟨us, ws, u, w, ha', hb', hu, hw⟩, fun y H' ⟨T, y1, y2, e1, e2, e3, f1, f2⟩ => ?_⟩
    have g1 := f1 us ha'
    have g2 := f2 ws hb'
    rw [hu] at g1; cases g1
    rw [hw] at g2; cases g2
    subst e1 e3
    exact pair_rep r e2 (.cons ru (.cons rw' .nil))
  · have l1 := la.length
    have l2 := lb.length
    obtain ⟨z1, z2, z3⟩ := zipL_len2 (xs := xs) (ys := ys)
    exact ⟨us, ws, ha', hb', by omega, by omega, by omega⟩
theorem pi_zp (hF : FMono F) {a b : Expr} {ea eb : E} {p pos tpos : Pos} {elts : List Expr} {kk : Nat} (hg : Gl X "zip") (hm : X.mg "zip" = none) (ha : PA X [a, b] (rdL (ctx X ga) F [ea, eb]))
    (hs : starEach [a, b] X.env = (false, eval a X.env) :: starEach [b] X.env) (hpl : (backTo pos (starEach [b] X.env)).any (·.1) = false) : PI X (.Tuple elts kk tpos) (.Call (.Name "zip" p) [a, b] [] pos) (rdI (ctx X ga) F (.zip [ea, eb])) :=
  PI.imp (pi_zipP hg hm ha hs hpl) fun σ H R ⟨ρ, M, Z, Q', r, e, h, c⟩ => by
    have h : wpL F [ea, eb] ρ M (fun vs M1 => zipS vs M1 Q') := h
    refine ⟨ρ, M, Z, _, r, e, wpL_len hF _ _ _ _ h, fun vs xs H1 M1 Z1 x1 r1 rvs h1 => ?_⟩
    obtain ⟨hl, h1⟩ := h1
    match vs, hl, rvs, h1 with
    | [v1, v2], _, rvs, ⟨us, ws, s1, s2, q⟩ =>
      obtain ⟨x, y, rfl, rx, ry⟩ := rvs.two
      obtain ⟨b1, a1, u1, rfl, l1, k1⟩ := src_keeps r1 rx s1
      obtain ⟨b2, a2, u2, rfl, l2, k2⟩ := src_keeps r1 ry s2
      exact ⟨b1, b2, a1, a2, u1, u2, rfl, k1 _ _ _ Ext.refl, k2 _ _ _ Ext.refl, c _ _ _ _ _ _ x1 r1 (itok_zipP r1 k1 k2 l1 l2) trivial q⟩
theorem zip3L_get : ∀ {xs ys zs : List PV} {i : Nat} {v : PV}, (zipL3 xs ys zs)[i]? = some v → ∃ x y z, xs[i]? = some x ∧ ys[i]? = some y ∧ zs[i]? = some z ∧ v = .tup [x, y, z]
  | x :: r, y :: t, z :: u, 0, v, h => by
    have e : PV.tup [x, y, z] = v := by unfold zipL3 at h; simpa using h
    exact ⟨x, y, z, rfl, rfl, rfl, e.symm⟩
  | x :: r, y :: t, z :: u, i + 1, v, h => by
    unfold zipL3 at h
    rw [List.getElem?_cons_succ] at h
    obtain ⟨a, b, c, h1, h2, h3, h4⟩ := zip3L_get h
    exact ⟨a, b, c, by simpa using h1, by simpa using h2, by simpa using h3, h4⟩
  | [], _, _, _, _, h => by unfold zipL3 at h; simp at h
  | _ :: _, [], _, _, _, h => by unfold zipL3 at h; simp at h
  | _ :: _, _ :: _, [], _, _, h => by unfold zipL3 at h; simp at h
theorem zip3L_len : ∀ {xs ys zs : List PV}, (zipL3 xs ys zs).length ≤ xs.length ∧ (zipL3 xs ys zs).length ≤ ys.length ∧ (zipL3 xs ys zs).length ≤ zs.length ∧ ((zipL3 xs ys zs).length = xs.length ∨ (zipL3 xs ys zs).length = ys.length ∨ (zipL3 xs ys zs).length = zs.length)
  | x :: r, y :: t, z :: u => by
    unfold zipL3
    obtain ⟨a, b, c, d⟩ := zip3L_len (xs := r) (ys := t) (zs := u)
    simp only [List.length_cons]
    omega
  | [], _, _ => by unfold zipL3; simp
  | _ :: _, [], _ => by unfold zipL3; simp
  | _ :: _, _ :: _, [] => by unfold zipL3; simp
theorem enmL_get : ∀ {xs : List PV} {k i : Nat} {v : PV}, (enmL k xs)[i]? = some v → ∃ x, xs[i]? = some x ∧ v = .tup [.int ((k + i : Nat) : Int), x]
  | x :: r, k, 0, v, h => by
    have e : PV.tup [.int (k : Int), x] = v := by unfold enmL at h; simpa using h
    exact ⟨x, rfl, by rw [← e, Nat.add_zero]⟩
  | x :: r, k, i + 1, v, h => by
    unfold enmL at h
    rw [List.getElem?_cons_succ] at h
    obtain ⟨a, h1, h3⟩ := enmL_get h
    exact ⟨a, by simpa using h1, by rw [h3, show k + 1 + i = k + (i + 1) by omega]⟩
  | [], _, _, _, h => by unfold enmL at h; simp at h
theorem enmL_len : ∀ {xs : List PV} {k : Nat}, (enmL k xs).length = xs.length
  | [], _ => rfl
  | x :: r, k => by unfold enmL; rw [List.length_cons, List.length_cons, enmL_len]
theorem itok_enm {C : Ctx} {a : Addr} {xs : List PV} {us : List V} {keep : Sto → Prop} {H1 : Hp} {M1 : Sto} {Z1 : Addr → Prop} (r1 : SR C H1 M1 Z1) (ka : ∀ H M Z, Ext H1 M1 Z1 H M Z → LQ C.K H a us) (la : RepL C H1 M1 Z1 xs us) :
    ItOk C (Ite C.K a) (enmL 0 xs) keep H1 M1 Z1 := by
  intro i H M Z x r _
  have ha' := (ka H M Z x).sq
  refine ⟨fun v hv => ?_, fun hi => ⟨us, ha', by rw [← la.length, ← enmL_len (k := 0)]; exact Nat.le_of_eq hi⟩⟩
  obtain ⟨p, h1, rfl⟩ := enmL_get hv
  obtain ⟨u, hu, ru⟩ := (RepL.mono r1 x la).get h1
  refine ⟨⟨us, u, ha', hu⟩, fun y H' ⟨T, y1, e1, e2, e3, f1⟩ => ?_⟩
  have g1 := f1 us ha'
  rw [hu] at g1; cases g1
  subst e1 e3
  rw [Nat.zero_add]
  exact pair_rep r e2 (.cons (.int _) (.cons ru .nil))
theorem itok_enmT {C : Ctx} {a : Addr} {xs : List PV} {us : List V} {keep : Sto → Prop} {H1 : Hp} {M1 : Sto} {Z1 : Addr → Prop} (r1 : SR C H1 M1 Z1) (ha : SqT C.K H1 a us) (la : RepL C H1 M1 Z1 xs us) :
    ItOk C (IteT C.K a) (enmL 0 xs) keep H1 M1 Z1 := by
  intro i H M Z x r _
  have ha' := sqT_mono r1 x ha
  refine ⟨fun v hv => ?_, fun hi => ⟨us, ha', by rw [← la.length, ← enmL_len (k := 0)]; exact hi.symm⟩⟩
  obtain ⟨p, h1, rfl⟩ := enmL_get hv
  obtain ⟨u, hu, ru⟩ := (RepL.mono r1 x la).get h1
  refine ⟨⟨us, u, ha', hu⟩, fun y H' ⟨T, y1, e1, e2, e3, f1⟩ => ?_⟩
  have g1 := f1 us ha'
  rw [hu] at g1; cases g1
  subst e1 e3
  rw [Nat.zero_add]
  exact pair_rep r e2 (.cons (.int _) (.cons ru .nil))
theorem pi_enm {a : Expr} {ea : E} {p pos tpos : Pos} {elts : List Expr} {kk : Nat} (hg : Gl X "enumerate") (hm : X.mg "enumerate" = none) (ha : PE X a (rd (ctx X ga) F ea)) (hs : starEach [a] X.env = [(false, eval a X.env)]) :
    PI X (.Tuple elts kk tpos) (.Call (.Name "enumerate" p) [a] [] pos) (rdI (ctx X ga) F (.enm ea)) :=
  PI.imp (pi_enumA hg hm (pa_cons ha pa_nil hs) hs) fun σ H R ⟨ρ, M, Z, Q', r, e, h, c⟩ => by
    refine ⟨ρ, M, Z, _, r, e, h, fun v x H1 M1 Z1 x1 r1 rv ⟨xs, h1, q⟩ => ?_⟩
    rcases h1 with rfl | rfl
    · obtain ⟨a1, v1, rfl, l1, k1⟩ := lst_keeps r1 rv
      exact ⟨a1, v1, rfl, .inl ⟨(k1 _ _ _ Ext.refl).sq, c _ _ _ _ _ _ x1 r1 (itok_enm r1 k1 l1) trivial q⟩⟩
    · obtain ⟨a1, v1, rfl, q1, l1⟩ := rv.tup_inv
      exact ⟨a1, v1, rfl, .inr ⟨q1, c _ _ _ _ _ _ x1 r1 (itok_enmT r1 q1 l1) trivial q⟩⟩
theorem itok_zipQ {C : Ctx} {b1 b2 b3 : Bool} {a b d : Addr} {xs ys zs : List PV} {us ws ts : List V} {keep : Sto → Prop} {H1 : Hp} {M1 : Sto} {Z1 : Addr → Prop} (r1 : SR C H1 M1 Z1) (ka : ∀ H M Z, Ext H1 M1 Z1 H M Z → SqB b1 C.K H a us) (kb : ∀ H M Z, Ext H1 M1 Z1 H M Z → SqB b2 C.K H b ws) (kd : ∀ H M Z, Ext H1 M1 Z1 H M Z → SqB b3 C.K H d ts) (la : RepL C H1 M1 Z1 xs us) (lb : RepL C H1 M1 Z1 ys ws) (ld : RepL C H1 M1 Z1 zs ts) :
    ItOk C (ItzQ b1 b2 b3 C.K a b d) (zipL3 xs ys zs) keep H1 M1 Z1 := by
  intro i H M Z x r _
  have ha' := ka H M Z x
  have hb' := kb H M Z x
  have hd' := kd H M Z x
  refine ⟨fun v hv => ?_, fun hi => ?_⟩
  · obtain ⟨p, q, s, h1, h2, h3, rfl⟩ := zip3L_get hv
    obtain ⟨u, hu, ru⟩ := (RepL.mono r1 x la).get h1
    obtain ⟨w, hw, rw'⟩ := (RepL.mono r1 x lb).get h2
    obtain ⟨t, ht, rt⟩ := (RepL.mono r1 x ld).get h3
    refine ⟨⟨us, ws, ts, u, w, t, ha', hb', hd', hu, hw, ht⟩, fun y H' ⟨T, y1, y2, y3, e1, e2, e3, f1, f2, f3⟩ => ?_⟩
    have g1 := f1 us ha'
    have g2 := f2 ws hb'
    have g3 := f3 ts hd'
    rw [hu] at g1; cases g1
    rw [hw] at g2; cases g2
    rw [ht] at g3; cases g3
    subst e1 e3
    exact pair_rep r e2 (.cons ru (.cons rw' (.cons rt .nil)))
  · have l1 := la.length
    have l2 := lb.length
    have l3 := ld.length
    obtain ⟨z1, z2, z3, z4⟩ := zip3L_len (xs := xs) (ys := ys) (zs := zs)
    exact ⟨us, ws, ts, ha', hb', hd', by omega, by omega, by omega, by omega⟩
theorem pi_zp3 (hF : FMono F) {a b d : Expr} {ea eb ed : E} {p pos tpos : Pos} {elts : List Expr} {kk : Nat} (hg : Gl X "zip") (hm : X.mg "zip" = none) (ha : PA X [a, b, d] (rdL (ctx X ga) F [ea, eb, ed]))
    (hs : starEach [a, b, d] X.env = (false, eval a X.env) :: starEach [b, d] X.env) (hpl : (backTo pos (starEach [b, d] X.env)).any (·.1) = false) : PI X (.Tuple elts kk tpos) (.Call (.Name "zip" p) [a, b, d] [] pos) (rdI (ctx X ga) F (.zip [ea, eb, ed])) :=
  PI.imp (pi_zipQ hg hm ha hs hpl) fun σ H R ⟨ρ, M, Z, Q', r, e, h, c⟩ => by
    have h : wpL F [ea, eb, ed] ρ M (fun vs M1 => zipS vs M1 Q') := h
    refine ⟨ρ, M, Z, _, r, e, wpL_len hF _ _ _ _ h, fun vs xs H1 M1 Z1 x1 r1 rvs h1 => ?_⟩
    obtain ⟨hl, h1⟩ := h1
    match vs, hl, rvs, h1 with
    | [v1, v2, v3], _, .cons rx (.cons ry (.cons rz .nil)), ⟨us, ws, ts, s1, s2, s3, q⟩ =>
      obtain ⟨b1, a1, u1, rfl, l1, k1⟩ := src_keeps r1 rx s1
      obtain ⟨b2, a2, u2, rfl, l2, k2⟩ := src_keeps r1 ry s2
      obtain ⟨b3, a3, u3, rfl, l3, k3⟩ := src_keeps r1 rz s3
      exact ⟨b1, b2, b3, a1, a2, a3, u1, u2, u3, rfl, k1 _ _ _ Ext.refl, k2 _ _ _ Ext.refl, k3 _ _ _ Ext.refl, c _ _ _ _ _ _ x1 r1 (itok_zipQ r1 k1 k2 k3 l1 l2 l3) trivial q⟩
/-- x[::-1] -/
theorem ps_rev {a : Expr} {ea : E} {k : Nat} {p1 p2 p3 pos : Pos} (ha : PE X a (rd (ctx X ga) F ea)) : PE X (.Subscript a (.Slice none none (some (.UnaryOp .USub (.Constant (.int 1) k p1) p2)) p3) pos) (rd (ctx X ga) F (.rev ea)) :=
  PE.imp (pe_revA ha) fun σ H Q ⟨ρ, M, Z, Q', r, e, h, c⟩ => by
    refine ⟨ρ, M, Z, _, r, e, h, fun v x H1 M1 Z1 x1 r1 rv h1 => ?_⟩
    have c1 : Clo (ctx X ga) H1 M1 Z1 Q' Q := fun v x H2 M2 Z2 x2 r2 rv h2 => c _ _ _ _ _ (x1.trans x2) r2 rv h2
    have lists : (∃ xs, lo M1 v = some xs ∧ Q' (.lst xs.reverse) M1) → ∃ a xs, x = .ref a ∧ ((SqL X.K H1 a xs ∧ ∀ p, H1 p = none → Q (.ref p) (upd H1 p (.lst xs.reverse))) ∨ (SqT X.K H1 a xs ∧ ∀ p, H1 p = none → Q (.ref p) (upd H1 p (.tup xs.reverse)))) := by
      rintro ⟨xs, h1, q⟩
      obtain ⟨p, vs, rfl, hq, l⟩ := rv.lo_inv r1 h1
      exact ⟨p, vs, rfl, .inl ⟨hq.sq, fun p2 hp => c1.newL (mt := false) r1 l.reverse q hp⟩⟩
    cases v with
    | tup ys =>
      obtain ⟨p, vs, rfl, hq, l⟩ := rv.tup_inv
      exact ⟨p, vs, rfl, .inr ⟨hq, fun p2 hp => c1.newT r1 l.reverse h1 hp⟩⟩
    | _ => exact lists h1

/-! ### targets -/
mutual
/-- the slots of a target -/
def Tg.ixs : Tg → List Nat
  | .nm i => [i]
  | .tp gs => Tg.ixsL gs
def Tg.ixsL : List Tg → List Nat
  | [] => []
  | g :: gs => Tg.ixs g ++ Tg.ixsL gs
end
/-- names that may be stored to -/
def Sto1 (X : Cx) (x : Str) : Prop := Loc X.env.scope x ∧ (X.fn x = true ∨ X.env.scope.names.lookup x = some .local)
theorem PG.imp {tg : Expr} {t t' : TG} (h : PG X tg t) (i : ∀ x σ H Q, t' x σ H Q → t x σ H Q) : PG X tg t' := ⟨fun pins s σ H v u Q I r q => h.run pins s σ H v u Q I r (i _ _ _ _ q)⟩
theorem PGs.imp {tg : List Expr} {t t' : TGs} (h : PGs X tg t) (i : ∀ x σ H Q, t' x σ H Q → t x σ H Q) : PGs X tg t' := ⟨fun pins s σ H v u Q I r q => h.run pins s σ H v u Q I r (i _ _ _ _ q)⟩
/-- the slots outside of vs -/
structure EnvX (C : Ctx) (H : Hp) (M : Sto) (Z : Addr → Prop) (vs : List Nat) (ρ : Rho) (σ : L2.St) : Prop where
  len : ρ.length = σ.length
  get : ∀ (i : Nat) (v : PV), i ∉ vs → ρ[i]? = some (some v) → ∃ x, σ[i]? = some (some x) ∧ Rep C H M Z v x
theorem EnvR.x {C : Ctx} {H : Hp} {M : Sto} {Z : Addr → Prop} {vs : List Nat} {ρ : Rho} {σ : L2.St} (e : EnvR C H M Z ρ σ) : EnvX C H M Z vs ρ σ := ⟨e.len, fun i v _ h => e.get i v h⟩
theorem EnvX.r {C : Ctx} {H : Hp} {M : Sto} {Z : Addr → Prop} {ρ : Rho} {σ : L2.St} (e : EnvX C H M Z [] ρ σ) : EnvR C H M Z ρ σ := ⟨e.len, fun i v h => e.get i v (by simp) h⟩
theorem EnvR.wiped {C : Ctx} {H : Hp} {M : Sto} {Z : Addr → Prop} {ρ : Rho} {σ : L2.St} {vs : List Nat} (e : EnvR C H M Z ρ σ) : EnvX C H M Z vs ρ (wipe σ vs) :=
  ⟨by rw [wipe_length]; exact e.len, fun i v hi h => by rw [wipe_out hi]; exact e.get i v h⟩
theorem EnvX.set {C : Ctx} {H : Hp} {M : Sto} {Z : Addr → Prop} {vs : List Nat} {i : Nat} {ρ : Rho} {σ : L2.St} (e : EnvX C H M Z (i :: vs) ρ σ) {v : PV} {u : V} (r : Rep C H M Z v u) : EnvX C H M Z vs (ρ.set i (some v)) (σ.set i (some u)) := by
  refine ⟨by simp [e.len], fun j w hj h => ?_⟩
  by_cases q : j = i
  · subst q
    by_cases hj : j < ρ.length
    · rw [List.getElem?_set_self hj] at h
      cases h
      exact ⟨u, List.getElem?_set_self (by rw [← e.len]; exact hj), r⟩
    · rw [List.getElem?_eq_none (by simpa using hj)] at h; cases h
  · rw [List.getElem?_set_ne (Ne.symm q)] at h ⊢
    exact e.get j w (by simp [q, hj]) h
theorem wset (σ : L2.St) (i : Nat) (y : V) : ∀ (vs : List Nat), i ∈ vs → wipe (σ.set i (some y)) vs = wipe σ vs := by
    intro vs
    induction vs with
    | nil => intro h; cases h
    | cons w ws ih =>
      intro h
      unfold wipe
      by_cases hw : i ∈ ws
      · rw [ih hw]
      · have ew : i = w := by
          rcases List.mem_cons.mp h with z | z
          · exact z
          · exact (hw z).elim
        subst ew
        have c : ∀ ws : List Nat, i ∉ ws → wipe (σ.set i (some y)) ws = (wipe σ ws).set i (some y) := by
          intro ws
          induction ws with
          | nil => intro _; rfl
          | cons z zs ih2 =>
            intro hn
            unfold wipe
            rw [ih2 (fun q => hn (List.mem_cons_of_mem _ q)), List.set_comm _ _ (fun q => hn (by rw [q]; exact List.mem_cons_self))]
        rw [c ws hw, List.set_set]
/-- the target's reading, slots of rest not yet told -/
def gT' (C : Ctx) (g : Tg) (rest : List Nat) : TG := fun x σ H Q => ∃ M Z v ρ ρ', SR C H M Z ∧ Rep C H M Z v x ∧ EnvX C H M Z (g.ixs ++ rest) ρ σ ∧ bindT g v ρ = some ρ' ∧
  ∀ σ', EnvX C H M Z rest ρ' σ' → (∀ vs : List Nat, (∀ i ∈ g.ixs, i ∈ vs) → wipe σ' vs = wipe σ vs) → Q σ' H
def gTs' (C : Ctx) (gs : List Tg) (rest : List Nat) : TGs := fun xs σ H Q => ∃ M Z vs ρ ρ', SR C H M Z ∧ RepL C H M Z vs xs ∧ EnvX C H M Z (Tg.ixsL gs ++ rest) ρ σ ∧ bindTs gs vs ρ = some ρ' ∧
  ∀ σ', EnvX C H M Z rest ρ' σ' → (∀ vs : List Nat, (∀ i ∈ Tg.ixsL gs, i ∈ vs) → wipe σ' vs = wipe σ vs) → Q σ' H
def gT (C : Ctx) (g : Tg) : TG := gT' C g []
theorem pg_nm' {x : Str} {p : Pos} {i : Nat} (rest : List Nat) (hN : X.N.Nodup) (h1 : X.N[i]? = some x) (h2 : Sto1 X x) : PG X (.Name x p) (gT' (ctx X ga) (.nm i) rest) :=
  PG.imp (pg_name hN h1 h2.1 h2.2) fun x σ H Q ⟨M, Z, v, ρ, ρ', r, rv, e, hb, q⟩ => by
    unfold bindT at hb
    have h' : ρ.set i (some v) = ρ' := Option.some.inj hb
    subst h'
    unfold Tg.ixs at e q
    exact q _ (EnvX.set (i := i) (vs := rest) e rv) fun vs hv => wset _ _ _ _ (hv i (by simp))
theorem pgs_nil' (rest : List Nat) : PGs X [] (gTs' (ctx X ga) [] rest) :=
  PGs.imp pgs_nil fun xs σ H Q ⟨M, Z, vs, ρ, ρ', r, rv, e, hb, q⟩ => by
    unfold bindTs at hb
    cases rv with
    | nil =>
      have h' : ρ = ρ' := Option.some.inj hb
      subst h'
      unfold Tg.ixsL at e q
      exact ⟨rfl, q σ e fun _ _ => rfl⟩
    | cons _ _ => cases hb
theorem pgs_cons' {t : Expr} {ts : List Expr} {g : Tg} {gs : List Tg} {rest : List Nat} (h1 : PG X t (gT' (ctx X ga) g (Tg.ixsL gs ++ rest))) (h2 : PGs X ts (gTs' (ctx X ga) gs rest))
    (hs : (assignEach (t :: ts) X.env).map (·.2) = assign t X.env :: (assignEach ts X.env).map (·.2)) : PGs X (t :: ts) (gTs' (ctx X ga) (g :: gs) rest) :=
  PGs.imp (pgs_cons h1 h2 hs) fun xs σ H Q ⟨M, Z, vs, ρ, ρ', r, rv, e, hb, q⟩ => by
    unfold bindTs at hb
    unfold Tg.ixsL at e q
    cases rv with
    | nil => cases hb
    | @cons v x vr xr ra rb =>
      have hb : (match bindT g v ρ with
        | some ρ' => bindTs gs vr ρ'
        | none => none) = some ρ' := hb
      cases e1 : bindT g v ρ with
      | none => rw [e1] at hb; cases hb
      | some ρ1 =>
        rw [e1] at hb
        refine ⟨x, xr, rfl, M, Z, v, ρ, ρ1, r, ra, by rw [← List.append_assoc]; exact e, e1, fun σ1 x1 w1 => ?_⟩
        refine ⟨M, Z, vr, ρ1, ρ', r, rb, x1, hb, fun σ2 x2 w2 => ?_⟩
        exact q σ2 x2 fun vs hv => (w2 vs fun i hi => hv i (List.mem_append_right _ hi)).trans (w1 vs fun i hi => hv i (List.mem_append_left _ hi))
theorem pg_tp' {es : List Expr} {gs : List Tg} {rest : List Nat} {k : Nat} {pos : Pos} (hc : X.calm = true) (h : PGs X es (gTs' (ctx X ga) gs rest)) (hl : (assignEach es X.env).length = gs.length) (hst : (assignEach es X.env).findIdx? (·.1) = none) :
    PG X (.Tuple es k pos) (gT' (ctx X ga) (.tp gs) rest) :=
  PG.imp (pg_seq hc h hl hst) fun x σ H Q ⟨M, Z, v, ρ, ρ', r, rv, e, hb, q⟩ => by
    unfold bindT at hb
    unfold Tg.ixs at e q
    have len : ∀ {gs : List Tg} {vs : List PV} {ρ ρ' : Rho}, bindTs gs vs ρ = some ρ' → vs.length = gs.length := by
      intro gs
      induction gs with
      | nil => intro vs ρ ρ' h; unfold bindTs at h; cases vs with | nil => rfl | cons _ _ => cases h
      | cons g gs ih =>
        intro vs ρ ρ' h
        unfold bindTs at h
        cases vs with
        | nil => cases h
        | cons v vr =>
          have h : (match bindT g v ρ with
            | some ρ' => bindTs gs vr ρ'
            | none => none) = some ρ' := h
          cases e1 : bindT g v ρ with
          | none => rw [e1] at h; cases h
          | some ρ1 => rw [e1] at h; rw [List.length_cons, List.length_cons, ih h]
    cases v with
    | tup vs =>
      obtain ⟨p, xs, rfl, hq, l⟩ := rv.tup_inv
      have hb : bindTs gs vs ρ = some ρ' := hb
      exact ⟨p, xs, rfl, .inl hq, by rw [← l.length, len hb], M, Z, vs, ρ, ρ', r, l, e, hb, q⟩
    | lst vs =>
      obtain ⟨p, xs, rfl, l, k⟩ := lst_keeps r rv
      have hb : bindTs gs vs ρ = some ρ' := hb
      exact ⟨p, xs, rfl, .inr (k _ _ _ Ext.refl).sq, by rw [← l.length, len hb], M, Z, vs, ρ, ρ', r, l, e, hb, q⟩
    | _ => cases hb
/-- a target bound in the small language, and the slots -/
theorem gT_of {C : Ctx} {g : Tg} {H : Hp} {M : Sto} {Z : Addr → Prop} {ρ ρ' : Rho} {σ : L2.St} {v : PV} {x : V} {Q : L2.St → Hp → Prop} (r : SR C H M Z) (e : EnvX C H M Z g.ixs ρ σ) (rv : Rep C H M Z v x) (h : bindT g v ρ = some ρ')
    (q : ∀ σ', EnvR C H M Z ρ' σ' → (∀ vs : List Nat, (∀ i ∈ g.ixs, i ∈ vs) → wipe σ' vs = wipe σ vs) → Q σ' H) : gT C g x σ H Q :=
  ⟨M, Z, v, ρ, ρ', r, rv, by rw [List.append_nil]; exact e, h, fun σ' e' => q σ' e'.r⟩

/-! ### comprehensions -/
def rdC (C : Ctx) (F : FS) (c : Option E) : TT := fun σ H Q => ∃ ρ M Z Q', SR C H M Z ∧ EnvR C H M Z ρ σ ∧ wpC F c ρ M Q' ∧ CloB C H M Z Q' Q
theorem pts_no : PTs X [] (rdC (ctx X ga) F none) := ⟨fun pins s σ H Q I ⟨ρ, M, Z, Q', r, e, h, c⟩ => pts_nil.run pins s σ H Q I (c true H M Z Ext.refl r h)⟩
theorem pts_so {t : Expr} {et : E} (ht : PT X t (rdT (ctx X ga) F et)) : PTs X [t] (rdC (ctx X ga) F (some et)) := ⟨fun pins s σ H Q I ⟨ρ, M, Z, Q', r, e, h, c⟩ => (pts_one ht).run pins s σ H Q I ⟨ρ, M, Z, Q', r, e, h, c⟩⟩
theorem wipe_in {i : Nat} (τ : L2.St) : ∀ {vs : List Nat}, i ∈ vs → (wipe τ vs)[i]? = if i < τ.length then some none else none
  | [], h => by cases h
  | v :: vs, h => by
    unfold wipe
    by_cases e : v = i
    · subst e
      by_cases hl : v < τ.length
      · rw [List.getElem?_set_self (by rw [wipe_length]; exact hl), if_pos hl]
      · rw [if_neg hl, List.getElem?_eq_none]
        rw [List.length_set, wipe_length]; omega
    · rw [List.getElem?_set_ne e]
      refine wipe_in τ ?_
      rcases List.mem_cons.mp h with z | z
      · exact (e z.symm).elim
      · exact z
theorem wipe_wipe (σ : L2.St) (vs : List Nat) : wipe (wipe σ vs) vs = wipe σ vs := by
  apply List.ext_getElem?
  intro i
  by_cases hi : i ∈ vs
  · rw [wipe_in _ hi, wipe_in _ hi, wipe_length]
  · rw [wipe_out hi]

/-- what holds between two turns -/
def CompW (C : Ctx) (step : PV → Sto → (Option PV → Sto → Prop) → Prop) (keep : Sto → Prop) (Qc : List PV → Sto → Prop) (items : List PV) (σ : L2.St) (ρ : Rho) (H1 : Hp) (M1 : Sto) (Z1 : Addr → Prop) (D : Addr) (i m : Nat) (H : Hp) : Prop :=
  ∃ M Z acc accV, SR C H M Z ∧ Ext H1 M1 Z1 H M Z ∧ EnvR C H M Z ρ σ ∧ H D = some (.lst accV) ∧ RepL C H M Z acc accV ∧ ¬ Z D ∧ M D = none ∧ keep M ∧ i + m = items.length ∧ acc.length ≤ i ∧ compL step keep (items.drop i) acc M Qc
theorem ps_comp {mt : Bool} {g : Tg} {it : It} {oc : Option E} {ee : E} {elt tg iter : Expr} {ifs : List Expr} {scope : Scope} {own : List (Str × Nat)} {pos : Pos} (hc : X.calm = true) (hN : X.N.Nodup) (hi : PI X tg iter (rdI (ctx X ga) F it)) (ok : BlkOk X.N X.env.scope scope own) (hown : own.map (·.2) = g.ixs)
    (hg : ∀ (s : Shared) (H : Hp) (C : Addr) (cl : List (Str × Addr)) (fp : List Addr), PG (X.blk s H scope (compEnvC scope cl C X.env) fp) tg (gT (ctx X ga) g))
    (ht : ∀ (s : Shared) (H : Hp) (C : Addr) (cl : List (Str × Addr)) (fp : List Addr), PTs (X.blk s H scope (compEnvC scope cl C X.env) fp) ifs (rdC (ctx X ga) F oc))
    (he : ∀ (s : Shared) (H : Hp) (C : Addr) (cl : List (Str × Addr)) (fp : List Addr), PE (X.blk s H scope (compEnvC scope cl C X.env) fp) elt (rd (ctx X ga) F ee)) (hs : ∀ x, foldedSetIterable iter X.env x = pure x) :
    PE X (.ListComp elt [⟨tg, iter, ifs, 0⟩] scope pos) (tLc (rdI (ctx X ga) F it) (gT (ctx X ga) g) (rdC (ctx X ga) F oc) (rd (ctx X ga) F ee) (own.map (·.2))) :=
  pe_lc hc hN hi ok hg ht he hs
/-- the reading -/
theorem rd_comp {mt : Bool} {g : Tg} {it : It} {oc : Option E} {ee : E} {vs : List Nat} (hv : vs = g.ixs) {σ : L2.St} {H : Hp} {Q : VK} (h : rd (ctx X ga) F (.comp mt g it oc ee) σ H Q) : tLc (rdI (ctx X ga) F it) (gT (ctx X ga) g) (rdC (ctx X ga) F oc) (rd (ctx X ga) F ee) vs σ H Q := by
  obtain ⟨ρ, M, Z, Q', r, e, h, c⟩ := h
  subst hv
  refine ⟨ρ, M, Z, _, r, e, h, fun J H1 M1 Z1 items keep x1 r1 iok k1 ⟨hz, h1⟩ D hD => ?_⟩
  have e1 := e.mono r x1
  refine ⟨CompW (ctx X ga) _ keep _ items σ ρ H1 M1 Z1 D, ⟨items.length, M1, Z1, [], [], r1.new hD, Ext.new hD, e1.mono r1 (Ext.new hD), upd_same, .nil, r1.nz hD, r1.fresh hD, k1, Nat.zero_add _, Nat.le_refl _, h1⟩, ?_⟩
  rintro i m H2 ⟨M2, Z2, acc, accV, r2, x2, e2, hD2, la, nz, nm, k2, him, hacc, hcl⟩
  obtain ⟨go, stop⟩ := iok i H2 M2 Z2 x2 r2 k2
  by_cases hi : i < items.length
  · obtain ⟨v, hv⟩ : ∃ v, items[i]? = some v := ⟨items[i], List.getElem?_eq_getElem hi⟩
    obtain ⟨g1, g2⟩ := go v hv
    have hd : items.drop i = v :: items.drop (i + 1) := by
      rw [List.drop_eq_getElem_cons hi]
      rw [List.getElem?_eq_getElem hi] at hv
      rw [Option.some.inj hv]
    rw [hd] at hcl
    obtain ⟨ρ', hb, hcl⟩ := hcl
    refine .inr ⟨g1, CompW (ctx X ga) _ keep _ items σ ρ H1 M1 Z1 D (i + 1) (m - 1), fun H' w => ⟨m - 1, by omega, w⟩, fun x H3 hy => ?_⟩
    obtain ⟨x3, r3, rv⟩ := g2 x H3 hy
    have e3 := e2.mono r2 x3
    refine gT_of r3 e3.wiped rv hb fun σ' e4 hw => ⟨(hw _ fun i hi => hi).trans (wipe_wipe _ _), ?_⟩
    refine ⟨ρ', M2, Z2, _, r3, e4, hcl, fun b H4 M4 Z4 x4 r4 h4 => ?_⟩
    have hD3 : H3 D = some (.lst accV) := (x3.unm _ _ hD2 nm).1
    obtain ⟨hD4, nm4⟩ := x4.unm _ _ hD3 nm
    have nz4 : ¬ Z4 D := fun z => by
      rcases x4.zn D z with q | q
      · exact nz q
      · rw [hD3] at q; cases q
    have x14 := (x2.trans x3).trans x4
    cases b with
    | false =>
      dsimp only at h4 ⊢
      rw [if_neg Bool.false_ne_true] at h4 ⊢
      obtain ⟨k4, h4⟩ := h4
      exact ⟨M4, Z4, acc, accV, r4, x14, e1.mono r1 x14, hD4, RepL.mono r2 (x3.trans x4) la, nz4, nm4, k4, by omega, by omega, h4⟩
    | true =>
      dsimp only at h4 ⊢
      rw [if_pos rfl] at h4 ⊢
      refine ⟨ρ', M4, Z4, _, r4, e4.mono r3 x4, h4, fun w y H5 M5 Z5 x5 r5 rw5 ⟨k5, h5⟩ => ?_⟩
      obtain ⟨hD5, nm5⟩ := x5.unm _ _ hD4 nm4
      have nz5 : ¬ Z5 D := fun z => by
        rcases x5.zn D z with q | q
        · exact nz4 q
        · rw [hD4] at q; cases q
      have x15 := x14.trans x5
      have kp : Kp H5 M5 Z5 (upd H5 D (.lst (accV ++ [y]))) M5 Z5 := Kp.hid hD5 nz5
      have la5 := RepL.mono r2 ((x3.trans x4).trans x5) la
      have x16 := Ext.hid (ws := accV ++ [y]) x15 hD
      have r6 := r5.hid (ws := accV ++ [y]) hD5 nz5 nm5
      refine ⟨accV, hD5, ?_, M5, Z5, acc ++ [w], accV ++ [y], r6, x16, e1.mono r1 x16, upd_same, (RepL.kp kp la5).append (.cons (Rep.kp kp rw5) .nil), nz5, nm5, k5, by omega, ?_, h5⟩
      · rw [← la.length]; omega
      · rw [List.length_append, List.length_singleton]; omega
  · have hd : items.drop i = [] := List.drop_eq_nil_of_le (by omega)
    rw [hd] at hcl
    refine .inl ⟨stop (by omega), ?_⟩
    have hcl : newL mt acc M2 Q' := hcl
    cases mt with
    | false =>
      have hcl : Q' (.lst acc) M2 := hcl
      exact c _ _ _ _ _ (x1.trans (x2.told hD)) (r2.told hD2 nm) (.lz (.inl rfl) hD2 la.told) hcl
    | true =>
      have hcl : ∀ p, M2 p = none → Q' (.ref p) (M2.put p (.lst acc)) := hcl
      have same : upd H2 D (.lst accV) = H2 := by
        funext b
        by_cases q : b = D
        · subst q; rw [upd_same, hD2]
        · rw [upd_ne q]
      have xx : Ext H2 M2 Z2 H2 (M2.put D (.lst acc)) Z2 → False := fun z => by
        have := (z.unm _ _ hD2 nm).2
        rw [Sto.put_same] at this; cases this
      have x3 : Ext H1 M1 Z1 H2 (M2.put D (.lst acc)) Z2 :=
        ⟨fun a o h mm => by
          have q : a ≠ D := fun z => by subst z; rw [hD] at h; cases h
          rw [Sto.put_ne q]; exact x2.unm a o h mm, fun a h => by
          by_cases q : a = D
          · subst q; rw [Sto.put_same]; rfl
          · rw [Sto.put_ne q]; exact x2.dom a h, x2.zz, x2.hd, x2.zn⟩
      have kp : Kp H2 M2 Z2 H2 (M2.put D (.lst acc)) Z2 := ⟨fun _ _ h => h, fun _ _ _ h => h, fun _ _ => rfl, fun a h => by
          by_cases q : a = D
          · subst q; rw [Sto.put_same]; rfl
          · rw [Sto.put_ne q]; exact h, fun _ h => h⟩
      have r3 : SR (ctx X ga) H2 (M2.put D (.lst acc)) Z2 := by
        refine ⟨fun a o ee => ?_, fun a z => ?_⟩
        · by_cases q : a = D
          · subst q
            rw [Sto.put_same] at ee; cases ee
            exact ⟨_, hD2, accV, rfl, RepL.kp kp la⟩
          · rw [Sto.put_ne q] at ee
            obtain ⟨u, hu, b⟩ := r2.sto a o ee
            exact ⟨u, hu, b.kp kp⟩
        · have q : a ≠ D := fun e => by subst e; exact nz z
          rw [Sto.put_ne q]; exact r2.frz a z
      exact c _ _ _ _ _ (x1.trans x3) r3 (.ref (by rw [Sto.put_same]; rfl)) (hcl D nm)
end
end SG
namespace SG
open PySem PySem.Spec PyProof.Rows L2
section
variable {X : Cx} {ga : Str → Option Addr} {F : FS}
structure CloS (C : Ctx) (H : Hp) (M : Sto) (Z : Addr → Prop) (D' : SG.Ends) (D : L2.Ends) : Prop where
  nx : ∀ ρ σ H' M' Z', Ext H M Z H' M' Z' → SR C H' M' Z' → EnvR C H' M' Z' ρ σ → D'.nx ρ M' → D.nx σ H'
  rt : ∀ v x H' M' Z', Ext H M Z H' M' Z' → SR C H' M' Z' → Rep C H' M' Z' v x → D'.rt v M' → D.rt x H'
  bk : ∀ ρ σ H' M' Z', Ext H M Z H' M' Z' → SR C H' M' Z' → EnvR C H' M' Z' ρ σ → D'.bk ρ M' → D.bk σ H'
  ct : ∀ ρ σ H' M' Z', Ext H M Z H' M' Z' → SR C H' M' Z' → EnvR C H' M' Z' ρ σ → D'.ct ρ M' → D.ct σ H'
theorem CloS.ext {C : Ctx} {H H1 : Hp} {M M1 : Sto} {Z Z1 : Addr → Prop} {D' : SG.Ends} {D : L2.Ends} (c : CloS C H M Z D' D) (x : Ext H M Z H1 M1 Z1) : CloS C H1 M1 Z1 D' D :=
  ⟨fun ρ σ H' M' Z' y => c.nx ρ σ H' M' Z' (x.trans y), fun v u H' M' Z' y => c.rt v u H' M' Z' (x.trans y), fun ρ σ H' M' Z' y => c.bk ρ σ H' M' Z' (x.trans y), fun ρ σ H' M' Z' y => c.ct ρ σ H' M' Z' (x.trans y)⟩
def rdS (C : Ctx) (F : FS) (s : S) : TS := fun D σ H => ∃ ρ M Z D', SR C H M Z ∧ EnvR C H M Z ρ σ ∧ wpS F s ρ M D' ∧ CloS C H M Z D' D
def rdSs (C : Ctx) (F : FS) (s : List S) : TS := fun D σ H => ∃ ρ M Z D', SR C H M Z ∧ EnvR C H M Z ρ σ ∧ wpSs F s ρ M D' ∧ CloS C H M Z D' D
theorem PS.imp {st : Stmt} {t t' : TS} (h : PS X st t) (i : ∀ D σ H, t' D σ H → t D σ H) : PS X st t' := ⟨fun pins s σ H D I q => h.run pins s σ H D I (i D σ H q)⟩
theorem PSs.imp {st : List Stmt} {t t' : TS} (h : PSs X st t) (i : ∀ D σ H, t' D σ H → t D σ H) : PSs X st t' := ⟨fun pins s σ H D I q => h.run pins s σ H D I (i D σ H q)⟩
theorem ss_nil : PSs X [] (rdSs (ctx X ga) F []) := PSs.imp pss_nil fun D σ H ⟨ρ, M, Z, D', r, e, h, c⟩ => c.nx ρ σ H M Z Ext.refl r e h
theorem ss_cons {st : Stmt} {rest : List Stmt} {s : S} {ss : List S} (h1 : PS X st (rdS (ctx X ga) F s)) (h2 : PSs X rest (rdSs (ctx X ga) F ss)) : PSs X (st :: rest) (rdSs (ctx X ga) F (s :: ss)) :=
  PSs.imp (pss_cons h1 h2) fun D σ H ⟨ρ, M, Z, D', r, e, h, c⟩ => by
    refine ⟨ρ, M, Z, _, r, e, h, ⟨fun ρ' σ' H' M' Z' x r' e' h' => ?_, c.rt, c.bk, c.ct⟩⟩
    exact ⟨ρ', M', Z', D', r', e', h', c.ext x⟩
theorem s_pass {pos : Pos} : PS X (.Pass pos) (rdS (ctx X ga) F .pass) := PS.imp ps_pass fun D σ H ⟨ρ, M, Z, D', r, e, h, c⟩ => c.nx ρ σ H M Z Ext.refl r e h
theorem s_brk {pos : Pos} : PS X (.Break pos) (rdS (ctx X ga) F .brk) := PS.imp ps_break fun D σ H ⟨ρ, M, Z, D', r, e, h, c⟩ => c.bk ρ σ H M Z Ext.refl r e h
theorem s_cont {pos : Pos} : PS X (.Continue pos) (rdS (ctx X ga) F .cont) := PS.imp ps_continue fun D σ H ⟨ρ, M, Z, D', r, e, h, c⟩ => c.ct ρ σ H M Z Ext.refl r e h
theorem s_never {st : Stmt} : PS X st (rdS (ctx X ga) F .never) := PS.imp ps_never fun D σ H ⟨ρ, M, Z, D', r, e, h, c⟩ => h
theorem s_expr {a : Expr} {ea : E} {pos : Pos} (ha : PE X a (rd (ctx X ga) F ea)) (hs : swapsWith a none pos.line X.env = pure false) : PS X (.Expr a pos) (rdS (ctx X ga) F (.expr ea)) :=
  PS.imp (L2.ps_expr ha hs) fun D σ H ⟨ρ, M, Z, D', r, e, h, c⟩ => ⟨ρ, M, Z, _, r, e, h, fun v x H' M' Z' x1 r1 rv h1 => c.nx ρ σ H' M' Z' x1 r1 (e.mono r x1) h1⟩
theorem s_ret {a : Expr} {ea : E} {pos : Pos} (ha : PE X a (rd (ctx X ga) F ea)) : PS X (.Return (some a) pos) (rdS (ctx X ga) F (.ret ea)) :=
  PS.imp (L2.ps_ret ha) fun D σ H ⟨ρ, M, Z, D', r, e, h, c⟩ => ⟨ρ, M, Z, _, r, e, h, fun v x H' M' Z' x1 r1 rv h1 => c.rt v x H' M' Z' x1 r1 rv h1⟩
theorem s_ret0 {pos : Pos} : PS X (.Return none pos) (rdS (ctx X ga) F .ret0) := PS.imp ps_retN fun D σ H ⟨ρ, M, Z, D', r, e, h, c⟩ => c.rt .non .non H M Z Ext.refl r .non h
theorem s_ite {t : Expr} {et : E} {a b : List Stmt} {sa sb : List S} {pos : Pos} (ht : PT X t (rdT (ctx X ga) F et)) (ha : PSs X a (rdSs (ctx X ga) F sa)) (hb : PSs X b (rdSs (ctx X ga) F sb)) : PS X (.If t a b pos) (rdS (ctx X ga) F (.ite et sa sb)) :=
  PS.imp (L2.ps_if ht ha hb) fun D σ H ⟨ρ, M, Z, D', r, e, h, c⟩ => by
    refine ⟨ρ, M, Z, _, r, e, h, fun k H1 M1 Z1 x1 r1 q => ?_⟩
    cases k with
    | true =>
      rw [if_pos rfl] at q ⊢
      exact ⟨ρ, M1, Z1, D', r1, e.mono r x1, q, c.ext x1⟩
    | false =>
      rw [if_neg Bool.false_ne_true] at q ⊢
      exact ⟨ρ, M1, Z1, D', r1, e.mono r x1, q, c.ext x1⟩
/-- target = value -/
theorem rd_asg {g : Tg} {ea : E} {D : L2.Ends} {σ : L2.St} {H : Hp} (h : rdS (ctx X ga) F (.asg g ea) D σ H) : tAsg (rd (ctx X ga) F ea) (gT (ctx X ga) g) D σ H := by
  obtain ⟨ρ, M, Z, D', r, e, h, c⟩ := h
  refine ⟨ρ, M, Z, _, r, e, h, fun v x H' M' Z' x1 r1 rv ⟨ρ', h1, q⟩ => ?_⟩
  exact gT_of r1 (e.mono r x1).x rv h1 fun σ' e' _ => c.nx ρ' σ' H' M' Z' x1 r1 e' q
theorem s_asg {g : Tg} {tg a : Expr} {ea : E} {pos : Pos} (ha : PE X a (rd (ctx X ga) F ea)) (hg : PG X tg (gT (ctx X ga) g)) (hs : swapsWithSole [tg] a pos.line X.env = pure false) (hw : swappedStores [tg] a X.env = pure none)
    (h1 : (assignEach [tg] X.env).map (·.2) = [assign tg X.env]) : PS X (.Assign [tg] a pos) (rdS (ctx X ga) F (.asg g ea)) :=
  PS.imp (L2.ps_asg ha hg hs hw h1) fun D σ H h => rd_asg h
/-- name = [.. for ..] on one line -/
theorem s_setLc {i : Nat} {y : Str} {py : Pos} {mt : Bool} {g : Tg} {it : It} {oc : Option E} {ee : E} {elt tg iter : Expr} {ifs : List Expr} {scope : Scope} {own : List (Str × Nat)} {pos spos : Pos} (hc : X.calm = true) (hN : X.N.Nodup) (hy : X.N[i]? = some y) (hyl : X.env.scope.names.lookup y = some .local)
    (hsw : swapsWith (.ListComp elt [⟨tg, iter, ifs, 0⟩] scope pos) (some (.Name y py)) spos.line X.env = pure true) (hi : PI X tg iter (rdI (ctx X ga) F it)) (ok : BlkOk X.N X.env.scope scope own) (hown : own.map (·.2) = g.ixs)
    (hg : ∀ (s : Shared) (H : Hp) (C : Addr) (cl : List (Str × Addr)) (fp : List Addr), PG (X.blk s H scope (compEnvC scope cl C X.env) fp) tg (gT (ctx X ga) g))
    (ht : ∀ (s : Shared) (H : Hp) (C : Addr) (cl : List (Str × Addr)) (fp : List Addr), PTs (X.blk s H scope (compEnvC scope cl C X.env) fp) ifs (rdC (ctx X ga) F oc))
    (he : ∀ (s : Shared) (H : Hp) (C : Addr) (cl : List (Str × Addr)) (fp : List Addr), PE (X.blk s H scope (compEnvC scope cl C X.env) fp) elt (rd (ctx X ga) F ee)) (hs : ∀ x, foldedSetIterable iter X.env x = pure x) :
    PS X (.Assign [.Name y py] (.ListComp elt [⟨tg, iter, ifs, 0⟩] scope pos) spos) (rdS (ctx X ga) F (.asg (.nm i) (.comp mt g it oc ee))) :=
  PS.imp (L2.ps_setLc hc hN hy hyl hsw hi ok hg ht he hs) fun D σ H ⟨ρ, M, Z, D', r, e, h, c⟩ => by
    refine rd_comp (mt := mt) hown ⟨ρ, M, Z, _, r, e, h, fun v x H' M' Z' x1 r1 rv ⟨ρ', h1, q⟩ => ?_⟩
    have h1' : ρ.set i (some v) = ρ' := Option.some.inj h1
    subst h1'
    exact c.nx _ _ H' M' Z' x1 r1 ((e.mono r x1).set rv i) q
/-- o[i] = value -/
theorem s_six {o i a : Expr} {eo ei ea : E} {p pos : Pos} (ho : PE X o (rd (ctx X ga) F eo)) (hi : PE X i (rd (ctx X ga) F ei)) (ha : PE X a (rd (ctx X ga) F ea)) (has : ∀ v, assign (.Subscript o i p) X.env v = (do
      let ov ← holding [v] (eval o X.env)
      let iv ← holding [v, ov] (eval i X.env)
      standAt p
      holding [v, ov, iv] (setItem ov iv v)
      release [v, ov, iv] [])) (hs : swapsWithSole [.Subscript o i p] a pos.line X.env = pure false) : PS X (.Assign [.Subscript o i p] a pos) (rdS (ctx X ga) F (.six eo ei ea)) :=
  PS.imp (L2.ps_asg ha (pg_sub ho hi (set_ok (ga := ga)) has) hs rfl rfl) fun D σ H ⟨ρ, M, Z, D', r, e, h, c⟩ => by
    refine ⟨ρ, M, Z, _, r, e, h, fun v x H1 M1 Z1 x1 r1 rv h1 => ?_⟩
    refine ⟨ρ, M1, Z1, _, r1, e.mono r x1, h1, fun w y H2 M2 Z2 x2 r2 rw h2 => ?_⟩
    refine ⟨ρ, M2, Z2, _, r2, e.mono r (x1.trans x2), h2, fun z u H3 M3 Z3 x3 r3 rz h3 => ?_⟩
    refine ⟨w, z, v, M3, Z3, _, r3, rw.mono r2 x3, rz, rv.mono r1 (x2.trans x3), h3, fun H4 M4 Z4 x4 r4 h4 => ?_⟩
    have x := ((x1.trans x2).trans x3).trans x4
    exact c.nx ρ σ H4 M4 Z4 x r4 (e.mono r x) h4
/-- for -/
theorem s_for {g : Tg} {it : It} {tg iter : Expr} {body : List Stmt} {sb : List S} {pos : Pos} (hp : PassesOwn (model X.prog X.w) X.A X.env X.xe) (hc : X.calm = true) (hi : PI X tg iter (rdI (ctx X ga) F it)) (hg : PG X tg (gT (ctx X ga) g)) (hb : PSs X body (rdSs (ctx X ga) F sb))
    (hs : ∀ x, foldedSetIterable iter X.env x = pure x) : PS X (.For tg iter body [] pos) (rdS (ctx X ga) F (.for_ g it sb)) :=
  PS.imp (L2.ps_for hp hc hi hg hb hs) fun D σ H ⟨ρ, M, Z, D', r, e, h, c⟩ => by
    refine ⟨ρ, M, Z, _, r, e, h, fun J H1 M1 Z1 items keep x1 r1 iok k1 h1 => ?_⟩
    have e1 := e.mono r x1
    refine ⟨fun i m σ' H2 => ∃ ρ' M2 Z2, SR (ctx X ga) H2 M2 Z2 ∧ Ext H1 M1 Z1 H2 M2 Z2 ∧ EnvR (ctx X ga) H2 M2 Z2 ρ' σ' ∧ keep M2 ∧ i + m = items.length ∧ forL (fun x ρ1 M' k => ∃ ρ', bindT g x ρ1 = some ρ' ∧ wpSs F sb ρ' M' ⟨k, D'.rt, D'.nx, k⟩) keep D'.nx (items.drop i) ρ' M2,
      ⟨items.length, ρ, M1, Z1, r1, Ext.refl, e1, k1, Nat.zero_add _, h1⟩, ?_⟩
    rintro i m σ2 H2 ⟨ρ2, M2, Z2, r2, x2, e2, k2, him, hf⟩
    obtain ⟨go, stop⟩ := iok i H2 M2 Z2 x2 r2 k2
    by_cases hi : i < items.length
    · obtain ⟨v, hv⟩ : ∃ v, items[i]? = some v := ⟨items[i], List.getElem?_eq_getElem hi⟩
      obtain ⟨g1, g2⟩ := go v hv
      have hd : items.drop i = v :: items.drop (i + 1) := by
        rw [List.drop_eq_getElem_cons hi]
        rw [List.getElem?_eq_getElem hi] at hv
        rw [Option.some.inj hv]
      rw [hd] at hf
      obtain ⟨ρ', hb, hf⟩ := hf
      refine .inr ⟨g1, fun σ' H' => ∃ ρ' M2 Z2, SR (ctx X ga) H' M2 Z2 ∧ Ext H1 M1 Z1 H' M2 Z2 ∧ EnvR (ctx X ga) H' M2 Z2 ρ' σ' ∧ keep M2 ∧ (i + 1) + (m - 1) = items.length ∧ forL (fun x ρ1 M' k => ∃ ρ', bindT g x ρ1 = some ρ' ∧ wpSs F sb ρ' M' ⟨k, D'.rt, D'.nx, k⟩) keep D'.nx (items.drop (i + 1)) ρ' M2,
        fun σ' H' w => ⟨m - 1, by omega, w⟩, fun x H3 hy => ?_⟩
      obtain ⟨x3, r3, rv⟩ := g2 x H3 hy
      refine gT_of r3 (e2.mono r2 x3).x rv hb fun σ' e4 _ => ?_
      have x13 := x2.trans x3
      refine ⟨ρ', M2, Z2, _, r3, e4, hf, ⟨fun ρ5 σ5 H5 M5 Z5 x5 r5 e5 ⟨k5, h5⟩ => ?_, fun v u H5 M5 Z5 x5 r5 rv5 h5 => c.rt v u H5 M5 Z5 (x1.trans (x13.trans x5)) r5 rv5 h5,
        fun ρ5 σ5 H5 M5 Z5 x5 r5 e5 h5 => c.nx ρ5 σ5 H5 M5 Z5 (x1.trans (x13.trans x5)) r5 e5 h5, fun ρ5 σ5 H5 M5 Z5 x5 r5 e5 ⟨k5, h5⟩ => ?_⟩⟩
      · exact ⟨ρ5, M5, Z5, r5, x13.trans x5, e5, k5, by omega, h5⟩
      · exact ⟨ρ5, M5, Z5, r5, x13.trans x5, e5, k5, by omega, h5⟩
    · have hd : items.drop i = [] := List.drop_eq_nil_of_le (by omega)
      rw [hd] at hf
      exact .inl ⟨stop (by omega), c.nx ρ2 σ2 H2 M2 Z2 (x1.trans x2) r2 e2 hf⟩
/-- while -/
theorem s_while {t : Expr} {et : E} {body : List Stmt} {sb : List S} {pos : Pos} (hp : PassesOwn (model X.prog X.w) X.A X.env X.xe) (ht : PT X t (rdT (ctx X ga) F et)) (hb : PSs X body (rdSs (ctx X ga) F sb)) : PS X (.While t body [] pos) (rdS (ctx X ga) F (.while_ et sb)) :=
  PS.imp (L2.ps_while hp ht hb) fun D σ H ⟨ρ, M, Z, D', r, e, ⟨n, h⟩, c⟩ => by
    refine ⟨fun m σ' H2 => ∃ ρ' M2 Z2, SR (ctx X ga) H2 M2 Z2 ∧ Ext H M Z H2 M2 Z2 ∧ EnvR (ctx X ga) H2 M2 Z2 ρ' σ' ∧ whileN (fun ρ1 M1 k => wpE F et ρ1 M1 fun x M2 => ∃ b, truS M2 x = some b ∧ if b = true then wpSs F sb ρ1 M2 ⟨k, D'.rt, D'.nx, k⟩ else D'.nx ρ1 M2) m ρ' M2,
      ⟨n, ρ, M, Z, r, Ext.refl, e, h⟩, ?_⟩
    rintro m σ2 H2 ⟨ρ2, M2, Z2, r2, x2, e2, hf⟩
    cases m with
    | zero => exact False.elim hf
    | succ m =>
      refine ⟨ρ2, M2, Z2, _, r2, e2, hf, fun b H3 M3 Z3 x3 r3 q => ?_⟩
      have x13 := x2.trans x3
      cases b with
      | false =>
        dsimp only at q ⊢
        rw [if_neg Bool.false_ne_true] at q ⊢
        exact c.nx ρ2 σ2 H3 M3 Z3 x13 r3 (e2.mono r2 x3) q
      | true =>
        dsimp only at q ⊢
        rw [if_pos rfl] at q ⊢
        refine ⟨fun σ' H2 => ∃ ρ' M2 Z2, SR (ctx X ga) H2 M2 Z2 ∧ Ext H M Z H2 M2 Z2 ∧ EnvR (ctx X ga) H2 M2 Z2 ρ' σ' ∧ whileN (fun ρ1 M1 k => wpE F et ρ1 M1 fun x M2 => ∃ b, truS M2 x = some b ∧ if b = true then wpSs F sb ρ1 M2 ⟨k, D'.rt, D'.nx, k⟩ else D'.nx ρ1 M2) m ρ' M2,
          fun σ' H' w => ⟨m, Nat.lt_succ_self m, w⟩, ρ2, M3, Z3, _, r3, e2.mono r2 x3, q, ⟨fun ρ5 σ5 H5 M5 Z5 x5 r5 e5 h5 => ⟨ρ5, M5, Z5, r5, x13.trans x5, e5, h5⟩, fun v u H5 M5 Z5 x5 r5 rv5 h5 => c.rt v u H5 M5 Z5 (x13.trans x5) r5 rv5 h5,
          fun ρ5 σ5 H5 M5 Z5 x5 r5 e5 h5 => c.nx ρ5 σ5 H5 M5 Z5 (x13.trans x5) r5 e5 h5, fun ρ5 σ5 H5 M5 Z5 x5 r5 e5 h5 => ⟨ρ5, M5, Z5, r5, x13.trans x5, e5, h5⟩⟩⟩
/-- a, b = x, y; a, b, c = x, y, z: plain local names -/
theorem s_par2 (hF : FMono F) {i j : Nat} {x y : Str} {a b : Expr} {ea eb : E} {px py pt pos : Pos} {kt k2 : Nat} {pt2 : Pos} (hc : X.calm = true) (hN : X.N.Nodup) (hi : X.N[i]? = some x) (hj : X.N[j]? = some y) (hij : i ≠ j)
    (hx : X.env.scope.names.lookup x = some .local) (hy : X.env.scope.names.lookup y = some .local) (ha : PA X [a, b] (rdL (ctx X ga) F [ea, eb]))
    (hw : swappedStores [.Tuple [.Name x px, .Name y py] kt pt] (.Tuple [a, b] k2 pt2) X.env = pure (some [x, y])) (hs : swapsWithSole [.Tuple [.Name x px, .Name y py] kt pt] (.Tuple [a, b] k2 pt2) pos.line X.env = pure false) :
    PS X (.Assign [.Tuple [.Name x px, .Name y py] kt pt] (.Tuple [a, b] k2 pt2) pos) (rdS (ctx X ga) F (.asg (.tp [.nm i, .nm j]) (.tup [ea, eb]))) :=
  PS.imp (L2.ps_par hc hN hi hj hij hx hy ha hw hs) fun D σ H ⟨ρ, M, Z, D', r, e, h, c⟩ => by
    have h : wpL F [ea, eb] ρ M (fun vs M1 => ∃ ρ', bindT (.tp [.nm i, .nm j]) (.tup vs) ρ = some ρ' ∧ D'.nx ρ' M1) := h
    refine ⟨ρ, M, Z, _, r, e, wpL_len hF _ _ _ _ h, fun vs xs H1 M1 Z1 x1 r1 rvs ⟨hl, ρ', h1, q⟩ => ?_⟩
    match vs, hl, rvs, h1 with
    | [v, w], _, rvs, h1 =>
      obtain ⟨u1, u2, rfl, ru1, ru2⟩ := rvs.two
      have h1' : (ρ.set i (some v)).set j (some w) = ρ' := Option.some.inj h1
      subst h1'
      exact ⟨u1, u2, rfl, c.nx _ _ _ _ _ x1 r1 (((e.mono r x1).set ru1 i).set ru2 j) q⟩
theorem s_par3 (hF : FMono F) {i j l : Nat} {x y z : Str} {a b d : Expr} {ea eb ed : E} {px py pz pt pos : Pos} {kt k2 : Nat} {pt2 : Pos} (hc : X.calm = true) (hN : X.N.Nodup) (hi : X.N[i]? = some x) (hj : X.N[j]? = some y) (hl : X.N[l]? = some z) (hij : i ≠ j) (hil : i ≠ l) (hjl : j ≠ l)
    (hx : X.env.scope.names.lookup x = some .local) (hy : X.env.scope.names.lookup y = some .local) (hz : X.env.scope.names.lookup z = some .local) (ha : PA X [a, b, d] (rdL (ctx X ga) F [ea, eb, ed]))
    (hw : swappedStores [.Tuple [.Name x px, .Name y py, .Name z pz] kt pt] (.Tuple [a, b, d] k2 pt2) X.env = pure (some [x, y, z])) (hs : swapsWithSole [.Tuple [.Name x px, .Name y py, .Name z pz] kt pt] (.Tuple [a, b, d] k2 pt2) pos.line X.env = pure false) :
    PS X (.Assign [.Tuple [.Name x px, .Name y py, .Name z pz] kt pt] (.Tuple [a, b, d] k2 pt2) pos) (rdS (ctx X ga) F (.asg (.tp [.nm i, .nm j, .nm l]) (.tup [ea, eb, ed]))) :=
  PS.imp (L2.ps_par3 hc hN hi hj hl hij hil hjl hx hy hz ha hw hs) fun D σ H ⟨ρ, M, Z, D', r, e, h, c⟩ => by
    have h : wpL F [ea, eb, ed] ρ M (fun vs M1 => ∃ ρ', bindT (.tp [.nm i, .nm j, .nm l]) (.tup vs) ρ = some ρ' ∧ D'.nx ρ' M1) := h
    refine ⟨ρ, M, Z, _, r, e, wpL_len hF _ _ _ _ h, fun vs xs H1 M1 Z1 x1 r1 rvs ⟨hl, ρ', h1, q⟩ => ?_⟩
    match vs, hl, rvs, h1 with
    | [v, w, t], _, .cons ru1 (.cons ru2 (.cons ru3 .nil)), h1 =>
      have h1' : ((ρ.set i (some v)).set j (some w)).set l (some t) = ρ' := Option.some.inj h1
      subst h1'
      exact ⟨_, _, _, rfl, c.nx _ _ _ _ _ x1 r1 ((((e.mono r x1).set ru1 i).set ru2 j).set ru3 l) q⟩
end
end SG
/-! sorted(set([x])), x a tuple of nested plain things -/
namespace SG
open PySem PySem.Spec PyProof.Rows L2
section
variable {P : Program} {w : World} {A : Around} {E : Value → Shared → Prop} {s : Shared}
theorem nAll_mem {h : Heap} : ∀ {ks : List NestedKey} {vs : List Value}, NestedAll h ks vs → ∀ v ∈ vs, ∃ k, NestedIs h k v
  | _, _, .nil, v, hv => by cases hv
  | _, _, .cons a b, v, hv => by
    rcases List.mem_cons.mp hv with e | hv
    · rw [e]; exact ⟨_, a⟩
    · exact nAll_mem b v hv
theorem hashBy_key (n : Nat) : ∀ {k : NestedKey} {v : Value} {Q : Bool → Shared → Prop}, NestedIs s.heap k v → (∀ b, Q b s) → wpAny (model P w) A (hashByValue n v) Q E s := by
  induction n with
  | zero =>
    intro k v Q x h
    cases x with
    | none => exact wpAny_pure (h true)
    | bool _ => exact wpAny_pure (h true)
    | int _ _ => exact wpAny_pure (h true)
    | text _ _ => exact wpAny_pure (h false)
    | tup _ _ _ _ => exact wpAny_pure (h false)
  | succ n ih =>
    intro k v Q x h
    cases x with
    | none => exact wpAny_pure (h true)
    | bool _ => exact wpAny_pure (h true)
    | int _ _ => exact wpAny_pure (h true)
    | text _ _ => exact wpAny_pure (h false)
    | @tup b o vs m ks ho hc hd hi =>
      unfold hashByValue
      refine wpAny_bind (wpAny_specialOf (T := "tuple") ⟨o, ho, hc⟩ F.slot_tuple_hash.lookup ?_)
      show wpAny _ _ (seqItems? (.ref b) >>= _) _ _ s
      refine wpAny_bind (wpAny_seqItems ho hd ?_)
      refine wpAny_bind ?_
      show wpAny _ _ (forIn vs _ _) _ _ s
      rw [← Array.forIn_toList]
      refine wpAny_forIn_list _ (fun rest r u => u = s ∧ ∀ v ∈ rest, ∃ k, NestedIs s.heap k v) _ ?_ ?_ _ _ ⟨rfl, nAll_mem hi⟩
      · rintro v rest r u ⟨rfl, hall⟩
        obtain ⟨k', hk'⟩ := hall v List.mem_cons_self
        refine wpAny_bind (ih hk' fun b => ?_)
        cases b with
        | true =>
          simp only [Bool.not_true, Bool.false_eq_true, if_false]
          exact wpAny_pure ⟨rfl, fun y hy => hall y (List.mem_cons_of_mem _ hy)⟩
        | false =>
          simp only [Bool.not_false, if_true]
          exact wpAny_pure (wpAny_pure (h false))
      · rintro ⟨r1, r2⟩ u ⟨rfl, _⟩
        cases r1 with
        | none => exact wpAny_pure (h _)
        | some b => exact wpAny_pure (h _)

/-! ### the first thing that a set gets -/
theorem tab_fresh (b : Bool) : TabOk (.fresh 0 0 b) [] := ⟨List.Pairwise.nil, rfl, rfl, .inl rfl, fun x hx => (by cases hx), fun i h j hi => (by simp at hi)⟩
theorem search_empty {S x : Addr} {hv : Int} {o : Obj} {ep : Nat} {b : Bool} (ho : s.heap.get? S = some o) (hd : o.data = .set #[] ep (.fresh 0 0 b)) {Q : SetFound → Shared → Prop} (h : Q (.free (way 7 hv 0) false) s) :
    wpAny (model P w) A (setSearch S (.ref x) hv true) Q E s := by
  unfold setSearch
  rw [show (100000 : Nat) = 99999 + 1 from rfl, setSearchFrom_succ]
  refine wpAny_bind (wpAny_setState_of ho hd rfl ?_)
  dsimp only
  refine wp_if_neg (by unfold SetTable.gaveWay; rw [show (SetTable.fresh 0 0 b).mask = 7 from rfl]; decide) ?_
  exact wpAny_pure h
/-- a set of one thing -/
structure Set1 (w : World) (h : Heap) (S x : Addr) : Prop where
  ex : ∃ (hv : Int) (ep : Nat) (t : SetTable), (∃ o, h.get? S = some o ∧ o.ExactSet ∧ o.data = .set #[(hv, .ref x)] ep t) ∧ t.fits 1 = true ∧ Ris t.place.toList ∧ (w.params.followText "set-order" = true ∨ t.led = true)
theorem add_first {S x : Addr} {k : NestedKey} {hv : Int} {o : Obj} {ep : Nat} {b : Bool} (ho : s.heap.get? S = some o) (hex : o.ExactSet) (hd : o.data = .set #[] ep (.fresh 0 0 b)) (hl : w.params.followText "set-order" = true ∨ b = true) (hx : NestedIs s.heap k (.ref x)) {Q : Bool → Shared → Prop}
    (hQ : ∀ z h', Heap.SameBut S s.heap h' → Set1 w h' S x → Q z { s with heap := h' }) : wpAny (model P w) A (setAddHashed S (.ref x) hv) Q E s := by
  unfold setAddHashed
  refine wpAny_holding ?_
  rw [show (100000 : Nat) = 99999 + 1 from rfl, setAddHashedIn_succ]
  refine wpAny_bind (wpAny_setState_of ho hd rfl ?_)
  dsimp only
  refine wp_if_neg (by simp [byScan, Value.scannable]) ?_
  try refine wpAny_bind (wpAny_pure ?_)
  refine wpAny_bind (search_empty ho hd ?_)
  dsimp only
  refine wpAny_bind (wpAny_setState_of ho hd rfl ?_)
  dsimp only
  obtain ⟨q1, q2, q3, q4, q5, q6, q7, q8, q9⟩ := (tab_fresh b).put (h := hv) (K := 0) (show _ ∉ ([] : List Nat) from List.not_mem_nil) (fun k hk => absurd hk (Nat.not_lt_zero _))
  have em : (SetTable.fresh 0 0 b).mask = 7 := rfl
  rw [em] at q1 q2 q3 q4 q5 q6 q7 q8 q9
  generalize hpt : (SetTable.fresh 0 0 b).put (way 7 hv 0) = pt at q1 q3 q4 q5 q6 q7 q8 q9 ⊢
  obtain ⟨t1, p⟩ := pt
  dsimp only at q1 q3 q4 q5 q6 q7 q8 q9 ⊢
  have p0 : p = 0 := by rw [q1]; exact Nat.le_zero.mp q2
  subst p0
  have fin : ∀ t2 : SetTable, t2.place = t1.place → t2.dummies = t1.dummies → t2.mask = t1.mask → t2.led = t1.led →
      wpAny (model P w) A (storeSet S (SetTable.insertAt #[] 0 (hv, Value.ref x)) t2 >>= fun _ => if (!false && t2.tooFull) = true then setRelay S (SetTable.grown ((#[] : Array (Int × Value)).size + 1)) >>= fun _ => pure true else pure true) Q E s := by
    intro t2 e1 e2 e3 e4
    have e5 : SetTable.insertAt (#[] : Array (Int × Value)) 0 (hv, Value.ref x) = #[(hv, Value.ref x)] := by
      apply Array.toList_inj.mp
      rw [SetTable.toList_insertAt]
      rfl
    rw [e5]
    refine wpAny_bind (wpAny_storeSet_of ho hd ?_ (show 1 ≤ sizeLine by decide))
    have psz : t1.place.size = 1 := by
      have := q3.sz
      simpa using this
    have nf : (!false && t2.tooFull) = false := by
      have : t2.tooFull = false := by
        unfold SetTable.tooFull SetTable.fill
        rw [e1, e2, e3, q3.dm, psz, q4]
        rfl
      rw [this]; rfl
    rw [nf]
    refine wp_if_neg (by decide) (wpAny_pure ?_)
    refine hQ true _ (Heap.SameBut.update ..) ⟨hv, ep + 1, t2, ⟨_, store_at ho hd, ⟨hex.1, hex.2.1, hex.2.2⟩, rfl⟩, ?_, by rw [e1]; exact q3.ris, ?_⟩
    · unfold SetTable.fits SetTable.fill
      rw [e1, e2, e3, q3.dm, psz, q4]
      rfl
    · rw [e4, q5]; exact hl
  have hp1 : t1.plain = true := by rw [q6]; rfl
  refine wp_if_pos hp1 (wpAny_bind (hashBy_key 8 hx fun c => ?_))
  cases c with
  | true => exact fin t1 rfl rfl rfl rfl
  | false => exact fin { t1 with plain := false } rfl rfl rfl rfl
abbrev emptySet (w : World) : Obj := { cls := .type "set", dict := none, data := .set #[] 0 (.fresh 0 0 (!w.params.followText "set-order")) }
abbrev setHp (w : World) (h : Heap) : Heap := h.push (emptySet w)
abbrev setIt (w : World) (h : Heap) (l : Addr) : Heap := (setHp w h).push { cls := .type "list_iterator", data := .fields #[.ref l, .int 0 0] }
/-- set(xs): T is what the loop over xs leaves at the set -/
theorem call_set_by {l : Addr} {items : Array Value} (T : Heap → Prop) {Q : Value → Shared → Prop} (hl : s.heap.IsList l items)
    (loop : ∀ (R : Result → Shared → Prop), (∀ h' tk, T h' → (∀ b o, s.heap.get? b = some o → h'.get? b = some o) → R (.ok (.ret .none)) { s with heap := h', toks := tk }) →
      codeAny (model P w) A.in1.in1 (.builtin "set.update.loop" ⟨[.ref s.heap.objs.size, .ref (setHp w s.heap).objs.size], []⟩) R { s with heap := setIt w s.heap l })
    (h : ∀ (h' : Heap) (tk : Nat), T h' → (∀ b o, s.heap.get? b = some o → h'.get? b = some o) → Q (.ref s.heap.objs.size) { s with heap := h', toks := tk }) :
    wpAny (model P w) A (call (.type "set") [.ref l]) Q E s := by
  obtain ⟨mroC, mroT, hmro⟩ := F.called_set.mro
  have hmade := F.called_set.made
  have hsub := F.called_set.sub
  refine wpAny_call (codeAny_of_tree ?_)
  show wpAny _ _ (callAny (.type "set") _) _ _ _
  refine wpAny_pure ⟨Code.quiet_builtin _ (by decide +kernel), codeAny_builtin F.entry_type_call ?_⟩
  rw [Around.under_plain (weight_type_call_type "set" [.ref l] []) rfl]
  have notT := F.called_set.notType
  have canC := F.called_set.canCreate
  have oneA := F.typeCall_set_1 (.ref l)
  repeat (any_goals (first | assumption | wp_step))
  refine codeAny_mono (code_set_led1 (.ref l) (E := E) (Q₁ := fun obj u => obj = .ref s.heap.objs.size ∧ u = { s with heap := setHp w s.heap }) ⟨rfl, rfl⟩) fun r u hr => ?_
  cases r with
  | error e => exact hr
  | ok fl =>
    cases fl with
    | ret obj =>
      obtain ⟨rfl, rfl⟩ := hr
      have atS : (setHp w s.heap).get? s.heap.objs.size = some (emptySet w) := Heap.get?_push_size _ rfl
      have tyS : Shared.TypeIs { s with heap := setHp w s.heap } (.ref s.heap.objs.size) "set" := ⟨_, atS, rfl⟩
      have lookI := F.called_set.init.lookup
      have bindI := F.called_set.init.bind (.ref s.heap.objs.size)
      repeat (any_goals (first | assumption | wp_step))
      refine codeAny_mono (codeAny_call_builtin (R := wants (fun r u => r = .none ∧ ∃ h' tk, u = { s with heap := h', toks := tk } ∧ T h' ∧ (∀ b o, s.heap.get? b = some o → h'.get? b = some o)) E) F.called_set.init.plain F.entry_set_init (check_set_init_1 tyS ?_)) fun r2 u2 hr2 => ?_
      · obtain ⟨ol, hol, hcl, nl, hdl⟩ := hl
        obtain ⟨ocls, odict, odata, oslots⟩ := ol
        simp only at hcl hdl
        subst hcl
        subst hdl
        have hol2 : (setHp w s.heap).get? l = some { cls := .type "list", dict := odict, data := .seq items nl, slots := oslots } := Heap.get?_push_of_some _ hol
        have isL2 : (setHp w s.heap).IsList l items := ⟨_, hol2, rfl, nl, rfl⟩
        have noS := F.sub_list_set
        have noF := F.sub_list_frozenset
        have noD : (Value.type "list" == Value.type "dict") = false := by decide
        unfold Builtin.«set.__init__» noKeywords Builtin.Frozenset.updateFrom
        generalize gPI : pyIter = PI
        wp_walk
        subst gPI
        refine wpAny_pyIter_list isL2 ?_
        refine wpAny_bind (wpAny_runValue ?_)
        refine loop _ fun h' tk hT hk => ?_
        show wpAny _ _ _ _ _ _
        refine wpAny_pure ?_
        show wpAny _ _ (ret Value.none) _ _ _
        exact wpAny_pure ⟨rfl, h', tk, rfl, hT, hk⟩
      · cases r2 with
        | error e => exact hr2
        | ok fl2 =>
          cases fl2 with
          | ret r =>
            obtain ⟨rfl, h', tk, rfl, hT, hk⟩ := hr2
            repeat (any_goals (first | assumption | wp_step))
            exact h _ _ hT hk
          | _ => exact hr2.elim
    | _ => exact hr.elim
end
end SG
namespace SG
open PySem PySem.Spec PyProof.Rows L2
section
variable {P : Program} {w : World} {A : Around} {E : Value → Shared → Prop} {s : Shared}
theorem nIs_keep {h h' : Heap} {k : NestedKey} {v : Value} (x : NestedIs h k v) (hk : ∀ b o, h.get? b = some o → h'.get? b = some o) : NestedIs h' k v := NestedIs.at (fun a o _ _ e _ => hk a o e) k v x
/-- set([x]) -/
theorem call_set_one {l x : Addr} {k : NestedKey} {Q : Value → Shared → Prop} (hh : A.handled = none) (hl : s.heap.IsList l #[.ref x]) (hx : NestedIs s.heap k (.ref x)) (hdp : k.depth ≤ 8) (hu : A.units + 20 < cLine)
    (h : ∀ (h' : Heap) (tk : Nat), Set1 w h' s.heap.objs.size x → (∀ b o, s.heap.get? b = some o → h'.get? b = some o) → Q (.ref s.heap.objs.size) { s with heap := h', toks := tk }) :
    wpAny (model P w) A (call (.type "set") [.ref l]) Q E s := by
  refine call_set_by (fun h' => Set1 w h' s.heap.objs.size x) hl (fun R hR => ?_) h
  have hlt : l < s.heap.objs.size := Heap.lt_size hl.choose_spec.1
  have zH : (setHp w s.heap).objs.size = s.heap.objs.size + 1 := Heap.size_push ..
  have hne : l ≠ (setHp w s.heap).objs.size := by rw [zH]; exact Nat.ne_of_lt (Nat.lt_succ_of_lt hlt)
  have hh3 : A.in1.in1.in1.handled = none := by simp [hh]
  have W := (Walks.list (prog := P) (w := w) hh3 (setHp w s.heap).objs.size l hne #[.ref x]).toS
  have atS : (setIt w s.heap l).get? s.heap.objs.size = some (emptySet w) := Heap.get?_push_of_some _ (Heap.get?_push_size _ rfl)
  have isL : (setIt w s.heap l).IsList l #[.ref x] := (hl.push _).push _
  have old : ∀ b o, s.heap.get? b = some o → (setIt w s.heap l).get? b = some o := fun b o e => Heap.get?_push_of_some _ (Heap.get?_push_of_some _ e)
  have nS : s.heap.objs.size ∉ [(setHp w s.heap).objs.size] := by rw [zH]; simp
  have nS2 : s.heap.objs.size ∉ [(setHp w s.heap).objs.size, l] := by
    rw [zH]
    simp only [List.mem_cons, List.not_mem_nil, or_false, not_or]
    exact ⟨Nat.ne_of_lt (Nat.lt_succ_self _), Nat.ne_of_gt hlt⟩
  have nIt : ∀ b o, s.heap.get? b = some o → b ∉ [(setHp w s.heap).objs.size] := fun b o e z => by
    have := Heap.lt_size e
    rw [List.mem_singleton.mp z, zH] at this
    exact absurd this (Nat.not_lt_of_le (Nat.le_succ _))
  -- the one thing
  refine codeAny_builtin F.entry_set_update_loop ?_
  rw [Around.under_plainId F.plain_set_update_loop _]
  show wpAny _ A.in1.in1.in1 (pyNext (.ref (setHp w s.heap).objs.size) >>= _) _ _ _
  refine wpAny_bind (W.item 0 _ _ _ (Nat.zero_lt_one) ⟨⟨_, Heap.get?_push_size _ rfl, rfl, rfl⟩, isL⟩ fun v u hv st1 mv => ?_)
  have hv : (#[Value.ref x] : Array Value)[0]? = some v := hv
  cases hv
  have keep1 : ∀ b o, s.heap.get? b = some o → u.heap.get? b = some o := fun b o e => mv.heap b o (nIt b o e) (old b o e)
  have atS1 : u.heap.get? s.heap.objs.size = some (emptySet w) := mv.heap _ _ nS atS
  have hx1 : NestedIs u.heap k (.ref x) := nIs_keep hx keep1
  show wpAny _ A.in1.in1.in1 (holding [Value.ref x] (setAdd s.heap.objs.size (.ref x)) >>= _) _ _ u
  refine wpAny_bind (wpAny_holding ?_)
  unfold setAdd
  refine wpAny_holding ?_
  refine wpAny_bind ((nestedKind P w).pyHash (A := A.in1.in1.in1) (k := k) (show A.units + 1 + 1 + 1 + 8 < cLine by omega) ⟨hx1, hdp⟩ ?_)
  refine add_first (s := { u with toks := u.toks + (nestedKind P w).draws k }) atS1 ⟨rfl, rfl, rfl⟩ rfl (by cases w.params.followText "set-order" <;> simp) hx1 fun z h2 sb one => ?_
  have keep2 : ∀ b o, s.heap.get? b = some o → h2.get? b = some o := fun b o e => (sb.2 b fun q => by
    have := Heap.lt_size e
    rw [q] at this
    exact absurd this (Nat.lt_irrefl _)).trans (keep1 b o e)
  -- the end
  have st2 := W.frame 1 u h2 (u.toks + (nestedKind P w).draws k) st1 (Nat.le_add_right _ _) fun b hb o e => (sb.2 b fun q => nS2 (by rw [← q]; exact hb)).trans e
  refine wpAny_pure ⟨plainId_quiet F.plain_set_update_loop _, ?_⟩
  refine codeAny_builtin F.entry_set_update_loop ?_
  rw [Around.under_plainId F.plain_set_update_loop _]
  show wpAny _ A.in1.in1.in1 (pyNext (.ref (setHp w s.heap).objs.size) >>= _) _ _ _
  refine wpAny_bind (W.done _ _ _ st2 fun v mv2 => ?_)
  show wpAny _ A.in1.in1.in1 (ret Value.none) _ _ v
  refine wpAny_pure ?_
  obtain ⟨h3, g3, d3, tk3, os3⟩ := v
  have eg : g3 = s.gens := mv2.gens.trans mv.gens
  have ed : d3 = s.drawn := mv2.drawn.trans mv.drawn
  have eo : os3 = s.os := mv2.os.trans mv.os
  subst eg
  subst ed
  subst eo
  refine hR h3 tk3 ?_ fun b o e => mv2.heap b o (nIt b o e) (keep2 b o e)
  obtain ⟨hv, ep, t, ⟨o, ho, r1⟩, r2⟩ := one.ex
  exact ⟨hv, ep, t, ⟨o, mv2.heap _ _ nS ho, r1⟩, r2⟩
/-- sorted of it -/
theorem sorted_one {a x : Addr} {d : PyData} {as : List Addr} {Q : Value → Shared → Prop} (R : Set1 w s.heap a x) (hh : A.handled = none) (rd : Reads s.heap (.ref x) d as) (hd : ∃ y r, d = .tuple (y :: r)) (hal : PySem.W.alike d d = true) (hu : A.units + d.depth + 20 < cLine)
    (hQ : ∀ s' p (c : Nat), (∀ b o, s.heap.get? b = some o → s'.heap.get? b = some o) → s'.gens = s.gens → s'.os = s.os → s.heap.objs.size ≤ p → s'.heap.get? p = some (seqObj "list" #[.ref x] c) → Q (.ref p) s') :
    wpAny (model P w) A (call (.builtin "sorted") [.ref a]) Q E s := by
  obtain ⟨hv, ep, t, ⟨o, ho, hex, hd2⟩, fit, ris, led⟩ := R.ex
  refine Calls.call_function_entry kind_sorted plain_sorted entry_sorted (args_sorted1 _) ?_
  unfold Builtin.«sorted»
  refine wpAny_bind (m := checkCount "sorted" 1 1 _) (wpAny_pure ?_)
  refine wpAny_bind (collect_set (A := A.in1) hh ⟨o, ho, hex.1, hd2⟩ fit (show 1 < scanBound by decide) ris led fun s1 vs k1 hz g1 o1 pm => ?_)
  have ev : vs = [.ref x] := List.perm_singleton.mp pm
  subst ev
  refine wpAny_bind (wpAny_newList ?_ (show 1 ≤ sizeLine by decide))
  have hoL : (s1.heap.push (seqObj "list" #[.ref x] 0)).get? s1.heap.objs.size = some (seqObj "list" #[.ref x] 0) := Heap.get?_push_size _ rfl
  have k2 : ∀ b o, s.heap.get? b = some o → (s1.heap.push (seqObj "list" #[.ref x] 0)).get? b = some o := fun b o e => Heap.get?_push_of_some _ (k1 b o e)
  have rd1 : Reads (s1.heap.push (seqObj "list" #[.ref x] 0)) (.ref x) d as := PyProof.Rows.Reads.keeps k2 rd
  have fresh : s1.heap.objs.size ∉ as := fun z => by
    obtain ⟨o', e'⟩ := PyProof.On.reads_mem_get rd _ z
    exact absurd (Heap.lt_size (k1 _ _ e')) (Nat.lt_irrefl _)
  refine wpAny_bind (wpAny_holding (PySem.W.list_sort_data (s := { s1 with heap := s1.heap.push (seqObj "list" #[.ref x] 0) }) (vs := [.ref x]) (bs := [d]) (enc := id) (R := fun v _ => v = .ref x) hoL (.cons rfl .nil) (.cons ⟨as, rd1, fresh⟩ .nil)
    (fun a ha b hb => by
      rw [List.mem_singleton.mp ha, List.mem_singleton.mp hb]
      exact hal) (.inl fun a ha => by
      rw [List.mem_singleton.mp ha]
      exact hd) (show 1 ≤ sizeLine by decide) (fun b hb => by
      rw [List.mem_singleton.mp hb]
      show A.units + 1 + 1 + d.depth < cLine
      omega) fun out hlen each => ?_))
  have eo : out = [.ref x] := by
    match out, hlen, each with
    | [v], _, each =>
      rw [List.mergeSort_singleton] at each
      cases each with
      | cons e _ => rw [e]
  subst eo
  obtain ⟨c, hc⟩ := sortedHeap_at (vs := [.ref x]) (out := #[.ref x]) hoL
  refine wpAny_pure ⟨_, rfl, hQ _ s1.heap.objs.size c (fun b u e => ?_) g1 o1 hz hc⟩
  have q := k1 b u e
  have hlt := Heap.lt_size q
  show (sortedHeap (s1.heap.push (seqObj "list" #[.ref x] 0)) s1.heap.objs.size [.ref x] #[.ref x]).get? b = some u
  rw [sortedHeap_old (Nat.ne_of_lt hlt) (by rw [size_push']; exact Nat.lt_succ_of_lt hlt)]
  exact Heap.get?_push_of_some _ q
end
end SG
namespace SG
open PySem PySem.Spec PyProof.Rows L2
mutual
theorem nis_of {h : Heap} : ∀ (v : PV) {u : Value} {as : List Addr} {k : NestedKey}, Reads h u v.dat as → v.key = some k → NestedIs h k u
  | .non, u, as, k, r, e => by
    unfold PV.dat at r; unfold PV.key at e
    cases e; cases r
    exact .none
  | .bl b, u, as, k, r, e => by
    unfold PV.dat at r; unfold PV.key at e
    cases e; cases r
    exact .bool rfl
  | .int i, u, as, k, r, e => by
    unfold PV.dat at r; unfold PV.key at e
    cases e; cases r
    exact .int _ _
  | .str x, u, as, k, r, e => by
    unfold PV.dat at r; unfold PV.key at e
    cases e; cases r
    exact .text _ _
  | .tup xs, u, as, k, r, e => by
    unfold PV.dat at r; unfold PV.key at e
    obtain ⟨ks, e1, rfl⟩ := Option.map_eq_some_iff.mp e
    cases r with
    | tuple h1 h2 h3 h4 => exact .tup h1 h2 h3 (nall_of xs h4 e1)
  | .lst _, u, as, k, r, e => by unfold PV.key at e; cases e
  | .ref _, u, as, k, r, e => by unfold PV.key at e; cases e
  | .fn _, u, as, k, r, e => by unfold PV.key at e; cases e
  | .emp, u, as, k, r, e => by unfold PV.key at e; cases e
theorem nall_of {h : Heap} : ∀ (xs : List PV) {us : List Value} {as : List Addr} {ks : List NestedKey}, ReadsAll h us (PV.dats xs) as → PV.keys xs = some ks → NestedAll h ks us
  | [], us, as, ks, r, e => by
    unfold PV.dats at r; unfold PV.keys at e
    cases e; cases r
    exact .nil
  | x :: xs, us, as, ks, r, e => by
    unfold PV.dats at r; unfold PV.keys at e
    cases e1 : PV.key x with
    | none => rw [e1] at e; cases e
    | some k =>
      cases e2 : PV.keys xs with
      | none => rw [e1, e2] at e; cases e
      | some kr =>
        rw [e1, e2] at e
        cases e
        cases r with
        | cons r1 r2 => exact .cons (nis_of x r1 e1) (nall_of xs r2 e2)
end
mutual
theorem alike_dat : ∀ (v : PV), v.pl = true → PySem.W.alike v.dat v.dat = true
  | .non, _ => by unfold PV.dat; rfl
  | .bl _, _ => by unfold PV.dat; rfl
  | .int _, _ => by unfold PV.dat; rfl
  | .str _, _ => by unfold PV.dat; rfl
  | .tup xs, h => by unfold PV.dat PySem.W.alike; exact alike_dats xs (by unfold PV.pl at h; exact h)
  | .lst xs, h => by unfold PV.dat PySem.W.alike; exact alike_dats xs (by unfold PV.pl at h; exact h)
  | .ref _, h => by unfold PV.pl at h; cases h
  | .fn _, h => by unfold PV.pl at h; cases h
  | .emp, h => by unfold PV.pl at h; cases h
theorem alike_dats : ∀ (xs : List PV), PV.pls xs = true → PySem.W.alikeAll (PV.dats xs) (PV.dats xs) = true
  | [], _ => by unfold PV.dats PySem.W.alikeAll; rfl
  | x :: r, h => by
    unfold PV.pls at h
    rw [Bool.and_eq_true_iff] at h
    unfold PV.dats PySem.W.alikeAll
    rw [alike_dat x h.1, alike_dats r h.2]
    rfl
end
section
variable {X : Cx} {ga : Str → Option Addr} {F : FS}
def setO (w : World) (a x : Addr) : HO := .ext fun h => Set1 w h a x
theorem setO_ok {P : Program} {w : World} {H : Hp} {h : Heap} {a x : Addr} (R : Set1 w h a x) : ObjOk P w H h a (setO w a x) := by
  obtain ⟨hv, ep, t, ⟨o, ho, r⟩, q⟩ := R.ex
  refine ⟨R, ⟨o, ho⟩, fun h1 h2 p k => ?_⟩
  obtain ⟨hv', ep', t', ⟨o', ho', r'⟩, q'⟩ := Set1.ex p
  exact ⟨hv', ep', t', ⟨o', k o' ho', r'⟩, q'⟩
def rSet1 (K : PySem.W.Frag) (w : World) : List V → Hp → VK → Prop := fun xs H Q => ∃ (l x : Addr) (v : PV) (k : NestedKey), xs = [.ref l] ∧ SqL K H l [.ref x] ∧ Dp K H (.ref x) v.dat ∧ v.key = some k ∧ k.depth ≤ 8 ∧ ∀ a, H a = none → Q (.ref a) (upd H a (setO w a x))
theorem cr_set1 (hc : X.calm = true) (hu : X.A.units + 65 < cLine) : CallR X (.type "set") (rSet1 X.K X.w) := by
  intro pins s σ H xs us Q I rx h
  obtain ⟨l, x, v, k, rfl, hl, hd, hk, h8, q⟩ := h
  rw [Vals.ref1 rx]
  obtain ⟨its, rv, pl, hz⟩ := I.list hl
  obtain ⟨u, rfl, ru⟩ := rv.one
  obtain ⟨as, rd⟩ := Dp.reads I _ _ u hd ru
  cases ru
  have hn : H s.heap.objs.size = none := I.hok.fresh (Nat.le_refl _)
  refine call_set_one (I.ok.hd hc) pl.isList (nis_of v rd hk) h8 (by omega) fun h' tk one hkp => ?_
  exact ⟨.ref s.heap.objs.size, upd H s.heap.objs.size (setO X.w s.heap.objs.size x), I.laid (t' := tk) hkp (Nat.le_refl _) (setO_ok one), rfl, q _ hn⟩
def rSort1 (K : PySem.W.Frag) (w : World) : List V → Hp → VK → Prop := fun xs H Q => ∃ (a x : Addr) (y : PV) (r : List PV), xs = [.ref a] ∧ H a = some (setO w a x) ∧ Dp K H (.ref x) (PV.tup (y :: r)).dat ∧ (PV.tup (y :: r)).pl = true ∧ (PV.tup (y :: r)).dep ≤ 40 ∧ ∀ p, H p = none → Q (.ref p) (upd H p (.lst [.ref x]))
theorem cr_sort1 (hc : X.calm = true) (hu : X.A.units + 65 < cLine) : CallR X (.builtin "sorted") (rSort1 X.K X.w) := by
  intro pins s σ H xs us Q I rx h
  obtain ⟨a, x, y, r, rfl, ha, hd, hp, h40, q⟩ := h
  rw [Vals.ref1 rx]
  have R : Set1 X.w s.heap a x := (I.hok a _ ha).1
  obtain ⟨as, rd⟩ := Dp.reads I _ _ (.ref x) hd rfl
  refine sorted_one R (I.ok.hd hc) rd ⟨y.dat, PV.dats r, by rw [PV.dat, PV.dats]⟩ (alike_dat _ hp) (by rw [PV.dat_dep]; omega) fun s' p c k g o hle hg => ?_
  have hn : H p = none := I.hok.fresh hle
  have J : L2.Inv X pins σ (upd H p (.lst [.ref x])) { s with heap := s'.heap, gens := s'.gens, drawn := s'.drawn, toks := s'.toks } :=
    I.call (ch := []) (Un.laid k hle hn) (I.hok.laid k hle ⟨show 1 ≤ sizeLine by decide, [.ref x], c, .cons rfl .nil, hg⟩) (by rw [g]; exact I.bare) (fun _ z => nomatch z)
  have e : s' = { s with heap := s'.heap, gens := s'.gens, drawn := s'.drawn, toks := s'.toks } := by
    cases s'
    cases s
    cases o
    rfl
  rw [e]
  exact ⟨.ref p, _, J, rfl, q p hn⟩
/-- sorted(set(x)) -/
theorem ps_sset {mt : Bool} {p p2 pos pos2 : Pos} {a : Expr} {ea : E} (hc : X.calm = true) (hu : X.A.units + 65 < cLine) (hg : Gl X "sorted") (hm : X.mg "sorted" = none) (hg2 : Gl X "set") (hm2 : X.mg "set" = none) (ha : PE X a (rd (ctx X ga) F ea)) (he : starEach [a] X.env = [(false, eval a X.env)]) :
    PE X (.Call (.Name "sorted" p) [.Call (.Name "set" p2) [a] [] pos2] [] pos) (rd (ctx X ga) F (.sset mt ea)) := by
  have hset : PE X (.Call (.Name "set" p2) [a] [] pos2) (tCB (rSet1 X.K X.w) (tCons (rd (ctx X ga) F ea) tNil)) :=
    pe_callTy (cr_set1 hc hu) hg2 hm2 (by decide +kernel) (pa_cons ha pa_nil he) (by decide) (by decide) he rfl
  refine PE.imp (pe_callB (cr_sort1 hc hu) hg hm (by decide +kernel) (pa_cons hset pa_nil rfl) (by decide) (by decide) rfl rfl) fun σ H Q ⟨ρ, M, Z, Q', r, e, h, c⟩ => ?_
  refine ⟨ρ, M, Z, _, r, e, h, fun v x H1 M1 Z1 x1 r1 rv h1 => ?_⟩
  obtain ⟨y, t, k, hlo, hk, h8, hp, h40, q⟩ := h1
  obtain ⟨l, ws, rfl, hq, lr⟩ := rv.lo_inv r1 hlo
  obtain ⟨u, rfl, ru⟩ := lr.one
  obtain ⟨b, us, rfl, hb, lb⟩ := ru.tup_inv
  have d1 := ru.dp hp
  refine ⟨l, b, _, k, rfl, hq.sq, d1, hk, h8, fun s hs => ?_⟩
  have r2 : SR (ctx X ga) (upd H1 s (setO X.w s b)) M1 Z1 := r1.new hs
  have x2 : Ext H1 M1 Z1 (upd H1 s (setO X.w s b)) M1 Z1 := Ext.new hs
  have ru2 := ru.mono r1 x2
  refine ⟨s, b, y, t, rfl, upd_same, ru2.dp hp, hp, h40, fun p hp' => ?_⟩
  exact Clo.newL (mt := mt) (fun v x H' M' Z' y => c v x H' M' Z' ((x1.trans x2).trans y)) r2 (.cons ru2 .nil) q hp'
end
end SG
namespace SG
open PySem PySem.Spec PyProof.Rows L2

/-! ### defs -/
structure Rm (k : Nat) (A : Around) : Prop where
  room : Room k A
  gd : A.guards = some []
/-- the def at f does what g says, where there is room for k calls -/
structure FnG (P : Program) (w : World) (K : PySem.W.Frag) (mg : Str → Option Value) (base : Heap) (ga : Str → Option Addr) (k : Nat) (f : Addr) (g : List PV → Sto → Q1 → Prop) : Prop where
  kp : PySem.W.keepIn K (.ref f) = true
  run : ∀ (A : Around) (outer : List Env) (s : Shared) (H : Hp) (us : List Value) (vs : List V) (Q : VK), Rm k A → Env0 P w K mg base A outer s H → Vals vs us → rc ⟨P, w, K, ga⟩ g vs H Q →
    codeAny (model P w) A (.call (.ref f) ⟨us, []⟩) (CR CX0 outer P w H s Q E0) s
section
variable {X : Cx} {ga : Str → Option Addr} {F : FS}
theorem FnG.callR {k : Nat} {f : Addr} {g : List PV → Sto → Q1 → Prop} (h : FnG X.prog X.w X.K X.mg X.base ga k f g) (hr : Rm k X.A) : CallR X (.ref f) (rc (ctx X ga) g) := by
  intro pins s σ H vs us Q I rv q
  refine wpAny_call (codeAny_mono (h.run X.A X.stack s H us vs Q hr I.env0 rv q) fun r s' hq => ?_)
  cases r with
  | error e => exact hq.elim
  | ok fl =>
    cases fl with
    | ret u => exact I.after hq
    | next => exact False.elim hq
    | brk => exact False.elim hq
    | cont => exact False.elim hq
/-- what the text is made of: its defs, its constants -/
structure Nfo where
  fns : List Str
  cns : List (Str × PV)
def bltNames : List Str := ["len", "abs", "max", "min", "sum", "all", "any", "int", "str", "repr", "tuple", "list", "sorted", "isinstance", "bool", "range", "zip", "enumerate", "set", "dict", "reversed"]
structure Gd (n : Nfo) (F : FS) (ga : Str → Option Addr) (k : Nat) (sc : Scope) (N : List Str) (X : Cx) : Prop where
  hN : X.N = N
  hsc : X.env.scope = sc
  kind : sc.kind = .function
  calm : X.calm = true
  nd : X.N.Nodup
  xe : X.xe = fun _ _ => False
  rm : Rm k X.A
  fns : ∀ f ∈ n.fns, ∃ a, ga f = some a ∧ X.mg f = some (.ref a) ∧ FnG X.prog X.w X.K X.mg X.base ga k a (F f)
  dom : ∀ f vs M Q, F f vs M Q → f ∈ n.fns
  known : ∀ f a, ga f = some a → f ∈ n.fns
  cns : ∀ c v, n.cns.lookup c = some v → ∃ x u, X.mg c = some u ∧ RelV x u ∧ ∀ H M Z, Rep (ctx X ga) H M Z v x
  blt : ∀ b ∈ bltNames, X.mg b = none
  mono : FMono F
variable {n : Nfo} {k : Nat} {sc : Scope} {N : List Str}
theorem Gd.hu (g : Gd n F ga k sc N X) : X.A.units + 65 < cLine := by have := g.rm.room.un; omega
theorem Gd.blk (g : Gd n F ga k sc N X) {scope : Scope} (hk : scope.kind = .function) (s : Shared) (H : Hp) (C : Addr) (cl : List (Str × Addr)) (fp : List Addr) : Gd n F ga k (relS scope sc) N (X.blk s H scope (compEnvC scope cl C X.env) fp) :=
  ⟨g.hN, by rw [← g.hsc]; rfl, hk, g.calm, g.nd, rfl, g.rm, g.fns, g.dom, g.known, g.cns, g.blt, g.mono⟩
theorem Gd.passes (g : Gd n F ga k sc N X) : PassesOwn (model X.prog X.w) X.A X.env X.xe := by rw [g.xe]; exact PassesOwn.never
end

/-! ### the look -/
mutual
def PV.same : PV → PV → Bool
  | .non, .non => true
  | .bl a, .bl b => a == b
  | .int i, .int j => i == j
  | .str x, .str y => x == y
  | .tup xs, .tup ys => PV.sames xs ys
  | _, _ => false
def PV.sames : List PV → List PV → Bool
  | [], [] => true
  | x :: r, y :: t => PV.same x y && PV.sames r t
  | _, _ => false
end
mutual
theorem PV.same_eq : ∀ {v w : PV}, PV.same v w = true → v = w
  | .non, w, h => by cases w <;> first | rfl | cases h
  | .bl a, w, h => by
    cases w with
    | bl b => unfold PV.same at h; rw [beq_iff_eq.mp h]
    | _ => cases h
  | .int a, w, h => by
    cases w with
    | int b => unfold PV.same at h; rw [beq_iff_eq.mp h]
    | _ => cases h
  | .str a, w, h => by
    cases w with
    | str b => unfold PV.same at h; rw [beq_iff_eq.mp h]
    | _ => cases h
  | .tup a, w, h => by
    cases w with
    | tup b => unfold PV.same at h; rw [PV.sames_eq h]
    | _ => cases h
  | .lst _, w, h => by cases w <;> cases h
  | .ref _, w, h => by cases w <;> cases h
  | .fn _, w, h => by cases w <;> cases h
  | .emp, w, h => by cases w <;> cases h
theorem PV.sames_eq : ∀ {v w : List PV}, PV.sames v w = true → v = w
  | [], [], _ => rfl
  | [], _ :: _, h => by cases h
  | _ :: _, [], h => by cases h
  | x :: r, y :: t, h => by
    unfold PV.sames at h
    obtain ⟨h1, h2⟩ := Bool.and_eq_true_iff.mp h
    rw [PV.same_eq h1, PV.sames_eq h2]
end
def visB (sc : Scope) (x : Str) : Bool := match sc.names.lookup x with
  | some .local => true
  | some .cell => true
  | some .free => true
  | _ => false
def locB (sc : Scope) (x : Str) : Bool := match sc.names.lookup x with
  | some .local => true
  | some .cell => true
  | _ => false
def glB (sc : Scope) (x : Str) : Bool := match sc.names.lookup x with
  | some .globalImplicit => true
  | _ => false
def nmB (x : Str) : Bool := !(x == ("__debug__" : Str)) && !(x == ("__classdict__" : Str))
def noStar : Expr → Bool
  | .Starred .. => false
  | _ => true
def noSlice : Expr → Bool
  | .Slice .. => false
  | _ => true
def noComp : Expr → Bool
  | .ListComp .. => false
  | .SetComp .. => false
  | .DictComp .. => false
  | _ => true
def noSet : Expr → Bool
  | .Set .. => false
  | _ => true
def noCall : Expr → Bool
  | .Call .. => false
  | _ => true
def all2 {α β : Type} (f : α → β → Bool) : List α → List β → Bool
  | [], [] => true
  | x :: r, y :: t => f x y && all2 f r t
  | _, _ => false
mutual
def tgB (N : List Str) (sc : Scope) : Tg → Expr → Bool
  | .nm i, e => (match e with
    | .Name x _ => locB sc x && decide (N[i]? = some x)
    | _ => false)
  | .tp gs, e => (match e with
    | .Tuple es _ _ => tgBs N sc gs es
    | _ => false)
def tgBs (N : List Str) (sc : Scope) : List Tg → List Expr → Bool
  | [], es => (match es with
    | [] => true
    | _ => false)
  | g :: gs, es => (match es with
    | e :: r => tgB N sc g e && tgBs N sc gs r
    | [] => false)
end
mutual
def tgOwn : Tg → Expr → List (Str × Nat)
  | .nm i, e => (match e with
    | .Name x _ => [(x, i)]
    | _ => [])
  | .tp gs, e => (match e with
    | .Tuple es _ _ => tgOwns gs es
    | _ => [])
def tgOwns : List Tg → List Expr → List (Str × Nat)
  | [], _ => []
  | g :: gs, es => (match es with
    | e :: r => tgOwn g e ++ tgOwns gs r
    | [] => [])
end
def isTuple : Expr → Bool
  | .Tuple .. => true
  | _ => false
def chkI (f : Expr → E → Bool) (sc : Scope) (tg iter : Expr) : It → Bool
  | .val ev => f iter ev
  | .rng ev => (match iter with
    | .Call (.Name r _) [y] [] _ => r == ("range" : Str) && glB sc r && noStar y && f y ev
    | _ => false)
  | .rng2 ea eb => (match iter with
    | .Call (.Name r _) [y, z] [] _ => r == ("range" : Str) && glB sc r && noStar y && noStar z && f y ea && f z eb
    | _ => false)
  | .zip [ea, eb] => (match iter with
    | .Call (.Name r _) [y, z] [] _ => r == ("zip" : Str) && isTuple tg && glB sc r && noStar y && noStar z && f y ea && f z eb
    | _ => false)
  | .zip [ea, eb, ec] => (match iter with
    | .Call (.Name r _) [y, z, u] [] _ => r == ("zip" : Str) && isTuple tg && glB sc r && noStar y && noStar z && noStar u && f y ea && f z eb && f u ec
    | _ => false)
  | .zip _ => false
  | .enm ev => (match iter with
    | .Call (.Name r _) [y] [] _ => r == ("enumerate" : Str) && isTuple tg && glB sc r && noStar y && f y ev
    | _ => false)
def compB (f : Scope → Expr → E → Bool) (N : List Str) (sc : Scope) (x tg iter : Expr) (ifs : List Expr) (scope : Scope) (g : Tg) (it : It) (c : Option E) (elt : E) : Bool :=
  blkC N sc scope (tgOwn g tg) && tgB N scope g tg && noSet iter && f (relS scope sc) x elt &&
    (match ifs, c with | [], none => true | [t], some et => f (relS scope sc) t et | _, _ => false) && chkI (f sc) sc tg iter it
def chkE (n : Nfo) (N : List Str) : Nat → Scope → Expr → E → Bool
  | 0, _, _, _ => false
  | k + 1, sc, e, ee => match e with
    | .BoolOp _ [x] _ => chkE n N k sc x ee
    | e => match ee with
      | .var i => (match e with
        | .Name x _ => visB sc x && nmB x && decide (N[i]? = some x)
        | _ => false)
      | .cst v => (match e with
        | .Constant (.int i) _ _ => PV.same v (.int i)
        | .Constant (.bool b) _ _ => PV.same v (.bl b)
        | .Constant (.str b) _ _ => PV.same v (.str b)
        | .Constant .none _ _ => PV.same v .non
        | .Name x _ => glB sc x && nmB x && (match v with
          | .fn f => f == x && n.fns.contains x
          | v => match n.cns.lookup x with
            | some w => PV.same v w
            | none => false)
        | _ => false)
      | .bin op a b => (match e with
        | .BinOp l o r _ => decide (o = opOf op) && chkE n N k sc l a && chkE n N k sc r b
        | _ => false)
      | .neg a => (match e with
        | .UnaryOp .USub x _ => chkE n N k sc x a
        | _ => false)
      | .cmp op a b => (match e with
        | .Compare l [o] [r] _ => decide (o = cpOf op) && noSet r && chkE n N k sc l a && chkE n N k sc r b
        | _ => false)
      | .chain op op' a b c => (match e with
        | .Compare l [o, o'] [r, t] _ => decide (o = cpOf op) && decide (o' = cpOf op') && noSet t && chkE n N k sc l a && chkE n N k sc r b && chkE n N k sc t c
        | _ => false)
      | .and a b => (match e with
        | .BoolOp .And (x :: y :: rest) p => chkE n N k sc x a && chkE n N k sc (.BoolOp .And (y :: rest) p) b
        | _ => false)
      | .or a b => (match e with
        | .BoolOp .Or (x :: y :: rest) p => chkE n N k sc x a && chkE n N k sc (.BoolOp .Or (y :: rest) p) b
        | _ => false)
      | .not a => (match e with
        | .UnaryOp .Not x _ => chkE n N k sc x a
        | _ => false)
      | .ite c a b => (match e with
        | .IfExp t x y _ => chkE n N k sc t c && chkE n N k sc x a && chkE n N k sc y b
        | _ => false)
      | .tup es => (match e with
        | .Tuple xs _ _ => xs.all noStar && all2 (chkE n N k sc) xs es && decide (es.length ≤ 1000)
        | _ => false)
      | .lst _ es => (match e with
        | .List xs _ => xs.all noStar && all2 (chkE n N k sc) xs es && decide (es.length ≤ 1000)
        | _ => false)
      | .emp => false
      | .ix a b => (match e with
        | .Subscript v s _ => noSlice s && chkE n N k sc v a && chkE n N k sc s b
        | _ => false)
      | .sl a l h => (match e with
        | .Subscript v (.Slice lo hi none _) _ => chkE n N k sc v a &&
          (match lo, l with | none, none => true | some x, some y => chkE n N k sc x y | _, _ => false) && (match hi, h with | none, none => true | some x, some y => chkE n N k sc x y | _, _ => false)
        | _ => false)
      | .rev a => (match e with
        | .Subscript v (.Slice none none (some (.UnaryOp .USub (.Constant (.int i) _ _) _)) _) _ => i == 1 && chkE n N k sc v a
        | _ => false)
      | .call f es => (match e with
        | .Call (.Name x _) (y :: ys) [] _ => x == f && glB sc x && nmB x && n.fns.contains f && (y :: ys).all noStar && all2 (chkE n N k sc) (y :: ys) es
        | _ => false)
      | .callv i es => (match e with
        | .Call (.Name x _) (y :: ys) [] _ => visB sc x && nmB x && decide (N[i]? = some x) && (y :: ys).all noStar && all2 (chkE n N k sc) (y :: ys) es
        | _ => false)
      | .blt b es => (match e with
        | .Call (.Name x _) (y :: ys) [] _ => x == blNm b && glB sc x && (y :: ys).all noStar && all2 (chkE n N k sc) (y :: ys) es
        | _ => false)
      | .mth m o es => (match e with
        | .Call (.Attribute x a apos) (y :: ys) [] cpos => a == mtNm m && noCall x && apos.endLine == cpos.line && decide (ys.length < 20) && (y :: ys).all noStar && chkE n N k sc x o && all2 (chkE n N k sc) (y :: ys) es
        | _ => false)
      | .isi a t => (match e with
        | .Call (.Name x _) [y, .Name z _] [] _ => x == ("isinstance" : Str) && z == Str.ofString (tyOf t) && glB sc x && glB sc z && noStar y && chkE n N k sc y a
        | _ => false)
      | .comp _ g it c elt => (match e with
        | .ListComp x [⟨tg, iter, ifs, 0⟩] scope _ => compB (chkE n N k) N sc x tg iter ifs scope g it c elt
        | _ => false)
      | .lrange _ _ => false
      | .sset _ a => (match e with
        | .Call (.Name x _) [.Call (.Name y _) [z] [] _] [] _ => x == ("sorted" : Str) && y == ("set" : Str) && glB sc x && glB sc y && noStar z && chkE n N k sc z a
        | _ => false)
      | .never => true

/-! ### the look is right -/
section
variable {X : Cx} {ga : Str → Option Addr} {F : FS} {n : Nfo} {k : Nat} {sc : Scope} {N : List Str}
theorem star_cons {e : Expr} {es : List Expr} {env : Env} (h : noStar e = true) : starEach (e :: es) env = (false, eval e env) :: starEach es env := by
  cases e <;> first | rfl | cases h
theorem star_any {env : Env} {pos : Pos} : ∀ {es : List Expr}, es.all noStar = true → (backTo pos (starEach es env)).any (·.1) = false
  | [], _ => rfl
  | e :: es, h => by
    rw [List.all_cons, Bool.and_eq_true_iff] at h
    rw [star_cons h.1]
    show (false || (backTo pos (starEach es env)).any (·.1)) = false
    rw [star_any h.2]; rfl
theorem star_all {env : Env} {pos : Pos} : ∀ {es : List Expr}, es.all noStar = true → (backTo pos (starEach es env)).all (fun x => !x.1) = true
  | [], _ => rfl
  | e :: es, h => by
    rw [List.all_cons, Bool.and_eq_true_iff] at h
    rw [star_cons h.1]
    show (!false && (backTo pos (starEach es env)).all (fun x => !x.1)) = true
    rw [star_all h.2]; rfl
theorem noset_marks {e : Expr} {op : CmpOp} (h : noSet e = true) : behindInMarks op e = false := by cases e <;> first | rfl | cases h
theorem noset_last {b e : Expr} {op op' : CmpOp} (h : noSet e = true) : lastMarks [op, op'] [b, e] = false := noset_marks h
theorem noset_fold {e : Expr} {env : Env} (h : noSet e = true) : ∀ x, foldedSetIterable e env x = pure x := by intro x; cases e <;> first | rfl | cases h
theorem noslice_ix {e : Expr} (h : noSlice e = true) : PlainIx e := by intro o i; cases e <;> first | rfl | cases h
theorem nocall_base {e : Expr} {a : Str} {env : Env} (h : noCall e = true) : attributeBase e a env (eval e env) = eval e env := by cases e <;> first | rfl | cases h
theorem vis_of {x : Str} (h : visB sc x = true) : Vis sc x := by
  unfold visB at h
  split at h
  · exact .inl (by assumption)
  · exact .inr (.inl (by assumption))
  · exact .inr (.inr (by assumption))
  · cases h
theorem loc_of {x : Str} (h : locB sc x = true) : Loc sc x := by
  unfold locB at h
  split at h
  · exact .inl (by assumption)
  · exact .inr (by assumption)
  · cases h
theorem gl_of {x : Str} (hs : X.env.scope = sc) (h : glB sc x = true) : Gl X x := by
  unfold glB at h
  split at h
  · show X.env.scope.names.lookup x = _
    rw [hs]; assumption
  · cases h
theorem nm_of {x : Str} (h : nmB x = true) : (x == ("__debug__" : Str)) = false ∧ (x == ("__classdict__" : Str)) = false := by
  unfold nmB at h
  rw [Bool.and_eq_true_iff] at h
  exact ⟨by simpa using h.1, by simpa using h.2⟩
theorem pa_sound {f : Expr → E → Bool} (hf : ∀ e ee, f e ee = true → PE X e (rd (ctx X ga) F ee)) : ∀ {xs : List Expr} {es : List E}, xs.all noStar = true → all2 f xs es = true → PA X xs (rdL (ctx X ga) F es)
  | [], [], _, _ => ps_nil
  | x :: xs, e :: es, h, h2 => by
    rw [List.all_cons, Bool.and_eq_true_iff] at h
    unfold all2 at h2
    rw [Bool.and_eq_true_iff] at h2
    exact ps_cons (hf x e h2.1) (pa_sound hf h.2 h2.2) (star_cons h.1)
  | [], _ :: _, _, h => by cases h
  | _ :: _, [], _, h => by cases h
theorem pi_sound {f : Expr → E → Bool} (g : Gd n F ga k sc N X) (hf : ∀ e ee, f e ee = true → PE X e (rd (ctx X ga) F ee)) {tg iter : Expr} {it : It} (h : chkI f sc tg iter it = true) : PI X tg iter (rdI (ctx X ga) F it) := by
  cases it with
  | val ev => exact pi_val (hf _ _ h)
  | rng ev =>
    simp only [chkI] at h
    split at h
    · simp only [Bool.and_eq_true, beq_iff_eq] at h
      obtain ⟨⟨⟨h1, h2⟩, h3⟩, h4⟩ := h
      subst h1
      exact pi_rng (gl_of g.hsc h2) (g.blt _ (by decide)) (hf _ _ h4) (star_cons h3)
    · cases h
  | rng2 ea eb =>
    simp only [chkI] at h
    split at h
    · simp only [Bool.and_eq_true, beq_iff_eq] at h
      obtain ⟨⟨⟨⟨⟨h1, h2⟩, h3⟩, h4⟩, h5⟩, h6⟩ := h
      subst h1
      exact pi_rng2 (gl_of g.hsc h2) (g.blt _ (by decide)) (hf _ _ h5) (hf _ _ h6) (by rw [star_cons h3, star_cons h4]; rfl) (star_cons h4)
    · cases h
  | zip es =>
    match es, h with
    | [ea, eb], h =>
      simp only [chkI] at h
      split at h
      · simp only [Bool.and_eq_true, beq_iff_eq] at h
        obtain ⟨⟨⟨⟨⟨⟨h1, h0⟩, h2⟩, h3⟩, h4⟩, h5⟩, h6⟩ := h
        subst h1
        cases tg with
        | Tuple elts kk tpos => exact pi_zp g.mono (gl_of g.hsc h2) (g.blt _ (by decide)) (ps_cons (hf _ _ h5) (ps_cons (hf _ _ h6) ps_nil (star_cons h4)) (star_cons h3)) (star_cons h3) (star_any (by simp [h4]))
        | _ => cases h0
      · cases h
    | [], h => cases h
    | [_], h => cases h
    | [ea, eb, ec], h =>
      simp only [chkI] at h
      split at h
      · simp only [Bool.and_eq_true, beq_iff_eq] at h
        obtain ⟨⟨⟨⟨⟨⟨⟨⟨h1, h0⟩, h2⟩, h3⟩, h4⟩, h5⟩, h6⟩, h7⟩, h8⟩ := h
        subst h1
        cases tg with
        | Tuple elts kk tpos => exact pi_zp3 g.mono (gl_of g.hsc h2) (g.blt _ (by decide)) (ps_cons (hf _ _ h6) (ps_cons (hf _ _ h7) (ps_cons (hf _ _ h8) ps_nil (star_cons h5)) (star_cons h4)) (star_cons h3)) (star_cons h3) (star_any (by simp [h4, h5]))
        | _ => cases h0
      · cases h
    | _ :: _ :: _ :: _ :: _, h => cases h
  | enm ev =>
    simp only [chkI] at h
    split at h
    · simp only [Bool.and_eq_true, beq_iff_eq] at h
      obtain ⟨⟨⟨⟨h1, h0⟩, h2⟩, h3⟩, h4⟩ := h
      subst h1
      cases tg with
      | Tuple elts kk tpos => exact pi_enm (gl_of g.hsc h2) (g.blt _ (by decide)) (hf _ _ h4) (star_cons h3)
      | _ => cases h0
    · cases h
theorem tg_each {sc' : Scope} {g : Tg} {e : Expr} {es : List Expr} {env : Env} (h : tgB N sc' g e = true) : assignEach (e :: es) env = (false, assign e env) :: assignEach es env := by
  cases g with
  | nm i => unfold tgB at h; cases e <;> first | rfl | cases h
  | tp gs => unfold tgB at h; cases e <;> first | rfl | cases h
mutual
theorem tg_sound' {sc' : Scope} (hc : X.calm = true) (hN : X.N.Nodup) (hs : ∀ x, locB sc' x = true → Sto1 X x) : ∀ (g : Tg) (tg : Expr) (rest : List Nat), tgB X.N sc' g tg = true → PG X tg (gT' (ctx X ga) g rest)
  | .nm i, tg, rest, h => by
    unfold tgB at h
    split at h
    · simp only [Bool.and_eq_true, decide_eq_true_eq] at h
      exact pg_nm' rest hN h.2 (hs _ h.1)
    · cases h
  | .tp gs, tg, rest, h => by
    unfold tgB at h
    split at h
    · obtain ⟨a, b, c⟩ := tgs_sound' hc hN hs gs _ rest h
      exact pg_tp' hc a b c
    · cases h
theorem tgs_sound' {sc' : Scope} (hc : X.calm = true) (hN : X.N.Nodup) (hs : ∀ x, locB sc' x = true → Sto1 X x) : ∀ (gs : List Tg) (es : List Expr) (rest : List Nat), tgBs X.N sc' gs es = true → PGs X es (gTs' (ctx X ga) gs rest) ∧ (assignEach es X.env).length = gs.length ∧ (assignEach es X.env).findIdx? (·.1) = none
  | [], es, rest, h => by
    unfold tgBs at h
    split at h
    · exact ⟨pgs_nil' rest, rfl, rfl⟩
    · cases h
  | g :: gs, es, rest, h => by
    unfold tgBs at h
    split at h
    · rename_i e r
      obtain ⟨h1, h2⟩ := Bool.and_eq_true_iff.mp h
      obtain ⟨a, b, c⟩ := tgs_sound' hc hN hs gs r rest h2
      have k := tg_each (env := X.env) (es := r) h1
      refine ⟨pgs_cons' (tg_sound' hc hN hs g e _ h1) a (by rw [k]; rfl), ?_, ?_⟩
      · rw [k, List.length_cons, List.length_cons, b]
      · rw [k, List.findIdx?_cons, c]; rfl
    · cases h
end
theorem tg_sound {sc' : Scope} (hc : X.calm = true) (hN : X.N.Nodup) (hs : ∀ x, locB sc' x = true → Sto1 X x) {tg : Expr} {g : Tg} (h : tgB X.N sc' g tg = true) : PG X tg (gT (ctx X ga) g) := tg_sound' hc hN hs g tg [] h
mutual
theorem own_ixs' {sc' : Scope} : ∀ (g : Tg) (tg : Expr), tgB N sc' g tg = true → (tgOwn g tg).map (·.2) = g.ixs
  | .nm i, tg, h => by
    unfold tgB at h
    split at h
    · rfl
    · cases h
  | .tp gs, tg, h => by
    unfold tgB at h
    split at h
    · exact own_ixsL' gs _ h
    · cases h
theorem own_ixsL' {sc' : Scope} : ∀ (gs : List Tg) (es : List Expr), tgBs N sc' gs es = true → (tgOwns gs es).map (·.2) = Tg.ixsL gs
  | [], es, h => by unfold tgOwns Tg.ixsL; rfl
  | g :: gs, es, h => by
    unfold tgBs at h
    split at h
    · rename_i e r
      obtain ⟨h1, h2⟩ := Bool.and_eq_true_iff.mp h
      unfold tgOwns Tg.ixsL
      show List.map _ (tgOwn g e ++ tgOwns gs r) = _
      rw [List.map_append, own_ixs' g e h1, own_ixsL' gs r h2]
    · cases h
end
theorem own_ixs {tg : Expr} {g : Tg} {sc' : Scope} (h : tgB N sc' g tg = true) : (tgOwn g tg).map (·.2) = g.ixs := own_ixs' g tg h
theorem pw_of_pt {op : BoolOp} {vs : List Expr} {p : Pos} {t : TT} (h : PT X (.BoolOp op vs p) t) : PW X (.BoolOp op vs p) t := ⟨fun wh pins s σ H Q I q => h.run pins s σ H Q I q⟩

theorem sto_blk {scope : Scope} (s : Shared) (H : Hp) (C : Addr) (cl : List (Str × Addr)) (fp : List Addr) (x : Str) (h : locB scope x = true) : Sto1 (X.blk s H scope (compEnvC scope cl C X.env) fp) x := by
  have key : ∀ kd, kd ≠ NameKind.free → scope.names.lookup x = some kd → (relS scope X.env.scope).names.lookup x = some kd := fun kd h1 h2 => lookup_relS_keep h1 h2
  rcases loc_of h with q | q
  · have q' := key _ (by decide) q
    exact ⟨.inl q', .inr q'⟩
  · have q' := key _ (by decide) q
    exact ⟨.inr q', .inl (by show (scope.names.lookup x == some .cell) = true; rw [q]; rfl)⟩
theorem lookup_of_contains {f : Str} {l : List Str} (h : l.contains f = true) : f ∈ l := by simpa using h
end
end SG
namespace SG
open PySem PySem.Spec PyProof.Rows L2
section
variable {ga : Str → Option Addr} {F : FS} {n : Nfo} {kk : Nat} {N : List Str}
/-- a plain test -/
theorem plain_test {X : Cx} {e : Expr} {ee : E} (h : PE X e (rd (ctx X ga) F ee)) (hp : ∀ whole, isTrue e X.env whole = (do let v ← whole; standAt e.pos; holding [v] (truthy v))) : PE X e (rd (ctx X ga) F ee) ∧ PT X e (rdT (ctx X ga) F ee) := ⟨h, pt_tru h hp⟩
theorem one_bool {X : Cx} {op : BoolOp} {x : Expr} {p : Pos} {ee : E} (h : PE X x (rd (ctx X ga) F ee) ∧ PT X x (rdT (ctx X ga) F ee)) : PE X (.BoolOp op [x] p) (rd (ctx X ga) F ee) ∧ PT X (.BoolOp op [x] p) (rdT (ctx X ga) F ee) := by
  refine ⟨pe_one h.1, ?_⟩
  cases op with
  | And => exact (pw_and1 h.2).pt
  | Or => exact (pw_or1 h.2).pt
theorem sound : ∀ (k : Nat) (sc : Scope) (X : Cx) (e : Expr) (ee : E), Gd n F ga kk sc N X → chkE n N k sc e ee = true → PE X e (rd (ctx X ga) F ee) ∧ PT X e (rdT (ctx X ga) F ee)
  | 0, _, _, _, _, _, h => by cases h
  | k + 1, sc, X, e, ee, g, h => by
    have ih := fun e ee h => sound k sc X e ee g h
    have ih1 := fun e ee h => (sound k sc X e ee g h).1
    unfold chkE at h
    split at h
    · exact one_bool (ih _ _ h)
    · rename_i e0 hnb
      split at h
      · -- var
        split at h
        · rename_i i _ x p
          simp only [Bool.and_eq_true, decide_eq_true_eq] at h
          obtain ⟨⟨h1, h2⟩, h3⟩ := h
          obtain ⟨n1, n2⟩ := nm_of h2
          exact plain_test (ps_var (by rw [g.hN]; exact h3) (by rw [g.hsc]; exact vis_of h1) n1 n2) (fun _ => rfl)
        · cases h
      · -- cst
        split at h
        · rw [PV.same_eq h]; exact plain_test (ps_cst pe_int fun _ _ _ => .int _) (fun _ => rfl)
        · rw [PV.same_eq h]; exact plain_test (ps_cst pe_bl fun _ _ _ => .bl _) (fun _ => rfl)
        · rw [PV.same_eq h]; exact plain_test (ps_cst pe_str fun _ _ _ => .str _) (fun _ => rfl)
        · rw [PV.same_eq h]; exact plain_test (ps_cst pe_non fun _ _ _ => .non) (fun _ => rfl)
        · simp only [Bool.and_eq_true] at h
          obtain ⟨⟨h1, h2⟩, h3⟩ := h
          obtain ⟨n1, n2⟩ := nm_of h2
          split at h3
          · simp only [Bool.and_eq_true, beq_iff_eq] at h3
            obtain ⟨h3, h4⟩ := h3
            subst h3
            obtain ⟨a, e1, e2, _⟩ := g.fns _ (lookup_of_contains h4)
            exact plain_test (ps_cst (pe_glob (gl_of g.hsc h1) e2 (v := .ref a) rfl n1) fun _ _ _ => .fn e1) (fun _ => rfl)
          · split at h3
            · rename_i w hw
              rw [PV.same_eq h3]
              obtain ⟨x, u, e1, e2, e3⟩ := g.cns _ _ hw
              exact plain_test (ps_cst (pe_glob (gl_of g.hsc h1) e1 e2 n1) e3) (fun _ => rfl)
            · cases h3
        · cases h
      · -- bin
        split at h
        · simp only [Bool.and_eq_true, decide_eq_true_eq] at h
          obtain ⟨⟨h1, h2⟩, h3⟩ := h
          subst h1
          exact plain_test (ps_bin (ih1 _ _ h2) (ih1 _ _ h3)) (fun _ => rfl)
        · cases h
      · -- neg
        split at h
        · exact plain_test (ps_neg (ih1 _ _ h)) (fun _ => rfl)
        · cases h
      · -- cmp
        split at h
        · simp only [Bool.and_eq_true, decide_eq_true_eq] at h
          obtain ⟨⟨⟨h1, h2⟩, h3⟩, h4⟩ := h
          subst h1
          exact ⟨ps_cmp g.hu (ih1 _ _ h3) (ih1 _ _ h4) (noset_marks h2), pt_cmp' g.hu (ih1 _ _ h3) (ih1 _ _ h4) (noset_marks h2)⟩
        · cases h
      · -- chain
        split at h
        · simp only [Bool.and_eq_true, decide_eq_true_eq] at h
          obtain ⟨⟨⟨⟨⟨h1, h2⟩, h3⟩, h4⟩, h5⟩, h6⟩ := h
          subst h1 h2
          exact ⟨ps_chain g.hu (ih1 _ _ h4) (ih1 _ _ h5) (ih1 _ _ h6) (noset_last h3), pt_chain' g.hu (ih1 _ _ h4) (ih1 _ _ h5) (ih1 _ _ h6) (noset_last h3)⟩
        · cases h
      · -- and
        split at h
        · simp only [Bool.and_eq_true] at h
          obtain ⟨h1, h2⟩ := h
          exact ⟨ps_and (ih1 _ _ h1) (ih1 _ _ h2), (pt_and' (ih _ _ h1).2 (pw_of_pt (ih _ _ h2).2)).pt⟩
        · cases h
      · -- or
        split at h
        · simp only [Bool.and_eq_true] at h
          obtain ⟨h1, h2⟩ := h
          exact ⟨ps_or (ih1 _ _ h1) (ih1 _ _ h2), (pt_or' (ih _ _ h1).2 (pw_of_pt (ih _ _ h2).2)).pt⟩
        · cases h
      · -- not
        split at h
        · exact ⟨ps_not (ih1 _ _ h), pt_not' (ih _ _ h).2⟩
        · cases h
      · -- ite
        split at h
        · simp only [Bool.and_eq_true] at h
          obtain ⟨⟨h1, h2⟩, h3⟩ := h
          exact ⟨ps_ite (ih _ _ h1).2 (ih1 _ _ h2) (ih1 _ _ h3), pt_ite' (ih _ _ h1).2 (ih _ _ h2).2 (ih _ _ h3).2⟩
        · cases h
      · -- tup
        split at h
        · simp only [Bool.and_eq_true, decide_eq_true_eq] at h
          obtain ⟨⟨h1, h2⟩, h3⟩ := h
          exact plain_test (ps_tup (pa_sound ih1 h1 h2) h3 (fun ρ M Q q => wpL_len g.mono _ _ _ _ q)) (fun _ => rfl)
        · cases h
      · -- lst
        split at h
        · simp only [Bool.and_eq_true, decide_eq_true_eq] at h
          obtain ⟨⟨h1, h2⟩, h3⟩ := h
          exact plain_test (ps_lst (pa_sound ih1 h1 h2) h3 (fun ρ M Q q => wpL_len g.mono _ _ _ _ q)) (fun _ => rfl)
        · cases h
      · cases h
      · -- ix
        split at h
        · simp only [Bool.and_eq_true] at h
          obtain ⟨⟨h1, h2⟩, h3⟩ := h
          exact plain_test (ps_ix (ih1 _ _ h2) (ih1 _ _ h3) (noslice_ix h1)) (fun _ => rfl)
        · cases h
      · -- sl
        split at h
        · simp only [Bool.and_eq_true] at h
          obtain ⟨⟨h1, h2⟩, h3⟩ := h
          refine plain_test (ps_sl (ih1 _ _ h1) ?_ ?_) (fun _ => rfl)
          · split at h2
            · exact ps_ono
            · exact ps_oso (ih1 _ _ h2)
            · cases h2
          · split at h3
            · exact ps_ono
            · exact ps_oso (ih1 _ _ h3)
            · cases h3
        · cases h
      · -- rev
        split at h
        · simp only [Bool.and_eq_true, beq_iff_eq] at h
          obtain ⟨h1, h2⟩ := h
          subst h1
          exact plain_test (ps_rev (ih1 _ _ h2)) (fun _ => rfl)
        · cases h
      · -- call
        split at h
        · simp only [Bool.and_eq_true, beq_iff_eq] at h
          obtain ⟨⟨⟨⟨⟨h1, h2⟩, h3⟩, h4⟩, h5⟩, h6⟩ := h
          subst h1
          obtain ⟨a, e1, e2, e3⟩ := g.fns _ (lookup_of_contains h4)
          have h5' := h5
          rw [List.all_cons, Bool.and_eq_true_iff] at h5'
          exact plain_test (ps_call (e3.callR g.rm) (gl_of g.hsc h2) e2 e3.kp (pa_sound ih1 h5 h6) (nm_of h3).1 (star_cons h5'.1) (star_any h5'.2)) (fun _ => rfl)
        · cases h
      · -- callv
        split at h
        · rename_i i es _ x p y ys pos
          simp only [Bool.and_eq_true, decide_eq_true_eq] at h
          obtain ⟨⟨⟨⟨h1, h2⟩, h3⟩, h5⟩, h6⟩ := h
          have h5' := h5
          rw [List.all_cons, Bool.and_eq_true_iff] at h5'
          obtain ⟨n1, n2⟩ := nm_of h2
          refine plain_test (PE.imp (pe_loc_call (i := i) (r := fun a vs H Q => ∃ f, ga f = some a ∧ f ∈ n.fns ∧ rc (ctx X ga) (F f) vs H Q) (by rw [g.hN]; exact h3) (by rw [g.hsc]; exact vis_of h1) (pa_sound ih1 h5 h6) n1 n2 (star_cons h5'.1) (star_any h5'.2)) ?_) (fun _ => rfl)
          rintro σ H Q ⟨ρ, M, Z, Q', r, e, ⟨f, hf, h⟩, c⟩
          obtain ⟨u, hu, ru⟩ := e.get i _ hf
          cases ru with
          | @fn _ a hga =>
            have known : ∀ f', ga f' = some a → f' ∈ n.fns → PySem.W.keepIn X.K (.ref a) = true ∧ CallR X (.ref a) (rc (ctx X ga) (F f')) := fun f' h1 h2 => by
              obtain ⟨a', e1, _, e3⟩ := g.fns f' h2
              rw [h1] at e1; cases e1
              exact ⟨e3.kp, e3.callR g.rm⟩
            by_cases hm : f ∈ n.fns
            · refine ⟨a, hu, (known f hga hm).1, ?_, ?_⟩
              · rintro pins s σ H vs us Q I rv ⟨f', e1, e2, q⟩
                exact (known f' e1 e2).2 pins s σ H vs us Q I rv q
              · refine ⟨ρ, M, Z, _, r, e, h, fun vs xs H1 M1 Z1 x1 r1 rvs h1 => ⟨f, hga, hm, vs, M1, Z1, Q', r1, rvs, h1, fun z u H2 M2 Z2 x2 r2 rz h2 => c _ _ _ _ _ (x1.trans x2) r2 rz h2⟩⟩
            · have key := g.known f a hga
              exact (hm key).elim
        · cases h
      · -- blt
        split at h
        · rename_i b es _ x p y ys pos
          simp only [Bool.and_eq_true, beq_iff_eq] at h
          obtain ⟨⟨⟨h1, h2⟩, h3⟩, h4⟩ := h
          subst h1
          have h3' := h3
          rw [List.all_cons, Bool.and_eq_true_iff] at h3'
          have hb : blNm b ∈ bltNames := by cases b <;> decide
          exact plain_test (ps_blt g.calm g.hu g.rm.gd (gl_of g.hsc h2) (g.blt _ hb) (pa_sound ih1 h3 h4) (star_cons h3'.1) (star_any h3'.2)) (fun _ => rfl)
        · cases h
      · -- mth
        split at h
        · rename_i m o es _ x a apos y ys cpos
          simp only [Bool.and_eq_true, beq_iff_eq, decide_eq_true_eq] at h
          obtain ⟨⟨⟨⟨⟨⟨h1, h2⟩, h3⟩, h4⟩, h5⟩, h6⟩, h7⟩ := h
          subst h1
          have h5' := h5
          rw [List.all_cons, Bool.and_eq_true_iff] at h5'
          refine plain_test (ps_mth (slot_mt m) (type_mt m) (ih1 _ _ h6) (pa_sound ih1 h5 h7) (nocall_base h2) ?_ (by simpa using h3) (star_cons h5'.1) (star_any h5'.2)) (fun _ => rfl)
          rw [star_all h5]
          simp only [List.length_cons, List.length_nil, List.isEmpty_nil, if_true]
          show (true && true && decide (ys.length + 1 + 0 + 0 < 30)) = true
          rw [decide_eq_true (by omega)]; rfl
        · cases h
      · -- isi
        split at h
        · rename_i a t _ x p y z q pos
          simp only [Bool.and_eq_true, beq_iff_eq] at h
          obtain ⟨⟨⟨⟨⟨h1, h2⟩, h3⟩, h4⟩, h5⟩, h6⟩ := h
          subst h1 h2
          have hb : Str.ofString (tyOf t) ∈ bltNames := by cases t <;> decide
          exact plain_test (ps_isi (gl_of g.hsc h3) (g.blt _ (by decide)) (gl_of g.hsc h4) (g.blt _ hb) (ih1 _ _ h6) (star_cons h5)) (fun _ => rfl)
        · cases h
      · -- comp
        split at h
        · rename_i mt gt it c elt _ x tg iter ifs scope p
          simp only [compB, Bool.and_eq_true] at h
          obtain ⟨⟨⟨⟨⟨h1, h2⟩, h3⟩, h4⟩, h5⟩, h6⟩ := h
          have ok : BlkOk X.N X.env.scope scope (tgOwn gt tg) := by rw [g.hN, g.hsc]; exact blkOk_by h1
          refine plain_test (PE.imp (ps_comp (mt := mt) g.calm g.nd (pi_sound g ih1 h6) ok (own_ixs h2) (fun s H C cl fp => ?_) (fun s H C cl fp => ?_) (fun s H C cl fp => ?_) (noset_fold h3)) fun σ H Q q => rd_comp (own_ixs h2) q) (fun _ => rfl)
          · exact tg_sound (X := X.blk s H scope (compEnvC scope cl C X.env) fp) (ga := ga) g.calm g.nd (fun x hx => sto_blk s H C cl fp x hx) (by show tgB X.N scope gt tg = true; rw [g.hN]; exact h2)
          · have gb := g.blk ok.kind s H C cl fp
            split at h5
            · exact pts_no (X := X.blk s H scope (compEnvC scope cl C X.env) fp) (ga := ga)
            · exact pts_so (X := X.blk s H scope (compEnvC scope cl C X.env) fp) (ga := ga) (sound k _ _ _ _ gb h5).2
            · cases h5
          · exact (sound k _ _ _ _ (g.blk ok.kind s H C cl fp) h4).1
        · cases h
      · cases h
      · -- sorted(set(..))
        split at h
        · simp only [Bool.and_eq_true, beq_iff_eq] at h
          obtain ⟨⟨⟨⟨⟨h1, h2⟩, h3⟩, h4⟩, h5⟩, h6⟩ := h
          subst h1 h2
          exact plain_test (ps_sset g.calm g.hu (gl_of g.hsc h3) (g.blt _ (by decide)) (gl_of g.hsc h4) (g.blt _ (by decide)) (ih1 _ _ h6) (star_cons h5)) (fun _ => rfl)
        · cases h
      · -- never
        exact ⟨⟨fun pins s σ H Q I ⟨ρ, M, Z, Q', r, e, h, c⟩ => h.elim⟩, ⟨fun pins s σ H Q I ⟨ρ, M, Z, Q', r, e, h, c⟩ => h.elim⟩⟩
end
end SG
namespace SG
open PySem PySem.Spec PyProof.Rows L2
def isStar : Expr → Bool
  | .Starred .. => true
  | _ => false
def nameAt (sc : Scope) (line : Nat) : Expr → Option Str
  | .Name id pos => if sc.names.lookup id == some .local && pos.line == line then some id else none
  | _ => none
def swp (sc : Scope) (ts vs : List Expr) : Option (Option (List Str)) :=
  if (!(ts.length == 2 || ts.length == 3) || vs.length != ts.length) = true then some none
  else if vs.any isStar = true then some none
  else
    let names := ts.filterMap (nameAt sc ((ts.head?.map (·.pos.line)).getD 0))
    if (names.length != ts.length || names.eraseDups.length != names.length) = true then some none
    else if vs.all (foldedForSure 8) = true then some none
    else if vs.all (constantsAlone 8) = true then none
    else some (some names)
theorem swp_ok {ts vs : List Expr} {k k2 : Nat} {p p2 : Pos} {env : Env} {r : Option (List Str)} (hk : env.scope.kind = .function) (h : swp env.scope ts vs = some r) : swappedStores [.Tuple ts k p] (.Tuple vs k2 p2) env = pure r := by
  have hb : env.blockKind = .function := by unfold Env.blockKind; rw [hk]; rfl
  have hst : (fun (e : Expr) => match e with | .Starred .. => true | _ => false) = isStar := by funext e; cases e <;> rfl
  unfold swp at h
  unfold swappedStores
  simp only [hb]
  show (if (!(ts.length == 2 || ts.length == 3) || vs.length != ts.length || (ScopeKind.function != ScopeKind.function)) = true then pure none else _) = pure r
  have e0 : (!(ts.length == 2 || ts.length == 3) || vs.length != ts.length || (ScopeKind.function != ScopeKind.function)) = (!(ts.length == 2 || ts.length == 3) || vs.length != ts.length) := by simp
  rw [e0]
  by_cases c1 : (!(ts.length == 2 || ts.length == 3) || vs.length != ts.length) = true
  · rw [if_pos c1] at h ⊢; cases h; rfl
  · rw [if_neg c1] at h ⊢
    generalize hL : (ts.head?.map (·.pos.line)).getD 0 = L at h ⊢
    have e2 : (fun (x : Expr) => match x with
        | .Name id pos => if (env.kindOf id == some .local && pos.line == L) = true then some id else none
        | _ => none) = nameAt env.scope L := by
      funext x
      cases x <;> rfl
    have e1 : (fun (x : Expr) => match x with | .Starred .. => true | _ => false) = isStar := by funext x; cases x <;> rfl
    have go : ∀ (f : Expr → Bool) (g : Expr → Option Str), f = isStar → g = nameAt env.scope L → (if vs.any f = true then pure none else
        if ((ts.filterMap g).length != ts.length || (ts.filterMap g).eraseDups.length != (ts.filterMap g).length) = true then pure none
        else if vs.all (foldedForSure 8) = true then pure none
        else if vs.all (constantsAlone 8) = true then (do let _ ← (unsupported "assign.tuple-of-constant-expressions:order-of-the-stores" : Sem PUnit); pure (some (ts.filterMap g))) else pure (some (ts.filterMap g))) = (pure r : Sem (Option (List Str))) := by
      rintro f g rfl rfl
      dsimp only at h
      by_cases d1 : vs.any isStar = true
      · rw [if_pos d1] at h ⊢; cases h; rfl
      · rw [if_neg d1] at h ⊢
        by_cases d2 : ((ts.filterMap (nameAt env.scope L)).length != ts.length || (ts.filterMap (nameAt env.scope L)).eraseDups.length != (ts.filterMap (nameAt env.scope L)).length) = true
        · rw [if_pos d2] at h ⊢; cases h; rfl
        · rw [if_neg d2] at h ⊢
          by_cases d3 : vs.all (foldedForSure 8) = true
          · rw [if_pos d3] at h ⊢; cases h; rfl
          · rw [if_neg d3] at h ⊢
            by_cases d4 : vs.all (constantsAlone 8) = true
            · rw [if_pos d4] at h; cases h
            · rw [if_neg d4] at h ⊢; cases h; rfl
    exact go _ _ (by funext x; cases x <;> rfl) (by funext x; cases x <;> rfl)
theorem swaps_lc {elt : Expr} {gs : List Comprehension} {scope : Scope} {p py : Pos} {y : Str} {l : Nat} {env : Env} (hk : env.scope.kind = .function) : swapsWith (.ListComp elt gs scope p) (some (.Name y py)) l env =
    pure (env.kindOf y == some .local && py.line == p.line && !(scope.names.any fun (n, k) => n == y && (k == .local || k == .cell))) := by
  have hb : env.blockKind = .function := by unfold Env.blockKind; rw [hk]; rfl
  unfold swapsWith
  simp only [hb]
  rfl
theorem swaps_no {v : Expr} {t : Option Expr} {l : Nat} {env : Env} (h : noComp v = true) : swapsWith v t l env = pure false := by
  cases v <;> first | rfl | cases h

def nsB (ns : List Str) : List Expr → Bool
  | [.Name x _, .Name y _] => ns == [x, y]
  | [.Name x _, .Name y _, .Name z _] => ns == [x, y, z]
  | _ => false
def lcB (n : Nfo) (N : List Str) (k : Nat) (sc : Scope) : Expr → Expr → Tg → E → Bool
  | .Name y py, .ListComp x [⟨tg, iter, ifs, 0⟩] scope p, .nm i, .comp _ g it c elt => decide (N[i]? = some y) && (sc.names.lookup y == some .local && py.line == p.line && !(scope.names.any fun (n, k) => n == y && (k == .local || k == .cell))) &&
      compB (chkE n N k) N sc x tg iter ifs scope g it c elt
  | _, _, _, _ => false
def isRaise : Stmt → Bool
  | .Raise .. => true
  | _ => false
def parB (n : Nfo) (N : List Str) (k : Nat) (sc : Scope) : List Expr → List Expr → Tg → E → Bool
  | [.Name x _, .Name y _], [a, b], .tp [.nm i, .nm j], .tup [ea, eb] => decide (N[i]? = some x) && decide (N[j]? = some y) && i != j && (sc.names.lookup x == some .local) && (sc.names.lookup y == some .local) && noStar a && noStar b && chkE n N k sc a ea && chkE n N k sc b eb
  | [.Name x _, .Name y _, .Name z _], [a, b, c], .tp [.nm i, .nm j, .nm l], .tup [ea, eb, ec] => decide (N[i]? = some x) && decide (N[j]? = some y) && decide (N[l]? = some z) && i != j && i != l && j != l && (sc.names.lookup x == some .local) && (sc.names.lookup y == some .local) && (sc.names.lookup z == some .local) &&
      noStar a && noStar b && noStar c && chkE n N k sc a ea && chkE n N k sc b eb && chkE n N k sc c ec
  | _, _, _, _ => false
def asgB (n : Nfo) (N : List Str) (k : Nat) (sc : Scope) (tg a : Expr) (g : Tg) (ee : E) : Bool :=
  match tg, a with
  | .Tuple ts _ _, .Tuple vs _ _ => (match swp sc ts vs with
    | some none => tgB N sc g tg && chkE n N k sc a ee
    | some (some ns) => nsB ns ts && parB n N k sc ts vs g ee
    | none => false)
  | .Tuple .. , a => tgB N sc g tg && chkE n N k sc a ee
  | .Name .. , a => (tgB N sc g tg && noComp a && chkE n N k sc a ee) || lcB n N k sc tg a g ee
  | _, _ => false
def chkS (n : Nfo) (N : List Str) : Nat → Scope → Stmt → S → Bool
  | 0, _, _, _ => false
  | k + 1, sc, st, s => match s with
    | .expr e => (match st with
      | .Expr a _ => noComp a && chkE n N k sc a e
      | _ => false)
    | .asg g e => (match st with
      | .Assign [tg] a _ => asgB n N k sc tg a g e
      | _ => false)
    | .par _ _ => false
    | .six o i e => (match st with
      | .Assign [.Subscript x y _] a _ => noSlice y && noComp a && chkE n N k sc x o && chkE n N k sc y i && chkE n N k sc a e
      | _ => false)
    | .aug .. => false
    | .augx .. => false
    | .ret e => (match st with
      | .Return (some a) _ => chkE n N k sc a e
      | _ => false)
    | .ret0 => (match st with
      | .Return none _ => true
      | _ => false)
    | .ite c a b => (match st with
      | .If t x y _ => chkE n N k sc t c && all2 (chkS n N k sc) x a && all2 (chkS n N k sc) y b
      | _ => false)
    | .for_ g it body => (match st with
      | .For tg iter b [] _ => tgB N sc g tg && noSet iter && chkI (chkE n N k sc) sc tg iter it && all2 (chkS n N k sc) b body
      | _ => false)
    | .while_ c body => (match st with
      | .While t b [] _ => chkE n N k sc t c && all2 (chkS n N k sc) b body
      | _ => false)
    | .pass => (match st with
      | .Pass _ => true
      | _ => false)
    | .brk => (match st with
      | .Break _ => true
      | _ => false)
    | .cont => (match st with
      | .Continue _ => true
      | _ => false)
    | .never => true
section
variable {ga : Str → Option Addr} {F : FS} {n : Nfo} {kk : Nat} {N : List Str} {sc : Scope} {X : Cx}
theorem bq {α : Type} [BEq α] [LawfulBEq α] {a b : α} (h : (a == b) = true) : a = b := beq_iff_eq.mp h
theorem swaps_sole {a t : Expr} {l : Nat} {env : Env} (h : noComp a = true) : swapsWithSole [t] a l env = pure false := by
  show swapsWith a (some t) l env = pure false
  exact swaps_no h
theorem par_sound (g : Gd n F ga kk sc N X) {k : Nat} {ts vs : List Expr} {kt k2 : Nat} {pt p2 pos : Pos} {gt : Tg} {ee : E} {ns : List Str} (hs : swp sc ts vs = some (some ns)) (hn : nsB ns ts = true) (h : parB n N k sc ts vs gt ee = true) : PS X (.Assign [.Tuple ts kt pt] (.Tuple vs k2 p2) pos) (rdS (ctx X ga) F (.asg gt ee)) := by
  have hw := swp_ok (k := kt) (p := pt) (k2 := k2) (p2 := p2) (env := X.env) (by rw [g.hsc]; exact g.kind) (by rw [g.hsc]; exact hs)
  have ih1 := fun e ee h => (sound (n := n) (F := F) (ga := ga) (kk := kk) (N := N) k sc X e ee g h).1
  unfold parB at h
  split at h
  · simp only [Bool.and_eq_true, decide_eq_true_eq, bne_iff_ne, ne_eq] at h
    obtain ⟨⟨⟨⟨⟨⟨⟨⟨h1, h2⟩, h3⟩, h4⟩, h5⟩, h6⟩, h7⟩, h8⟩, h9⟩ := h
    have hn := bq hn
    subst hn
    exact s_par2 g.mono g.calm g.nd (by rw [g.hN]; exact h1) (by rw [g.hN]; exact h2) h3 (by rw [g.hsc]; exact bq h4) (by rw [g.hsc]; exact bq h5) (ps_cons (ih1 _ _ h8) (ps_cons (ih1 _ _ h9) ps_nil (star_cons h7)) (star_cons h6)) hw rfl
  · simp only [Bool.and_eq_true, decide_eq_true_eq, bne_iff_ne, ne_eq] at h
    obtain ⟨⟨⟨⟨⟨⟨⟨⟨⟨⟨⟨⟨⟨⟨h1, h2⟩, h3⟩, h4⟩, h5⟩, h6⟩, h7⟩, h8⟩, h9⟩, h10⟩, h11⟩, h12⟩, h13⟩, h14⟩, h15⟩ := h
    have hn := bq hn
    subst hn
    exact s_par3 g.mono g.calm g.nd (by rw [g.hN]; exact h1) (by rw [g.hN]; exact h2) (by rw [g.hN]; exact h3) h4 h5 h6 (by rw [g.hsc]; exact bq h7) (by rw [g.hsc]; exact bq h8) (by rw [g.hsc]; exact bq h9)
      (ps_cons (ih1 _ _ h13) (ps_cons (ih1 _ _ h14) (ps_cons (ih1 _ _ h15) ps_nil (star_cons h12)) (star_cons h11)) (star_cons h10)) hw rfl
  · cases h
/-- a def's own body: names may be stored to -/
theorem sto_def (g : Gd n F ga kk sc N X) (hf : ∀ x, X.fn x = true) (x : Str) (h : locB sc x = true) : Sto1 X x := ⟨by rw [g.hsc]; exact loc_of h, .inl (hf x)⟩
theorem assign_one {tg : Expr} {env : Env} (h : noStar tg = true) : (assignEach [tg] env).map (·.2) = [assign tg env] := by cases tg <;> first | rfl | cases h
theorem asg_sound (g : Gd n F ga kk sc N X) (hf : ∀ x, X.fn x = true) {k : Nat} {tg a : Expr} {pos : Pos} {gt : Tg} {ee : E} (h : asgB n N k sc tg a gt ee = true) : PS X (.Assign [tg] a pos) (rdS (ctx X ga) F (.asg gt ee)) := by
  have ih1 := fun e ee h => (sound (n := n) (F := F) (ga := ga) (kk := kk) (N := N) k sc X e ee g h).1
  have tgs : ∀ {tg : Expr}, tgB N sc gt tg = true → PG X tg (gT (ctx X ga) gt) := fun h => tg_sound g.calm g.nd (sto_def g hf) (by rw [g.hN]; exact h)
  unfold asgB at h
  split at h
  · split at h
    · rename_i ts kt pt vs k2 p2 hs
      rw [Bool.and_eq_true_iff] at h
      exact s_asg (ih1 _ _ h.2) (tgs h.1) rfl (swp_ok (by rw [g.hsc]; exact g.kind) (by rw [g.hsc]; exact hs)) rfl
    · rename_i ts kt pt vs k2 p2 _ ns hs
      rw [Bool.and_eq_true_iff] at h
      exact par_sound g hs h.1 h.2
    · cases h
  · rename_i ts kt pt hne
    simp only [Bool.and_eq_true] at h
    obtain ⟨h2, h3⟩ := h
    refine s_asg (ih1 _ _ h3) (tgs h2) (by cases a <;> rfl) ?_ rfl
    cases a <;> first | rfl | exact (hne _ _ _ rfl).elim
  · rename_i y py
    simp only [Bool.and_eq_true, Bool.or_eq_true] at h
    rcases h with ⟨⟨h1, h2⟩, h3⟩ | h
    · exact s_asg (ih1 _ _ h3) (tgs h1) (swaps_sole h2) rfl rfl
    · unfold lcB at h
      split at h
      · rename_i y py x tg iter ifs scope p i mt gt it c elt hq
        cases hq
        simp only [compB, Bool.and_eq_true, decide_eq_true_eq] at h
        obtain ⟨⟨h0, ⟨⟨h7, h8⟩, h9⟩⟩, ⟨⟨⟨⟨⟨h1, h2⟩, h3⟩, h4⟩, h5⟩, h6⟩⟩ := h
        have hyl : X.env.scope.names.lookup y = some .local := by rw [g.hsc]; exact bq h7
        have ok : BlkOk X.N X.env.scope scope (tgOwn gt tg) := by rw [g.hN, g.hsc]; exact blkOk_by h1
        refine s_setLc g.calm g.nd (by rw [g.hN]; exact h0) hyl ?_ (pi_sound g ih1 h6) ok (own_ixs h2) (fun s H C cl fp => ?_) (fun s H C cl fp => ?_) (fun s H C cl fp => ?_) (noset_fold h3)
        · rw [swaps_lc (by rw [g.hsc]; exact g.kind)]
          have e1 : X.env.kindOf y = some .local := hyl
          rw [e1, h8, h9]; rfl
        · exact tg_sound (X := X.blk s H scope (compEnvC scope cl C X.env) fp) (ga := ga) g.calm g.nd (fun x hx => sto_blk s H C cl fp x hx) (by show tgB X.N scope gt tg = true; rw [g.hN]; exact h2)
        · have gb := g.blk ok.kind s H C cl fp
          split at h5
          · exact pts_no (X := X.blk s H scope (compEnvC scope cl C X.env) fp) (ga := ga)
          · exact pts_so (X := X.blk s H scope (compEnvC scope cl C X.env) fp) (ga := ga) (sound k _ _ _ _ gb h5).2
          · cases h5
        · exact (sound k _ _ _ _ (g.blk ok.kind s H C cl fp) h4).1
      · cases h
  · cases h
theorem all2_ss {f : Stmt → S → Bool} (hf : ∀ st s, f st s = true → PS X st (rdS (ctx X ga) F s)) : ∀ {xs : List Stmt} {ss : List S}, all2 f xs ss = true → PSs X xs (rdSs (ctx X ga) F ss)
  | [], [], _ => ss_nil
  | x :: xs, e :: es, h2 => by
    unfold all2 at h2
    rw [Bool.and_eq_true_iff] at h2
    exact ss_cons (hf x e h2.1) (all2_ss hf h2.2)
  | [], _ :: _, h => by cases h
  | _ :: _, [], h => by cases h
theorem soundS (g : Gd n F ga kk sc N X) (hf : ∀ x, X.fn x = true) : ∀ (k : Nat) (st : Stmt) (s : S), chkS n N k sc st s = true → PS X st (rdS (ctx X ga) F s)
  | 0, _, _, h => by cases h
  | k + 1, st, s, h => by
    have ih := fun e ee h => sound (n := n) (F := F) (ga := ga) (kk := kk) (N := N) k sc X e ee g h
    have ih1 := fun e ee h => (ih e ee h).1
    have ihs := fun st s h => soundS g hf k st s h
    unfold chkS at h
    split at h
    · split at h
      · rw [Bool.and_eq_true_iff] at h
        exact s_expr (ih1 _ _ h.2) (swaps_no h.1)
      · cases h
    · split at h
      · exact asg_sound g hf h
      · cases h
    · cases h
    · split at h
      · simp only [Bool.and_eq_true] at h
        obtain ⟨⟨⟨⟨h1, h2⟩, h3⟩, h4⟩, h5⟩ := h
        refine s_six (ih1 _ _ h3) (ih1 _ _ h4) (ih1 _ _ h5) ?_ (swaps_sole h2)
        rename_i x y p a pos
        intro v
        cases y <;> first | rfl | cases h1
      · cases h
    · cases h
    · cases h
    · split at h
      · exact s_ret (ih1 _ _ h)
      · cases h
    · split at h
      · exact s_ret0
      · cases h
    · split at h
      · simp only [Bool.and_eq_true] at h
        obtain ⟨⟨h1, h2⟩, h3⟩ := h
        exact s_ite (ih _ _ h1).2 (all2_ss ihs h2) (all2_ss ihs h3)
      · cases h
    · split at h
      · simp only [Bool.and_eq_true] at h
        obtain ⟨⟨⟨h1, h2⟩, h3⟩, h4⟩ := h
        exact s_for g.passes g.calm (pi_sound g ih1 h3) (tg_sound g.calm g.nd (sto_def g hf) (by rw [g.hN]; exact h1)) (all2_ss ihs h4) (noset_fold h2)
      · cases h
    · split at h
      · simp only [Bool.and_eq_true] at h
        exact s_while g.passes (ih _ _ h.1).2 (all2_ss ihs h.2)
      · cases h
    · split at h
      · exact s_pass
      · cases h
    · split at h
      · exact s_brk
      · cases h
    · split at h
      · exact s_cont
      · cases h
    · exact s_never
end
end SG
namespace SG
open PySem PySem.Spec PyProof.Rows L2
/-! ### the defs of a text -/
structure FDef where
  ps : List Str
  N : List Str
  body : List S
def startP (N : List Str) (vs : List PV) : Rho := vs.map some ++ List.replicate (N.length - vs.length) none
def fnEnds (Q : Q1) : SG.Ends := ⟨fun _ M => Q .non M, Q, fun _ _ => False, fun _ _ => False⟩
def callN (T : List (Str × FDef)) : Nat → FS
  | 0 => fun _ _ _ _ => False
  | k + 1 => fun f vs M Q => ∃ d, T.lookup f = some d ∧ vs.length = d.ps.length ∧ wpSs (callN T k) d.body (startP d.N vs) M (fnEnds Q)
theorem callN_mono (T : List (Str × FDef)) : ∀ k, FMono (callN T k)
  | 0 => fun f vs M Q Q' _ h => h
  | k + 1 => fun f vs M Q Q' i ⟨d, h1, h2, h3⟩ => ⟨d, h1, h2, wpSs_mono (callN_mono T k) _ _ _ (fnEnds Q) (fnEnds Q') ⟨fun _ _ q => i _ _ q, fun _ _ q => i _ _ q, fun _ _ q => q, fun _ _ q => q⟩ h3⟩
theorem callN_iff {T : List (Str × FDef)} {k : Nat} {f : Str} {vs : List PV} {M : Sto} {Q : Q1} {d : FDef} (h : T.lookup f = some d) : callN T (k + 1) f vs M Q ↔ (vs.length = d.ps.length ∧ wpSs (callN T k) d.body (startP d.N vs) M (fnEnds Q)) :=
  ⟨fun ⟨d', h1, h2⟩ => by rw [h] at h1; cases h1; exact h2, fun h2 => ⟨d, h, h2⟩⟩
structure DefOk (K : PySem.W.Frag) (n : Nfo) (f : Str) (d : FDef) (a : Addr) : Prop where
  ok : ∃ (params : Arguments) (body : List Stmt) (scope : Scope) (fd : FuncData) (k : Nat), FunD K f f params body scope [] [] a fd ∧ FnScope d.N d.ps scope ∧
    (∀ (kV doc pm : Value) (an : Option Addr) (cdv ct : Value) (us : List Value), us.length = d.ps.length → bindArgs (PySem.W.fnOf f f params body scope .none kV doc pm an cdv ct) ⟨us, []⟩ = pure (d.ps.zip us)) ∧
    all2 (chkS n d.N k scope) body d.body = true
structure Tab (P : Program) (w : World) (K : PySem.W.Frag) (mg : Str → Option Value) (n : Nfo) (T : List (Str × FDef)) (ga : Str → Option Addr) : Prop where
  fns : n.fns = T.map (·.1)
  def_ : ∀ f d, T.lookup f = some d → ∃ a, ga f = some a ∧ mg f = some (.ref a) ∧ DefOk K n f d a
  known : ∀ f a, ga f = some a → f ∈ n.fns
  cns : ∀ c v, n.cns.lookup c = some v → ∃ x u, mg c = some u ∧ RelV x u ∧ ∀ H M Z, Rep ⟨P, w, K, ga⟩ H M Z v x
  blt : ∀ b ∈ bltNames, mg b = none
theorem lookup_has {α : Type} {f : Str} : ∀ {T : List (Str × α)}, f ∈ T.map (·.1) → ∃ d, T.lookup f = some d
  | [], h => by cases h
  | (g, d) :: r, h => by
    by_cases e : f = g
    · subst e; exact ⟨d, by simp [List.lookup]⟩
    · have h' : f ∈ r.map (·.1) := by
        rcases List.mem_cons.mp h with q | q
        · exact absurd q e
        · exact q
      obtain ⟨x, hx⟩ := lookup_has h'
      refine ⟨x, ?_⟩
      unfold List.lookup
      rw [show (f == g) = false from beq_eq_false_iff_ne.mpr e]
      exact hx
theorem lookup_in {α : Type} {f : Str} {d : α} : ∀ {T : List (Str × α)}, T.lookup f = some d → f ∈ T.map (·.1)
  | [], h => by cases h
  | (g, x) :: r, h => by
    unfold List.lookup at h
    by_cases e : f = g
    · exact List.mem_cons.mpr (.inl e)
    · rw [show (f == g) = false from beq_eq_false_iff_ne.mpr e] at h
      exact List.mem_cons.mpr (.inr (lookup_in h))
theorem env_start {C : Ctx} {H : Hp} {M : Sto} {Z : Addr → Prop} {vs : List PV} {xs : List V} (N : List Str) (r : RepL C H M Z vs xs) : EnvR C H M Z (startP N vs) (L2.start N xs) := by
  have hl : vs.length = xs.length := r.length
  refine ⟨by unfold startP L2.start; simp [hl], fun i v h => ?_⟩
  unfold startP at h
  by_cases hi : i < vs.length
  · rw [List.getElem?_append_left (by simpa using hi), List.getElem?_map] at h
    cases e : vs[i]? with
    | none => rw [e] at h; cases h
    | some y =>
      rw [e] at h; cases h
      obtain ⟨x, hx, rx⟩ := r.get e
      refine ⟨x, ?_, rx⟩
      unfold L2.start
      rw [List.getElem?_append_left (by rw [List.length_map]; omega), List.getElem?_map, hx]
      rfl
  · rw [List.getElem?_append_right (by simpa using hi), List.getElem?_replicate] at h
    split at h <;> cases h
section
variable {P : Program} {w : World} {K : PySem.W.Frag} {mg : Str → Option Value} {n : Nfo} {T : List (Str × FDef)} {ga : Str → Option Addr}
theorem all_sound {X : Cx} {F : FS} {kk k : Nat} {sc : Scope} {N : List Str} {xs : List Stmt} {ss : List S} (g : Gd n F ga kk sc N X) (hf : ∀ x, X.fn x = true) (h : all2 (chkS n N k sc) xs ss = true) : PSs X xs (rdSs (ctx X ga) F ss) :=
  all2_ss (fun st s q => soundS g hf k st s q) h
theorem Tab.fn (t : Tab P w K mg n T ga) (base : Heap) : ∀ (k : Nat) (f : Str) (a : Addr), ga f = some a → FnG P w K mg base ga k a (callN T k f)
  | 0, f, a, h => by
    have hm := t.known f a h
    rw [t.fns] at hm
    obtain ⟨d, hd⟩ := lookup_has hm
    obtain ⟨a', e1, _, D⟩ := t.def_ f d hd
    rw [h] at e1; cases e1
    obtain ⟨_, _, _, _, _, F, _⟩ := D.ok
    refine ⟨F.kp, fun A outer s H us vs Q hr e0 r q => ?_⟩
    obtain ⟨_, _, _, _, _, _, q, _⟩ := q
    exact q.elim
  | k + 1, f, a, h => by
    have hm := t.known f a h
    rw [t.fns] at hm
    obtain ⟨d, hd⟩ := lookup_has hm
    obtain ⟨a', e1, _, D⟩ := t.def_ f d hd
    rw [h] at e1; cases e1
    obtain ⟨params, body, scope, fd, kc, F, S, hbd, hck⟩ := D.ok
    refine ⟨F.kp, fun A outer s H us xs Q hr e0 r q => ?_⟩
    obtain ⟨vs, M, Z, Q', sr, rl, ⟨d', hd', hlen, hw⟩, cl⟩ := q
    rw [hd] at hd'; cases hd'
    have lv : vs.length = xs.length := rl.length
    have lu : xs.length = us.length := r.length
    obtain ⟨oc, od, dV, kV, doc, pm, an, cdv, ct, osl, rfl, lk, hcd, hD, _⟩ := F.ex
    have hdV : dV = .none := by
      rcases hD with ⟨_, z⟩ | ⟨z, _⟩
      · exact z
      · exact absurd rfl z
    subst hdV
    have KX : K.In s.heap := e0.mod.kin.keeps fun b o e => (e0.bs b o e).1
    have lim : s.heap.NoLimit := e0.mod.nolimit.keeps fun b o e => (e0.bs b o e).1
    have hb : BindsTo s (PySem.W.fnOf f f params body scope .none kV doc pm an cdv ct) ⟨us, []⟩ (d.ps.zip us) := .of_eq (hbd kV doc pm an cdv ct us (by omega))
    have kinds : ∀ y ∈ d.ps.zip us, scope.names.lookup y.1 = some .local ∨ (scope.names.lookup y.1 = some .cell ∧ ((cellsFrom (s.heap.objs.size + 1) scope.names []).lookup y.1).isSome = true) := fun y hy => by
      obtain ⟨m, v⟩ := y
      rcases S.par m (List.of_mem_zip hy).1 with z | z
      · exact .inl z
      · exact .inr ⟨z, PySem.W.cellsFrom_some _ _ _ (.inl z)⟩
    refine codeAny_call_function hr.room.depth (KX _ _ lk) rfl S.co S.gen rfl (PySem.W.codeRec_of KX hcd) (hb _ _ _ _ ?_)
    refine wpAny_newFunctionEnv_cells S.kind kinds fun env he s1 x => ?_
    subst he
    refine ⟨lim.keeps x.toInCall.keep, codeAny_func ?_⟩
    have hrd := hr.room.deeper (envOfC f scope s.heap.objs.size a cdv)
    have I : L2.Inv (cxOf CX0 P w K mg base d.N f scope a cdv A outer s H E0) [] (start d.N xs) H s1 := inv_start S hr.room.hd e0 (by omega) r x
    have gd : Gd n (callN T k) ga k scope d.N (cxOf CX0 P w K mg base d.N f scope a cdv A outer s H E0).nox := by
      refine ⟨rfl, rfl, S.kind, rfl, S.nd, rfl, ⟨hrd, hr.gd⟩, fun g hg => ?_, fun g ys M' Q'' hq => ?_, t.known, t.cns, t.blt, callN_mono T k⟩
      · rw [t.fns] at hg
        obtain ⟨e, he⟩ := lookup_has hg
        obtain ⟨b, h1, h2, _⟩ := t.def_ g e he
        exact ⟨b, h1, h2, t.fn base k g b h1⟩
      · cases k with
        | zero => exact hq.elim
        | succ k =>
          obtain ⟨e, he, _⟩ := hq
          rw [t.fns]
          exact lookup_in he
    have hps := (all_sound gd (fun _ => rfl) hck).nox
    have hpre : rdSs ⟨P, w, K, ga⟩ (callN T k) d.body { nx := fun _ H' => Q .non H', rt := Q } (start d.N xs) H :=
      ⟨startP d.N vs, M, Z, fnEnds Q', sr, env_start d.N rl, hw, ⟨fun ρ σ H' M' Z' xx r' _ q' => cl _ _ H' M' Z' xx r' .non q', fun v y H' M' Z' xx r' rv q' => cl _ _ H' M' Z' xx r' rv q', fun _ _ _ _ _ _ _ _ q' => q'.elim, fun _ _ _ _ _ _ _ _ q' => q'.elim⟩⟩
    refine wpAny_mono (hps.run [] s1 (start d.N xs) H _ I hpre) (fun fl s' hs => ?_) fun e s' hs => hs
    cases fl with
    | ret u =>
      obtain ⟨v, σ', H', J, rv, q⟩ := hs
      exact ⟨v, H', J.os, J.bare, J.base, J.hok, rv, q⟩
    | next =>
      obtain ⟨σ', H', J, q⟩ := hs
      exact ⟨V.non, H', J.os, J.bare, J.base, J.hok, (rfl : RelV V.non Value.none), q⟩
    | brk =>
      obtain ⟨_, _, _, q⟩ := hs
      exact q.elim
    | cont =>
      obtain ⟨_, _, _, q⟩ := hs
      exact q.elim
end
/-! ### the law's call -/
theorem rep_ints {C : Ctx} {H : Hp} {M : Sto} {Z : Addr → Prop} : ∀ ns : List Int, RepL C H M Z (ns.map PV.int) (ns.map V.int)
  | [] => .nil
  | i :: r => .cons (.int i) (rep_ints r)
def noSto : Sto := fun _ => none
theorem lawCall {P : Program} {w : World} {K : PySem.W.Frag} {mg mb : Str → Option Value} {ga : Str → Option Addr} {k : Nat} {fa a : Addr} {g : List PV → Sto → Q1 → Prop} {t0 : Shared} {vs : List Value} {ns : List Int}
    (KX : K.In t0.heap) (hns : t0.heap.Ns mainGlobals mg) (hb : t0.heap.Ns builtinsNs mb) (hbb : ∀ x : Str, x ≠ "__name__" → mb x = bootBuiltins x) (hlim : t0.heap.NoLimit) (hg : t0.gens = #[])
    (ha : t0.heap.get? a = some { cls := .type "list", data := .seq vs.toArray }) (hi : IntsAre vs ns) (hl : ns.length ≤ sizeLine) (hr : Rm k callerA)
    (F : ∀ base : Heap, K.In base → base.Ns mainGlobals mg → FnG P w K mg base ga k fa g) (hsp : g [.lst (ns.map .int)] noSto (fun v _ => v = .bl true)) :
    codeAny (model P w) callerA (.call (.ref fa) ⟨[.ref a], []⟩) (fun r t => r = .ok (.ret (.bool true)) ∧ OldK t0.heap t.heap ∧ t.os = t0.os ∧ AllBare t.gens) t0 := by
  have rv := vals_ints hi
  have lenV := hi.length
  have core : ∀ G : Hp, Only G → ((∃ o, G a = some (.frz o (.lst (ns.map V.int)))) ∨ KLst K a (ns.map V.int)) → HOk P w G t0.heap → (∀ b, G b ≠ none → b = a) → (G a ≠ none → K.lookup a = none) →
      codeAny (model P w) callerA (.call (.ref fa) ⟨[.ref a], []⟩) (fun r t => r = .ok (.ret (.bool true)) ∧ OldK t0.heap t.heap ∧ t.os = t0.os ∧ AllBare t.gens) t0 := by
    intro G gO gS gok gA gK
    have at_a : ∀ {b : Addr}, G b ≠ none → b = a := fun {b} z => gA b z
    have lies : ∀ {b : Addr} {o : Obj}, t0.heap.get? b = some o → G b = none → (hidT t0.heap G).get? b = some o := fun e z => hidT_get e z
    have noDict : ∀ {b : Addr} {o : Obj} {es : Array DictEntry} {ep : Nat}, t0.heap.get? b = some o → o.data = .dict es ep → G b = none := fun {b o es ep} e dd => by
      refine Classical.byContradiction fun z => ?_
      rw [at_a z, ha] at e
      cases e
      have z' : Data.seq vs.toArray _ = Data.dict es ep := dd
      cases z'
    have nsG : ∀ {b : Addr} {m : Str → Option Value}, t0.heap.Ns b m → (hidT t0.heap G).Ns b m := fun {b m} z => by
      obtain ⟨o, es, ep, e, dd, rr⟩ := z
      exact ⟨o, es, ep, lies e (noDict e dd), dd, rr⟩
    have kG : K.In (hidT t0.heap G) := fun b o e => lies (KX b o e) (Classical.byContradiction fun z => by
      have e' := at_a z
      rw [e'] at e z
      rw [gK z] at e
      cases e)
    obtain ⟨mc, c1, c2⟩ := hlim
    have env0 : Env0 P w K mg (hidT t0.heap G) callerA [] t0 G := ⟨rfl, ⟨kG, nsG hns, ⟨mb, nsG hb, hbb⟩, ⟨mc, nsG c1, c2⟩⟩, fun b o e => of_hidT e, Nat.le_of_eq (hidT_size _ _), trivial, fun b z => absurd (show b ∈ ([] : List Addr) from z) (by simp), gok, .of_eq hg⟩
    have pre : rc ⟨P, w, K, ga⟩ g [.ref a] G (fun v _ => v = .bl true) :=
      ⟨[.lst (ns.map .int)], noSto, fun _ => False, _, ⟨fun b o z => (by cases z), fun b z => z.elim⟩, .cons (.lr gS (rep_ints ns)) .nil, hsp, fun v x H' M' Z' _ _ rv' q => by subst q; exact rv'.bl_inv⟩
    refine codeAny_mono ((F _ kG (nsG hns)).run callerA [] t0 G [.ref a] [.ref a] _ hr env0 (.cons rfl .nil) pre) fun r t h => ?_
    cases r with
    | error e => exact h.elim
    | ok fl =>
      cases fl with
      | next => exact False.elim h
      | brk => exact False.elim h
      | cont => exact False.elim h
      | ret u =>
        obtain ⟨v, G', os, bare, un, gok', r', q⟩ := h
        have q' : v = .bl true := q
        subst q'
        obtain rfl : u = Value.bool true := r'
        refine ⟨rfl, OldK.of_keep fun b o e => ?_, os, bare⟩
        by_cases z : G b = none
        · exact un.keep b o e z (fun z => absurd (show b ∈ ([] : List Addr) from z) (by simp)) (by simp)
        · rcases gO b with z1 | ⟨ob, ys, z1⟩
          · exact absurd z1 z
          · have z2 := un.frzs b ob _ z1
            have e1 := (gok b _ z1).1
            have e2 := (gok' b _ z2).1
            rw [e] at e1; cases e1
            exact e2
  by_cases hk : K.lookup a = none
  · refine core (fun b => if b = a then some (.frz { cls := .type "list", data := .seq vs.toArray } (.lst (ns.map V.int))) else none) (fun b => ?_) (.inl ⟨{ cls := .type "list", data := .seq vs.toArray }, if_pos rfl⟩) (fun b u z => ?_) (fun b z => ?_) fun _ => hk
    · by_cases e : b = a
      · exact .inr ⟨_, _, if_pos e⟩
      · exact .inl (if_neg e)
    · by_cases e : b = a
      · have z' := (if_pos e).symm.trans z
        cases z'
        subst e
        exact ⟨ha, by rw [List.length_map]; exact hl, vs, _, rv, ha⟩
      · have z' := (if_neg e).symm.trans z
        cases z'
    · exact Classical.byContradiction fun e => z (if_neg e)
  · obtain ⟨o, hk⟩ := Option.ne_none_iff_exists'.mp hk
    have e := KX a o hk
    rw [ha] at e
    cases e
    exact core (fun _ => none) (fun _ => .inl rfl) (.inr ⟨vs.toArray, _, hk, by rw [List.size_toArray, lenV]; exact hl, by simpa using rv⟩) (fun b u z => by cases z) (fun b z => absurd rfl z) fun z => absurd rfl z
theorem walkG {l : PySem.W.OpenLaw} {n k : Nat} {q : Program} {loose : List Str} {XP : (Str → Option Value) → Heap → Prop} {YP : World → Heap → Prop} {d : DefRec}
    (hn : l.most = some n) (hn2 : n ≤ sizeLine) (hdf : d.params.defaults = []) (hr : Room k callerA)
    (F : ∀ (w : World) (mg : Str → Option Value) (fa : Addr) (h : Heap), YP w h → h.Ns mainGlobals mg → mg d.name = some (.ref fa) →
      ∃ (K : PySem.W.Frag) (ga : Str → Option Addr) (g : List PV → Sto → Q1 → Prop), K.In h ∧ (∀ ns : List Int, ns.length ≤ n → g [.lst (ns.map .int)] noSto (fun v _ => v = .bl true)) ∧
        ∀ base : Heap, K.In base → base.Ns mainGlobals mg → FnG l.prog w K mg base ga k fa g) :
    PySem.W.WalkO q loose XP YP l.row.toRowW d [] (fun f vs => PySem.call f vs) := by
  refine Att.attach_call hn hdf fun w s₀ t0 mg mb fa o pm cd doc a vs ns G Y ho hd hcd hmg hobj hints hlen hg => ?_
  obtain ⟨K, ga, g, KX, hsp, hF⟩ := F w mg fa _ Y G.T.g hmg
  exact lawCall KX G.T.g G.T.b G.T.builtins G.T.nolimit hg hobj hints (Nat.le_trans hlen hn2) ⟨hr, rfl⟩ hF (hsp ns hlen)
end SG
namespace SG
open PySem PySem.Spec PyProof.Rows L2
/-- a def of the text: its row, its form in the small language -/
structure Src where
  nm : Str
  st : Stmt
  d : FDef
structure SrcOk (n : Nfo) (s : Src) : Prop where
  sc : FnScope s.d.N s.d.ps (defScope s.st)
  bd : ∀ (kV doc pm : Value) (an : Option Addr) (cdv ct : Value) (us : List Value), us.length = s.d.ps.length → bindArgs (PySem.W.fnOf s.nm s.nm (defArgs s.st) (defBody s.st) (defScope s.st) .none kV doc pm an cdv ct) ⟨us, []⟩ = pure (s.d.ps.zip us)
  ck : all2 (chkS n s.d.N 400 (defScope s.st)) (defBody s.st) s.d.body = true
def Src.dd (s : Src) : He.DefD := ⟨(s.nm, none), s.nm, s.nm, defArgs s.st, defBody s.st, defScope s.st, [], []⟩
def faC : Str × PV → He.Fa
  | (x, .int i) => .int x i
  | (x, .str z) => .str x z
  | (x, _) => .glo x
def okC : Str × PV → Bool
  | (_, .int _) => true
  | (_, .str _) => true
  | _ => false
def tabT (L : List Src) : List (Str × FDef) := L.map fun s => (s.nm, s.d)
def faL (L : List Src) (cns : List (Str × PV)) : List He.Fa := (L.map fun s => He.Fa.glo s.nm) ++ (bltNames.map He.Fa.free ++ cns.map faC)
def fnL (L : List Src) : List He.DefD := L.map Src.dd
def gaL (L : List Src) (K : PySem.W.Frag) (f : Str) : Option Addr := if f ∈ L.map (·.nm) then some (He.ga K f) else none
theorem tab_lookup {f : Str} {d : FDef} : ∀ {L : List Src}, (tabT L).lookup f = some d → ∃ s ∈ L, s.nm = f ∧ s.d = d
  | [], h => by cases h
  | s :: r, h => by
    unfold tabT at h
    rw [List.map_cons] at h
    unfold List.lookup at h
    by_cases e : f = s.nm
    · rw [show (f == s.nm) = true from beq_iff_eq.mpr e] at h
      exact ⟨s, List.mem_cons_self .., e.symm, Option.some.inj h⟩
    · rw [show (f == s.nm) = false from beq_eq_false_iff_ne.mpr e] at h
      obtain ⟨t, h1, h2⟩ := tab_lookup (L := r) h
      exact ⟨t, List.mem_cons_of_mem _ h1, h2⟩
theorem cns_lookup {c : Str} {v : PV} : ∀ {l : List (Str × PV)}, l.lookup c = some v → (c, v) ∈ l
  | [], h => by cases h
  | (x, u) :: r, h => by
    unfold List.lookup at h
    by_cases e : c = x
    · rw [show (c == x) = true from beq_iff_eq.mpr e] at h
      cases h
      rw [e]
      exact List.mem_cons_self ..
    · rw [show (c == x) = false from beq_eq_false_iff_ne.mpr e] at h
      exact List.mem_cons_of_mem _ (cns_lookup h)
theorem says_fact {fa : List He.Fa} {fn : List He.DefD} {K : PySem.W.Frag} (c : He.SaysD fa fn K) {f : He.Fa} (h : f ∈ fa) : f.ok K = true := by
  obtain ⟨i, hi⟩ := List.mem_iff_getElem?.mp h
  exact c.fact i hi
theorem says_def {fa : List He.Fa} {fn : List He.DefD} {K : PySem.W.Frag} (c : He.SaysD fa fn K) {d : He.DefD} (h : d ∈ fn) : ∃ fd, FunD K d.name d.qual d.params d.body d.scope (d.dvs K) (d.kws K) (He.fAd K d.at_) fd := by
  obtain ⟨i, hi⟩ := List.mem_iff_getElem?.mp h
  exact c.def_ i hi
theorem tab_of {P : Program} {w : World} {K : PySem.W.Frag} {h : Heap} {mg : Str → Option Value} {L : List Src} {cns : List (Str × PV)} (X : K.In h) (G : h.Ns mainGlobals mg) (c : He.SaysD (faL L cns) (fnL L) K)
    (ok : ∀ s ∈ L, SrcOk ⟨L.map (·.nm), cns⟩ s) (hc : cns.all okC = true) : Tab P w K mg ⟨L.map (·.nm), cns⟩ (tabT L) (gaL L K) where
  fns := by unfold tabT; rw [List.map_map]; rfl
  def_ := fun f d hf => by
    obtain ⟨s, hs, rfl, rfl⟩ := tab_lookup hf
    have hg : mg s.nm = some (.ref (He.ga K s.nm)) := He.glo_ok X G (says_fact c (f := .glo s.nm) (List.mem_append_left _ (List.mem_map.mpr ⟨s, hs, rfl⟩)))
    obtain ⟨fd, F⟩ := says_def c (d := s.dd) (List.mem_map.mpr ⟨s, hs, rfl⟩)
    have o := ok s hs
    exact ⟨He.ga K s.nm, if_pos (List.mem_map.mpr ⟨s, hs, rfl⟩), hg, ⟨defArgs s.st, defBody s.st, defScope s.st, fd, 400, F, o.sc, o.bd, o.ck⟩⟩
  known := fun f a hf => by
    unfold gaL at hf
    split at hf
    · assumption
    · cases hf
  cns := fun x v hx => by
    have hm := cns_lookup hx
    have hk := List.all_eq_true.mp hc _ hm
    have hf := says_fact c (f := faC (x, v)) (List.mem_append_right _ (List.mem_append_right _ (List.mem_map.mpr ⟨(x, v), hm, rfl⟩)))
    cases v with
    | int i =>
      obtain ⟨t, e⟩ := He.int_ok X G hf
      exact ⟨.int i, .int i t, e, ⟨t, rfl⟩, fun H M Z => .int i⟩
    | str z =>
      obtain ⟨t, e⟩ := He.str_ok X G hf
      exact ⟨.str z, .str z t, e, ⟨t, rfl⟩, fun H M Z => .str z⟩
    | _ => cases hk
  blt := fun b hb => He.free_ok X G (says_fact c (f := .free b) (List.mem_append_right _ (List.mem_append_left _ (List.mem_map.mpr ⟨b, hb, rfl⟩))))
/-- the law's promise from its text -/
theorem law_of {l : PySem.W.OpenLaw} {n k : Nat} {q : Program} {loose : List Str} {XP : (Str → Option Value) → Heap → Prop} {d : DefRec} {L : List Src} {cns : List (Str × PV)} {m : Nat}
    (hn : l.most = some n) (hn2 : n ≤ sizeLine) (hdf : d.params.defaults = []) (hr : Room k callerA) (hd : d.name ∈ L.map (·.nm)) (ok : ∀ s ∈ L, SrcOk ⟨L.map (·.nm), cns⟩ s) (hc : cns.all okC = true)
    (law : ∀ ns : List Int, ns.length ≤ n → callN (tabT L) k d.name [.lst (ns.map .int)] noSto (fun v _ => v = .bl true)) :
    PySem.W.WalkO q loose XP (He.hookD m (faL L cns) (fnL L)).says l.row.toRowW d [] (fun f vs => PySem.call f vs) := by
  refine walkG hn hn2 hdf hr fun w mg fa h Y G hmg => ?_
  obtain ⟨K, KX, c⟩ := Y
  have t : Tab l.prog w K mg ⟨L.map (·.nm), cns⟩ (tabT L) (gaL L K) := tab_of KX G c ok hc
  have hg : gaL L K d.name = some (He.ga K d.name) := if_pos hd
  have e : mg d.name = some (.ref (He.ga K d.name)) := by
    obtain ⟨s, hs, e⟩ := List.mem_map.mp hd
    rw [← e]
    exact He.glo_ok KX G (says_fact c (f := .glo s.nm) (List.mem_append_left _ (List.mem_map.mpr ⟨s, hs, rfl⟩)))
  rw [hmg] at e
  cases e
  exact ⟨K, gaL L K, callN (tabT L) k d.name, KX, law, fun base _ _ => t.fn base k d.name _ hg⟩
end SG
/-! laws of the small language, for the laws' own proofs -/
namespace SG
open PySem
theorem compL_map {α : Type} {f g : α → PV} {step : PV → Sto → (Option PV → Sto → Prop) → Prop} {Q : List PV → Sto → Prop} {M : Sto} : ∀ (xs : List α) (acc : List PV), (∀ x ∈ xs, ∀ k, step (f x) M k ↔ k (some (g x)) M) → (compL step (fun _ => True) (xs.map f) acc M Q ↔ Q (acc ++ xs.map g) M)
  | [], acc, _ => by simp [compL]
  | x :: r, acc, h => by
    have ih := compL_map (Q := Q) r (acc ++ [g x]) fun y hy => h y (List.mem_cons_of_mem _ hy)
    rw [List.map_cons]
    unfold compL
    rw [h x List.mem_cons_self]
    simp only [true_and]
    rw [ih]
    simp
theorem bools_map {α : Type} (p : α → Bool) : ∀ xs : List α, PV.bools (xs.map fun x => .bl (p x)) = some (xs.map p)
  | [] => rfl
  | x :: r => by
    show (PV.bools (r.map fun x => .bl (p x))).map (p x :: ·) = _
    rw [bools_map p r]; rfl
theorem ints_map {α : Type} (p : α → Int) : ∀ xs : List α, PV.ints (xs.map fun x => .int (p x)) = some (xs.map p)
  | [] => rfl
  | x :: r => by
    show (PV.ints (r.map fun x => .int (p x))).map (p x :: ·) = _
    rw [ints_map p r]; rfl
theorem pls_map {α : Type} {f : α → PV} (h : ∀ x, (f x).pl = true) : ∀ xs : List α, PV.pls (xs.map f) = true
  | [] => rfl
  | x :: r => by
    rw [List.map_cons]; unfold PV.pls
    rw [h x, pls_map h r]; rfl
theorem keys_ints : ∀ ws : List Int, PV.keys (ws.map PV.int) = some (ws.map NestedKey.num)
  | [] => rfl
  | w :: r => by
    rw [List.map_cons]; unfold PV.keys PV.key
    rw [keys_ints r]; rfl
theorem deps_ints : ∀ ws : List Int, PV.deps (ws.map PV.int) = 0
  | [] => rfl
  | w :: r => by
    rw [List.map_cons]; unfold PV.deps PV.dep
    rw [deps_ints r]; rfl
theorem kdep_nums : ∀ ws : List Int, NestedKey.depthAll (ws.map NestedKey.num) = 0
  | [] => rfl
  | w :: r => by
    rw [List.map_cons]; unfold NestedKey.depthAll NestedKey.depth
    rw [kdep_nums r]; rfl
theorem eqb_int (i j : Int) : PV.eqb (.int i) (.int j) = (i == j) := by unfold PV.eqb; rfl
theorem eqb_str (i j : Str) : PV.eqb (.str i) (.str j) = (i == j) := by unfold PV.eqb; rfl
/-! ### comparisons, places -/
theorem cmp_eq_int (i j : Int) (M : Sto) (Q : Q1) : cmpS .eq (.int i) (.int j) M Q ↔ Q (.bl (decide (i = j))) M := by
  have e : PV.eqb (.int i) (.int j) = decide (i = j) := by rw [eqb_int]; rfl
  unfold cmpS cmpOk eqS PV.now
  simp [PV.pl, PV.dep, e]
theorem cmp_ne_int (i j : Int) (M : Sto) (Q : Q1) : cmpS .ne (.int i) (.int j) M Q ↔ Q (.bl (!decide (i = j))) M := by
  have e : PV.eqb (.int i) (.int j) = decide (i = j) := by rw [eqb_int]; rfl
  unfold cmpS cmpOk eqS PV.now
  simp [PV.pl, PV.dep, e]
theorem cmp_eq_str (i j : Str) (M : Sto) (Q : Q1) : cmpS .eq (.str i) (.str j) M Q ↔ Q (.bl (decide (i = j))) M := by
  have e : PV.eqb (.str i) (.str j) = decide (i = j) := by
    rw [eqb_str]
    by_cases h : i = j
    · simp [h]
    · simp [h]
  unfold cmpS cmpOk eqS PV.now
  simp [e]
theorem cmp_ne_str (i j : Str) (M : Sto) (Q : Q1) : cmpS .ne (.str i) (.str j) M Q ↔ Q (.bl (!decide (i = j))) M := by
  have e : PV.eqb (.str i) (.str j) = decide (i = j) := by
    rw [eqb_str]
    by_cases h : i = j
    · simp [h]
    · simp [h]
  unfold cmpS cmpOk eqS PV.now
  simp [e]
theorem cmp_lt (x y : PV) (M : Sto) (Q : Q1) : cmpS .lt x y M Q ↔ ordS .lt x y M Q := Iff.rfl
theorem cmp_le (x y : PV) (M : Sto) (Q : Q1) : cmpS .le x y M Q ↔ ordS .le x y M Q := Iff.rfl
theorem cmp_gt (x y : PV) (M : Sto) (Q : Q1) : cmpS .gt x y M Q ↔ ordS .gt x y M Q := Iff.rfl
theorem cmp_ge (x y : PV) (M : Sto) (Q : Q1) : cmpS .ge x y M Q ↔ ordS .ge x y M Q := Iff.rfl
theorem cmp_is (x y : PV) (M : Sto) (Q : Q1) : cmpS .is x y M Q ↔ isS false x y M Q := Iff.rfl
theorem cmp_isnot (x y : PV) (M : Sto) (Q : Q1) : cmpS .isnot x y M Q ↔ isS true x y M Q := Iff.rfl
theorem cmp_eq_tup {xs ys : List PV} (h1 : PV.pls xs = true) (h2 : PV.pls ys = true) (h3 : PV.deps xs < 64 ∨ PV.deps ys < 64) (M : Sto) (Q : Q1) : cmpS .eq (.tup xs) (.tup ys) M Q ↔ Q (.bl (PV.eqbs xs ys)) M := by
  have e : PV.eqb (.tup xs) (.tup ys) = PV.eqbs xs ys := by rw [PV.eqb]
  have e1 : (PV.tup xs).pl = true := by rw [PV.pl]; exact h1
  have e2 : (PV.tup ys).pl = true := by rw [PV.pl]; exact h2
  have e3 : (PV.tup xs).dep ≤ 64 ∨ (PV.tup ys).dep ≤ 64 := by rw [PV.dep, PV.dep]; omega
  unfold cmpS cmpOk eqS PV.now
  simp only [e, e1, e2, e3, true_and, or_true]
theorem cmp_ne_tup {xs ys : List PV} (h1 : PV.pls xs = true) (h2 : PV.pls ys = true) (h3 : PV.deps xs < 64 ∨ PV.deps ys < 64) (M : Sto) (Q : Q1) : cmpS .ne (.tup xs) (.tup ys) M Q ↔ Q (.bl (!PV.eqbs xs ys)) M := by
  have e : PV.eqb (.tup xs) (.tup ys) = PV.eqbs xs ys := by rw [PV.eqb]
  have e1 : (PV.tup xs).pl = true := by rw [PV.pl]; exact h1
  have e2 : (PV.tup ys).pl = true := by rw [PV.pl]; exact h2
  have e3 : (PV.tup xs).dep ≤ 64 ∨ (PV.tup ys).dep ≤ 64 := by rw [PV.dep, PV.dep]; omega
  unfold cmpS cmpOk eqS PV.now
  simp only [e, e1, e2, e3, true_and, or_true]
theorem cmp_eq_nil {x : PV} {r : List PV} (h : PV.pls (x :: r) = true) (M : Sto) (Q : Q1) : cmpS .eq (.tup (x :: r)) (.tup []) M Q ↔ Q (.bl false) M := by
  rw [cmp_eq_tup h (by rfl) (.inr (by rw [PV.deps]; decide)) M Q, PV.eqbs]
  all_goals simp
theorem at_0 {α : Type} (x : α) (r : List α) : L2.atI (x :: r) 0 = some x := by
  unfold L2.atI L2.ixN
  simp
theorem at_n {α : Type} (xs : List α) (n : Nat) (h : n < xs.length) : L2.atI xs (n : Int) = xs[n]? := by
  unfold L2.atI L2.ixN
  simp [h]
theorem at_1 {α : Type} (x y : α) (r : List α) : L2.atI (x :: y :: r) 1 = some y := at_n (x :: y :: r) 1 (by simp)
theorem at_2 {α : Type} (x y z : α) (r : List α) : L2.atI (x :: y :: z :: r) 2 = some z := at_n (x :: y :: z :: r) 2 (by simp)
theorem at_3 {α : Type} (x y z u : α) (r : List α) : L2.atI (x :: y :: z :: u :: r) 3 = some u := at_n (x :: y :: z :: u :: r) 3 (by simp)
theorem at_4 {α : Type} (x y z u v : α) (r : List α) : L2.atI (x :: y :: z :: u :: v :: r) 4 = some v := at_n (x :: y :: z :: u :: v :: r) 4 (by simp)
theorem cast_0 : ((0 : Nat) : Int) = 0 := rfl
theorem cast_1 : ((1 : Nat) : Int) = 1 := rfl
theorem cast_2 : ((2 : Nat) : Int) = 2 := rfl
theorem cast_3 : ((3 : Nat) : Int) = 3 := rfl
theorem cast_4 : ((4 : Nat) : Int) = 4 := rfl
theorem cast_5 : ((5 : Nat) : Int) = 5 := rfl
theorem cast_6 : ((6 : Nat) : Int) = 6 := rfl
theorem cast_7 : ((7 : Nat) : Int) = 7 := rfl
theorem cast_8 : ((8 : Nat) : Int) = 8 := rfl
theorem cast_9 : ((9 : Nat) : Int) = 9 := rfl
/-! ### operations on values that are told -/
theorem so_tup (M : Sto) (xs : List PV) : so M (.tup xs) = some xs := rfl
theorem so_lst (M : Sto) (xs : List PV) : so M (.lst xs) = some xs := rfl
theorem lo_lst (M : Sto) (xs : List PV) : lo M (.lst xs) = some xs := rfl
theorem so_ref {M : Sto} {a : Addr} {xs : List PV} (h : M a = some (.lst xs)) : so M (.ref a) = some xs := by
  show lo M (.ref a) = _
  unfold lo
  simp only [h]
theorem lo_ref {M : Sto} {a : Addr} {xs : List PV} (h : M a = some (.lst xs)) : lo M (.ref a) = some xs := by
  unfold lo
  simp only [h]
theorem tru_non (M : Sto) : truS M .non = some false := rfl
theorem tru_bl (M : Sto) (b : Bool) : truS M (.bl b) = some b := rfl
theorem tru_int (M : Sto) (i : Int) : truS M (.int i) = some (i != 0) := rfl
theorem tru_tup (M : Sto) (xs : List PV) : truS M (.tup xs) = some (!xs.isEmpty) := rfl
theorem tru_lst (M : Sto) (xs : List PV) : truS M (.lst xs) = some (!xs.isEmpty) := rfl
theorem bin_add_int (i j : Int) (M : Sto) (Q : Q1) : binS .add (.int i) (.int j) M Q ↔ Q (.int (i + j)) M := Iff.rfl
theorem bin_add_tup (xs ys : List PV) (M : Sto) (Q : Q1) : binS .add (.tup xs) (.tup ys) M Q ↔ xs.length + ys.length ≤ sizeLine ∧ Q (.tup (xs ++ ys)) M := Iff.rfl
theorem bin_add_lst (xs ys : List PV) (M : Sto) (Q : Q1) : binS .add (.lst xs) (.lst ys) M Q ↔ xs.length + ys.length ≤ sizeLine ∧ Q (.lst (xs ++ ys)) M := by
  unfold binS addS newL
  simp [lo]
theorem bin_sub (i j : Int) (M : Sto) (Q : Q1) : binS .sub (.int i) (.int j) M Q ↔ Q (.int (i - j)) M := by
  unfold binS
  simp
theorem bin_mul (i j : Int) (M : Sto) (Q : Q1) : binS .mul (.int i) (.int j) M Q ↔ ((i.natAbs.log2 < 64 ∨ j.natAbs.log2 < 64) ∨ i.natAbs.log2 + j.natAbs.log2 < 1000000) ∧ Q (.int (i * j)) M := Iff.rfl
theorem bin_fdiv (i j : Int) (M : Sto) (Q : Q1) : binS .fdiv (.int i) (.int j) M Q ↔ 0 < j ∧ j.natAbs.log2 < 9000 ∧ Q (.int (i / j)) M := by
  unfold binS
  simp
theorem bin_mod (i j : Int) (M : Sto) (Q : Q1) : binS .mod (.int i) (.int j) M Q ↔ 0 < j ∧ Q (.int (i % j)) M := by
  unfold binS
  simp
theorem bin_pow (i j : Int) (M : Sto) (Q : Q1) : binS .pow (.int i) (.int j) M Q ↔ 0 ≤ j ∧ j ≤ 1000000 ∧ i.natAbs < 2 ^ 64 ∧ Q (.int (i ^ j.toNat)) M := by
  unfold binS
  simp
theorem ord_int (op : Cp) (i j : Int) (M : Sto) (Q : Q1) : ordS op (.int i) (.int j) M Q ↔ Q (.bl (ordI op i j)) M := Iff.rfl
theorem ordI_lt (i j : Int) : ordI .lt i j = decide (i < j) := rfl
theorem ordI_le (i j : Int) : ordI .le i j = decide (i ≤ j) := rfl
theorem ordI_gt (i j : Int) : ordI .gt i j = decide (j < i) := rfl
theorem ordI_ge (i j : Int) : ordI .ge i j = decide (j ≤ i) := rfl
theorem ix_tup (xs : List PV) (i : Int) (M : Sto) (Q : Q1) : ixS (.tup xs) (.int i) M Q ↔ ∃ v, L2.atI xs i = some v ∧ Q v M := by
  unfold ixS
  simp [so]
theorem ix_lst (xs : List PV) (i : Int) (M : Sto) (Q : Q1) : ixS (.lst xs) (.int i) M Q ↔ ∃ v, L2.atI xs i = some v ∧ Q v M := by
  unfold ixS
  simp [so, lo]
theorem ix_ref {M : Sto} {a : Addr} {xs : List PV} (h : M a = some (.lst xs)) (i : Int) (Q : Q1) : ixS (.ref a) (.int i) M Q ↔ ∃ v, L2.atI xs i = some v ∧ Q v M := by
  unfold ixS
  simp [so_ref h]
theorem sl_tup (xs : List PV) (l h : Option Int) (M : Sto) (Q : Q1) : slS (.tup xs) l h M Q ↔ Q (.tup (cutP xs l h)) M := Iff.rfl
theorem sl_lst (xs : List PV) (l h : Option Int) (M : Sto) (Q : Q1) : slS (.lst xs) l h M Q ↔ Q (.lst (cutP xs l h)) M := by
  unfold slS
  simp [lo]
theorem is_non (neg : Bool) (x : PV) (M : Sto) (Q : Q1) : isS neg x .non M Q ↔ Q (.bl (if neg = true then !(match x with | .non => true | _ => false) else (match x with | .non => true | _ => false))) M := by
  cases x <;> exact Iff.rfl
theorem is_bl (neg a b : Bool) (M : Sto) (Q : Q1) : isS neg (.bl a) (.bl b) M Q ↔ Q (.bl (if neg = true then !(a == b) else a == b)) M := Iff.rfl
theorem isi_int (i : Int) (M : Sto) (t : Ty) : isiS (.int i) M t = some (match t with | .int => true | _ => false) := rfl
theorem isi_bl (i : Bool) (M : Sto) (t : Ty) : isiS (.bl i) M t = some (match t with | .int => true | .bool => true | _ => false) := rfl
theorem isi_str (i : Str) (M : Sto) (t : Ty) : isiS (.str i) M t = some (match t with | .str => true | _ => false) := rfl
theorem isi_tup (i : List PV) (M : Sto) (t : Ty) : isiS (.tup i) M t = some (match t with | .tuple => true | _ => false) := rfl
theorem isi_lst (i : List PV) (M : Sto) (t : Ty) : isiS (.lst i) M t = some (match t with | .list => true | _ => false) := rfl
theorem isi_non (M : Sto) (t : Ty) : isiS .non M t = some false := rfl
theorem b_len (v : PV) (M : Sto) (Q : Q1) : bltS .len [v] M Q ↔ lenS v M Q := Iff.rfl
theorem len_tup (xs : List PV) (M : Sto) (Q : Q1) : lenS (.tup xs) M Q ↔ Q (.int xs.length) M := by
  unfold lenS
  simp [so]
theorem len_lst (xs : List PV) (M : Sto) (Q : Q1) : lenS (.lst xs) M Q ↔ Q (.int xs.length) M := by
  unfold lenS
  simp [so, lo]
theorem len_ref {M : Sto} {a : Addr} {xs : List PV} (h : M a = some (.lst xs)) (Q : Q1) : lenS (.ref a) M Q ↔ Q (.int xs.length) M := by
  unfold lenS
  simp [so_ref h]
theorem b_abs (i : Int) (M : Sto) (Q : Q1) : bltS .abs [.int i] M Q ↔ Q (.int (if i < 0 then -i else i)) M := Iff.rfl
theorem b_int (i : Int) (M : Sto) (Q : Q1) : bltS .int [.int i] M Q ↔ Q (.int i) M := Iff.rfl
theorem b_int_bl (b : Bool) (M : Sto) (Q : Q1) : bltS .int [.bl b] M Q ↔ Q (.int (if b = true then 1 else 0)) M := Iff.rfl
theorem b_max2 (i j : Int) (M : Sto) (Q : Q1) : bltS .max [.int i, .int j] M Q ↔ Q (.int (if j > i then j else i)) M := by
  unfold bltS maxS
  simp
theorem b_min2 (i j : Int) (M : Sto) (Q : Q1) : bltS .min [.int i, .int j] M Q ↔ Q (.int (if j < i then j else i)) M := by
  unfold bltS minS
  simp
theorem b_all (xs : List PV) (M : Sto) (Q : Q1) : bltS .all [.lst xs] M Q ↔ ∃ bs, PV.bools xs = some bs ∧ Q (.bl (bs.all id)) M := by
  unfold bltS one1
  simp [lo]
theorem b_any (xs : List PV) (M : Sto) (Q : Q1) : bltS .any [.lst xs] M Q ↔ ∃ bs, PV.bools xs = some bs ∧ Q (.bl (bs.any id)) M := by
  unfold bltS one1
  simp [lo]
theorem b_sum (xs : List PV) (M : Sto) (Q : Q1) : bltS .sum [.lst xs] M Q ↔ ∃ ns, PV.ints xs = some ns ∧ Q (.int ns.sum) M := by
  unfold bltS one1
  simp [lo]
theorem b_tuple_lst (xs : List PV) (M : Sto) (Q : Q1) : bltS .tuple [.lst xs] M Q ↔ Q (.tup xs) M := by
  unfold bltS one1
  simp [so, lo]
theorem b_list_tup (xs : List PV) (M : Sto) (Q : Q1) : bltS .list [.tup xs] M Q ↔ Q (.lst xs) M := by
  unfold bltS one1
  simp [so, lo]
theorem b_repr (v : PV) (M : Sto) (Q : Q1) : bltS .repr [v] M Q ↔ repOk (v.now M) ∧ Q (.str (v.now M).dat.shown) M := Iff.rfl
theorem now_tup (xs : List PV) (M : Sto) : (PV.tup xs).now M = .tup xs := rfl
theorem now_lst (xs : List PV) (M : Sto) : (PV.lst xs).now M = .lst xs := rfl
theorem now_int (i : Int) (M : Sto) : (PV.int i).now M = .int i := rfl
theorem now_bl (i : Bool) (M : Sto) : (PV.bl i).now M = .bl i := rfl
theorem new_f (xs : List PV) (M : Sto) (Q : Q1) : newL false xs M Q ↔ Q (.lst xs) M := by
  unfold newL
  simp
theorem new_t (xs : List PV) (M : Sto) (Q : Q1) : newL true xs M Q ↔ ∀ p, M p = none → Q (.ref p) (M.put p (.lst xs)) := by
  unfold newL
  simp
theorem walk_tup (xs : List PV) (M : Sto) (Q : QI) : walkS (.tup xs) M Q ↔ Q xs (fun _ => True) M := Iff.rfl
theorem walk_lst (xs : List PV) (M : Sto) (Q : QI) : walkS (.lst xs) M Q ↔ Q xs (fun _ => True) M := Iff.rfl
theorem walk_ref {M : Sto} {a : Addr} {xs : List PV} (h : M a = some (.lst xs)) (Q : QI) : walkS (.ref a) M Q ↔ Q xs (fun M' => M' a = some (.lst xs)) M := by
  unfold walkS
  constructor
  · rintro ⟨ys, e, q⟩
    rw [h] at e
    cases e
    exact q
  · intro q
    exact ⟨xs, h, q⟩
theorem zip_2 (x y : PV) (M : Sto) (Q : QI) : zipS [x, y] M Q ↔ ∃ xs ys, srcS x = some xs ∧ srcS y = some ys ∧ Q (zipL xs ys) (fun _ => True) M := Iff.rfl
theorem zip_3 (x y z : PV) (M : Sto) (Q : QI) : zipS [x, y, z] M Q ↔ ∃ xs ys zs, srcS x = some xs ∧ srcS y = some ys ∧ srcS z = some zs ∧ Q (zipL3 xs ys zs) (fun _ => True) M := Iff.rfl
theorem src_tup (xs : List PV) : srcS (.tup xs) = some xs := rfl
theorem src_lst (xs : List PV) : srcS (.lst xs) = some xs := rfl
theorem rev_tup (xs : List PV) (M : Sto) (Q : Q1) : revS (.tup xs) M Q ↔ Q (.tup xs.reverse) M := Iff.rfl
theorem rev_lst (xs : List PV) (M : Sto) (Q : Q1) : revS (.lst xs) M Q ↔ Q (.lst xs.reverse) M := by
  unfold revS
  simp [lo]
theorem bind_lst (gs : List Tg) (vs : List PV) (ρ : Rho) : bindT (.tp gs) (.lst vs) ρ = bindTs gs vs ρ := by rw [bindT]
theorem enm_tup (v : List PV) (P : List PV → Prop) : (∃ xs, (PV.tup v = .lst xs ∨ PV.tup v = .tup xs) ∧ P xs) ↔ P v := by
  constructor
  · rintro ⟨xs, e | e, h⟩
    · cases e
    · cases e; exact h
  · intro h
    exact ⟨v, .inr rfl, h⟩
theorem enm_lst (v : List PV) (P : List PV → Prop) : (∃ xs, (PV.lst v = .lst xs ∨ PV.lst v = .tup xs) ∧ P xs) ↔ P v := by
  constructor
  · rintro ⟨xs, e | e, h⟩
    · cases e; exact h
    · cases e
  · intro h
    exact ⟨v, .inl rfl, h⟩
theorem put_at (M : Sto) (a : Addr) (o : SO) : M.put a o a = some o := Sto.put_same
theorem six_ref {M : Sto} {a : Addr} {xs : List PV} (h : M a = some (.lst xs)) (k : Int) (v : PV) (Q : Sto → Prop) : setS (.ref a) (.int k) v M Q ↔ ∃ j, L2.ixN xs.length k = some j ∧ Q (M.put a (.lst (xs.set j v))) := by
  unfold setS
  constructor
  · rintro ⟨ys, j, e, e2, q⟩
    rw [h] at e
    cases e
    exact ⟨j, e2, q⟩
  · rintro ⟨j, e2, q⟩
    exact ⟨xs, j, h, e2, q⟩
theorem app_ref {M : Sto} {a : Addr} {xs : List PV} (h : M a = some (.lst xs)) (v : PV) (Q : Q1) : mthS .append (.ref a) [v] M Q ↔ xs.length < sizeLine ∧ Q .non (M.put a (.lst (xs ++ [v]))) := by
  unfold mthS
  constructor
  · rintro ⟨b, ys, e, e2, z, q⟩
    cases e
    rw [h] at e2
    cases e2
    exact ⟨z, q⟩
  · rintro ⟨z, q⟩
    exact ⟨a, xs, rfl, h, z, q⟩
theorem ext_ref {M : Sto} {a : Addr} {xs ys : List PV} (h : M a = some (.lst xs)) (Q : Q1) : mthS .extend (.ref a) [.lst ys] M Q ↔ xs.length + ys.length ≤ sizeLine ∧ Q .non (M.put a (.lst (xs ++ ys))) := by
  unfold mthS
  constructor
  · rintro ⟨b, us, zs, e, e2, e3, z, q⟩
    cases e
    rw [h] at e2
    cases e2
    cases e3
    exact ⟨z, q⟩
  · rintro ⟨z, q⟩
    exact ⟨a, xs, ys, rfl, h, rfl, z, q⟩
theorem rcv_ref {M : Sto} {a : Addr} {xs : List PV} (h : M a = some (.lst xs)) (m : Mt) : rcvS m (.ref a) M ↔ True := by
  unfold rcvS
  simp [lo_ref h]
theorem ixN_0 (n : Nat) : L2.ixN (n + 1) 0 = some 0 := by
  unfold L2.ixN
  simp
theorem ixN_lit {n k : Nat} (h : k < n) : L2.ixN n (k : Int) = some k := by
  unfold L2.ixN
  simp [h]
theorem ixN_32 : L2.ixN 3 2 = some 2 := ixN_lit (n := 3) (k := 2) (by decide)
theorem ixN_31 : L2.ixN 3 1 = some 1 := ixN_lit (n := 3) (k := 1) (by decide)
theorem ixN_30 : L2.ixN 3 0 = some 0 := ixN_0 2
theorem at_some {α : Type} (xs : List α) (j : Int) (h0 : 0 ≤ j) (h1 : j < xs.length) : ∃ x ∈ xs, L2.atI xs j = some x := by
  obtain ⟨n, rfl⟩ := Int.eq_ofNat_of_zero_le h0
  have hn : n < xs.length := by omega
  exact ⟨xs[n], List.getElem_mem hn, by rw [at_n xs n hn, List.getElem?_eq_getElem hn]⟩
theorem bind_nm (i : Nat) (v : PV) (ρ : Rho) : bindT (.nm i) v ρ = some (ρ.set i (some v)) := by rw [bindT]
theorem bind_tp (gs : List Tg) (vs : List PV) (ρ : Rho) : bindT (.tp gs) (.tup vs) ρ = bindTs gs vs ρ := by rw [bindT]
theorem binds_nil (ρ : Rho) : bindTs [] [] ρ = some ρ := by rw [bindTs]
theorem binds_nm (i : Nat) (gs : List Tg) (v : PV) (r : List PV) (ρ : Rho) : bindTs (.nm i :: gs) (v :: r) ρ = bindTs gs r (ρ.set i (some v)) := by rw [bindTs]; simp only [bind_nm]
theorem binds_tp (hs gs : List Tg) (us r : List PV) (ρ : Rho) : bindTs (.tp hs :: gs) (.tup us :: r) ρ = (bindTs hs us ρ).bind (bindTs gs r) := by
  rw [bindTs]
  simp only [bind_tp]
  cases bindTs hs us ρ <;> rfl
/-! ### what repr can show -/
mutual
def PV.sm : PV → Bool
  | .int i => decide (i.natAbs < 10 ^ 12)
  | .str x => PyData.strOk x
  | .tup xs => PV.sms xs
  | .lst xs => PV.sms xs
  | .non => true
  | .bl _ => true
  | .ref _ => false
  | .fn _ => false
  | .emp => false
def PV.sms : List PV → Bool
  | [] => true
  | x :: r => PV.sm x && PV.sms r
end
mutual
def PV.wt : PV → Nat
  | .int _ => 41
  | .str x => x.cps.size
  | .tup xs => PV.wts xs
  | .lst xs => PV.wts xs
  | _ => 0
def PV.wts : List PV → Nat
  | [] => 0
  | x :: r => PV.wt x + 1 + PV.wts r
end
mutual
theorem sm_ok : ∀ v : PV, v.sm = true → v.pl = true ∧ v.dat.showable = true ∧ v.dat.intsShort 13 = true ∧ v.dat.weight ≤ v.wt
  | .non, _ => ⟨rfl, rfl, rfl, Nat.le_refl _⟩
  | .bl _, _ => ⟨rfl, rfl, rfl, Nat.le_refl _⟩
  | .int i, h => by
    unfold PV.sm at h
    have h := of_decide_eq_true h
    have hl : i.natAbs.log2 < 40 := by
      by_cases z : i.natAbs = 0
      · rw [z]; decide
      · exact (Nat.log2_lt z).mpr (by omega)
    refine ⟨by simp [PV.pl], ?_, ?_, ?_⟩
    · unfold PV.dat PyData.showable
      exact decide_eq_true (by omega)
    · unfold PV.dat PyData.intsShort
      exact decide_eq_true (PyData.shown_int_le h)
    · unfold PV.dat PyData.weight PV.wt
      split <;> omega
  | .str x, h => ⟨by unfold PV.pl; unfold PV.sm at h; exact h, rfl, rfl, Nat.le_refl _⟩
  | .tup xs, h => by
    unfold PV.sm at h
    obtain ⟨a, b, c, d⟩ := sms_ok xs h
    unfold PV.dat PyData.showable PyData.intsShort PyData.weight PV.wt PV.pl
    exact ⟨a, b, c, d⟩
  | .lst xs, h => by
    unfold PV.sm at h
    obtain ⟨a, b, c, d⟩ := sms_ok xs h
    unfold PV.dat PyData.showable PyData.intsShort PyData.weight PV.wt PV.pl
    exact ⟨a, b, c, d⟩
  | .ref _, h => by unfold PV.sm at h; cases h
  | .fn _, h => by unfold PV.sm at h; cases h
  | .emp, h => by unfold PV.sm at h; cases h
theorem sms_ok : ∀ xs : List PV, PV.sms xs = true → PV.pls xs = true ∧ PyData.showableAll (PV.dats xs) = true ∧ PyData.intsShortAll 13 (PV.dats xs) = true ∧ PyData.weightAll (PV.dats xs) ≤ PV.wts xs
  | [], _ => ⟨rfl, rfl, rfl, Nat.le_refl _⟩
  | x :: r, h => by
    unfold PV.sms at h
    rw [Bool.and_eq_true_iff] at h
    obtain ⟨a, b, c, d⟩ := sm_ok x h.1
    obtain ⟨a', b', c', d'⟩ := sms_ok r h.2
    unfold PV.dats PyData.showableAll PyData.intsShortAll PyData.weightAll PV.wts PV.pls
    rw [a, a', b, b', c, c']
    exact ⟨rfl, rfl, rfl, by omega⟩
end
theorem repOk_of {v : PV} (h : v.sm = true) (hd : v.dep ≤ 60) (hw : v.wt ≤ 2 ^ 20) : repOk v := by
  obtain ⟨a, b, c, d⟩ := sm_ok v h
  exact ⟨a, hd, b, PyData.shown_fits (B := 13) (by decide) (by decide) (PyData.leavesShort_of_canLay0 13 _ (PV.dat_lay v a) c) (by omega)⟩
/-! ### loops -/
/-- a loop that works on a state alone -/
theorem forL_st {α β : Type} {turn : PV → Rho → Sto → (Rho → Sto → Prop) → Prop} {done : Rho → Sto → Prop} {f : α → PV} {M : Sto} (rho : β → Rho) (step : β → α → β) : ∀ (xs : List α) (b : β), (∀ x ∈ xs, ∀ b k, turn (f x) (rho b) M k ↔ k (rho (step b x)) M) →
    (forL turn (fun _ => True) done (xs.map f) (rho b) M ↔ done (rho (xs.foldl step b)) M)
  | [], b, _ => Iff.rfl
  | x :: r, b, h => by
    rw [List.map_cons, List.foldl_cons]
    unfold forL
    rw [h x List.mem_cons_self]
    simp only [true_and]
    exact forL_st rho step r (step b x) fun y hy => h y (List.mem_cons_of_mem _ hy)
theorem cut_map {α β : Type} (f : α → β) (xs : List α) (l h : Option Int) : cutP (xs.map f) l h = (cutP xs l h).map f := by
  unfold cutP
  rw [List.length_map, List.map_take, List.map_drop]
/-- a loop by its invariant, the turn told by what follows it -/
theorem forL_cps {turn : PV → Rho → Sto → (Rho → Sto → Prop) → Prop} {keep : Sto → Prop} {done : Rho → Sto → Prop} (I : Nat → Rho → Sto → Prop) : ∀ (xs : List PV) (n : Nat) (ρ : Rho) (M : Sto), I n ρ M →
    (∀ i x ρ M k, xs[i]? = some x → I (n + i) ρ M → (∀ ρ' M', I (n + i + 1) ρ' M' → k ρ' M') → turn x ρ M k) → (∀ i ρ M, I i ρ M → keep M) → (∀ ρ M, I (n + xs.length) ρ M → done ρ M) → forL turn keep done xs ρ M
  | [], n, ρ, M, h, _, _, hd => hd ρ M (by simpa using h)
  | x :: r, n, ρ, M, h, ht, hk, hd => by
    unfold forL
    refine ht 0 x ρ M _ rfl h fun ρ' M' h2 => ⟨hk _ _ _ h2, ?_⟩
    refine forL_cps I r (n + 1) ρ' M' h2 (fun i y ρ M k hy hi hq => ?_) hk (fun ρ M hi => hd ρ M ?_)
    · have e : n + 1 + i = n + (i + 1) := by omega
      rw [e] at hi
      refine ht (i + 1) y ρ M k (by simpa using hy) hi fun ρ' M' h3 => hq ρ' M' ?_
      rw [e]; exact h3
    · rw [List.length_cons]
      have e : n + 1 + r.length = n + (r.length + 1) := by omega
      rw [← e]; exact hi
theorem compL_cps {step : PV → Sto → (Option PV → Sto → Prop) → Prop} {keep : Sto → Prop} {Q : List PV → Sto → Prop} (I : Nat → List PV → Sto → Prop) : ∀ (xs acc : List PV) (n : Nat) (M : Sto), I n acc M →
    (∀ i x acc M k, xs[i]? = some x → I (n + i) acc M → (∀ o M', I (n + i + 1) (match o with | some v => acc ++ [v] | none => acc) M' → k o M') → step x M k) → (∀ i acc M, I i acc M → keep M) → (∀ acc M, I (n + xs.length) acc M → Q acc M) → compL step keep xs acc M Q
  | [], acc, n, M, h, _, _, hd => by unfold compL; exact hd acc M (by simpa using h)
  | x :: r, acc, n, M, h, ht, hk, hd => by
    unfold compL
    refine ht 0 x acc M _ rfl h fun o M' h2 => ⟨hk _ _ _ h2, ?_⟩
    refine compL_cps I r _ (n + 1) M' h2 (fun i y acc M k hy hi hq => ?_) hk (fun acc M hi => hd acc M ?_)
    · have e : n + 1 + i = n + (i + 1) := by omega
      rw [e] at hi
      refine ht (i + 1) y acc M k (by simpa using hy) hi fun o M' h3 => hq o M' ?_
      rw [e]; exact h3
    · rw [List.length_cons]
      have e : n + 1 + r.length = n + (r.length + 1) := by omega
      rw [← e]; exact hi
theorem rng_len (hi : Int) : (rngL 0 hi).length = hi.toNat := by
  unfold rngL
  simp
theorem rng0_get {hi : Int} {i : Nat} {x : PV} (h : (rngL 0 hi)[i]? = some x) : x = .int (i : Int) ∧ (i : Int) < hi := by
  have hl := (List.getElem?_eq_some_iff.mp h).1
  rw [rng_len] at hl
  unfold rngL at h
  have hr : (List.range (hi - 0).toNat)[i]? = some i := List.getElem?_range (by omega)
  rw [List.getElem?_map, hr] at h
  have e := Option.some.inj h
  exact ⟨by rw [← e]; simp, by omega⟩
/-- a while loop that works on a state alone -/
theorem while_hoare {β : Type} {turn : Rho → Sto → (Rho → Sto → Prop) → Prop} {M : Sto} (rho : β → Rho) (cond : β → Bool) (step : β → β) (J : β → Prop) (meas : β → Nat)
    (ht : ∀ b k, J b → cond b = true → k (rho (step b)) M → turn (rho b) M k) (hs : ∀ b, J b → cond b = true → J (step b) ∧ meas (step b) < meas b) (he : ∀ b k, J b → cond b = false → turn (rho b) M k) :
    ∀ (m : Nat) (b : β), meas b ≤ m → J b → ∃ n, whileN turn n (rho b) M
  | 0, b, hm, hj => by
    cases c : cond b with
    | true =>
      have := (hs b hj c).2
      omega
    | false => exact ⟨1, he b _ hj c⟩
  | m + 1, b, hm, hj => by
    cases c : cond b with
    | true =>
      obtain ⟨h1, h2⟩ := hs b hj c
      obtain ⟨n, hn⟩ := while_hoare rho cond step J meas ht hs he m (step b) (by omega) h1
      exact ⟨n + 1, ht b _ hj c hn⟩
    | false => exact ⟨1, he b _ hj c⟩
theorem b_tuple_ref {M : Sto} {a : Addr} {xs : List PV} (h : M a = some (.lst xs)) (Q : Q1) : bltS .tuple [.ref a] M Q ↔ Q (.tup xs) M := by
  unfold bltS one1
  simp [so_ref h]
theorem b_max1 (xs : List PV) (M : Sto) (Q : Q1) : bltS .max [.lst xs] M Q ↔ ∃ n ns, PV.ints xs = some (n :: ns) ∧ Q (.int (maxI n ns)) M := by
  unfold bltS maxS
  simp [lo]
theorem mx_app (m y : Int) : ∀ xs : List Int, maxI m (xs ++ [y]) = if y > maxI m xs then y else maxI m xs := by
  intro xs
  induction xs generalizing m with
  | nil => rfl
  | cons x r ih => exact ih _
theorem mx_ge (m : Int) : ∀ xs : List Int, m ≤ maxI m xs ∧ ∀ x ∈ xs, x ≤ maxI m xs := by
  intro xs
  induction xs generalizing m with
  | nil => exact ⟨Int.le_refl _, fun x hx => by cases hx⟩
  | cons x r ih =>
    have h := ih (if x > m then x else m)
    unfold maxI
    refine ⟨Int.le_trans ?_ h.1, fun y hy => ?_⟩
    · split <;> omega
    · rcases List.mem_cons.mp hy with e | hy
      · subst e
        refine Int.le_trans ?_ h.1
        split <;> omega
      · exact h.2 y hy
theorem mx_le {B : Int} (m : Int) : ∀ xs : List Int, m ≤ B → (∀ x ∈ xs, x ≤ B) → maxI m xs ≤ B := by
  intro xs
  induction xs generalizing m with
  | nil => intro h _; exact h
  | cons x r ih =>
    intro h1 h2
    unfold maxI
    refine ih _ ?_ fun y hy => h2 y (List.mem_cons_of_mem _ hy)
    split
    · exact h2 x List.mem_cons_self
    · exact h1
/-- a loop by its invariant -/
theorem forL_inv {turn : PV → Rho → Sto → (Rho → Sto → Prop) → Prop} {keep : Sto → Prop} {done : Rho → Sto → Prop} (I : Nat → Rho → Sto → Prop) : ∀ (xs : List PV) (n : Nat) (ρ : Rho) (M : Sto), I n ρ M →
    (∀ i x ρ M, xs[i]? = some x → I (n + i) ρ M → turn x ρ M fun ρ' M' => keep M' ∧ I (n + i + 1) ρ' M') → (∀ x ρ M, ∀ k k', (∀ ρ M, k ρ M → k' ρ M) → turn x ρ M k → turn x ρ M k') → (∀ ρ M, I (n + xs.length) ρ M → done ρ M) → forL turn keep done xs ρ M
  | [], n, ρ, M, h, _, _, hd => hd ρ M (by simpa using h)
  | x :: r, n, ρ, M, h, ht, hm, hd => by
    unfold forL
    refine hm x ρ M _ _ (fun ρ' M' ⟨h1, h2⟩ => ⟨h1, ?_⟩) (ht 0 x ρ M rfl h)
    refine forL_inv I r (n + 1) ρ' M' h2 (fun i y ρ M hy hi => ?_) hm (fun ρ M hi => hd ρ M ?_)
    · have e : n + 1 + i = n + (i + 1) := by omega
      rw [e] at hi ⊢
      exact ht (i + 1) y ρ M (by simpa using hy) hi
    · rw [List.length_cons]
      have e : n + 1 + r.length = n + (r.length + 1) := by omega
      rw [← e]; exact hi
/-- the same of a comprehension -/
theorem compL_inv {step : PV → Sto → (Option PV → Sto → Prop) → Prop} {keep : Sto → Prop} {Q : List PV → Sto → Prop} (I : List PV → Sto → Prop) : ∀ (xs acc : List PV) (M : Sto), I acc M → (∀ x M, ∀ k k', (∀ o M, k o M → k' o M) → step x M k → step x M k') →
    (∀ x ∈ xs, ∀ acc M, I acc M → step x M fun o M' => keep M' ∧ I (match o with | some v => acc ++ [v] | none => acc) M') → (∀ acc M, I acc M → Q acc M) → compL step keep xs acc M Q
  | [], acc, M, h, _, _, hd => by unfold compL; exact hd acc M h
  | x :: r, acc, M, h, hm, ht, hd => by
    unfold compL
    refine hm x M _ _ (fun o M' ⟨h1, h2⟩ => ⟨h1, ?_⟩) (ht x List.mem_cons_self acc M h)
    exact compL_inv I r _ M' h2 hm (fun y hy => ht y (List.mem_cons_of_mem _ hy)) hd
end SG
namespace Zk17
open PySem PySem.Spec PyProof.Rows L2 SG
def top (i : Nat) : Stmt := PySem.Challenge.pw_strangersay_k17_two_members_of_sums.main.body.getD i (.Pass ⟨0, 0, 0, 0⟩)
def b_is_whole : List S := [(.ret (.and (.isi (.var 0) .int) (.not (.isi (.var 0) .bool))))]
def s_is_whole : Src := ⟨"is_whole", top 9, ⟨["thing"], ["thing"], b_is_whole⟩⟩
def b_is_within : List S := [(.ret (.and (.call "is_whole" [(.var 0)]) (.chain .le .le (.var 1) (.var 0) (.var 2))))]
def s_is_within : Src := ⟨"is_within", top 10, ⟨["thing", "low", "high"], ["thing", "low", "high"], b_is_within⟩⟩
def b_is_worths : List S := [(.ite (.or (.not (.isi (.var 0) .tuple)) (.not (.chain .le .le (.cst (.int 1)) (.blt .len [(.var 0)]) (.cst (.int 6))))) [(.ret (.cst (.bl false)))] []),
  (.ret (.blt .all [(.comp false (.nm 1) (.val (.var 0)) none (.call "is_within" [(.var 1), (.neg (.cst (.int 9))), (.cst (.int 9))]))]))]
def s_is_worths : Src := ⟨"is_worths", top 11, ⟨["thing"], ["thing", "worth"], b_is_worths⟩⟩
def b_is_simple : List S := [(.ite (.or (.not (.isi (.var 0) .tuple)) (.or (.cmp .lt (.blt .len [(.var 0)]) (.cst (.int 3))) (.not (.call "is_worths" [(.ix (.var 0) (.cst (.int 1)))])))) [(.ret (.cst (.bl false)))] []),
  (.ite (.and (.cmp .eq (.ix (.var 0) (.cst (.int 0))) (.cst (.str "sum"))) (.cmp .eq (.blt .len [(.var 0)]) (.cst (.int 3)))) [(.ret (.call "is_within" [(.ix (.var 0) (.cst (.int 2))), (.neg (.cst (.int 20))), (.cst (.int 20))]))] []),
  (.ite (.or (.cmp .ne (.ix (.var 0) (.cst (.int 0))) (.cst (.str "rest"))) (.cmp .ne (.blt .len [(.var 0)]) (.cst (.int 4)))) [(.ret (.cst (.bl false)))] []),
  (.ret (.and (.call "is_within" [(.ix (.var 0) (.cst (.int 3))), (.cst (.int 2)), (.cst (.int 9))]) (.call "is_within" [(.ix (.var 0) (.cst (.int 2))), (.cst (.int 0)), (.bin .sub (.ix (.var 0) (.cst (.int 3))) (.cst (.int 1)))])))]
def s_is_simple : Src := ⟨"is_simple", top 12, ⟨["thing"], ["thing"], b_is_simple⟩⟩
def b_simples_in : List S := [(.ite (.or (.cmp .eq (.var 1) (.cst (.int 0))) (.or (.not (.isi (.var 0) .tuple)) (.cmp .eq (.var 0) (.tup [])))) [(.ret (.cst .non))] []),
  (.ite (.call "is_simple" [(.var 0)]) [(.ret (.lst false [(.var 0)]))] []),
  (.ite (.and (.cmp .eq (.ix (.var 0) (.cst (.int 0))) (.cst (.str "not"))) (.cmp .eq (.blt .len [(.var 0)]) (.cst (.int 2)))) [(.ret (.call "simples_in" [(.ix (.var 0) (.cst (.int 1))), (.bin .sub (.var 1) (.cst (.int 1)))]))] []),
  (.ite (.or (.cmp .notin (.ix (.var 0) (.cst (.int 0))) (.tup [(.cst (.str "and")), (.cst (.str "or"))])) (.cmp .ne (.blt .len [(.var 0)]) (.cst (.int 3)))) [(.ret (.cst .non))] []),
  (.asg (.nm 2) (.call "simples_in" [(.ix (.var 0) (.cst (.int 1))), (.bin .sub (.var 1) (.cst (.int 1)))])),
  (.asg (.nm 3) (.call "simples_in" [(.ix (.var 0) (.cst (.int 2))), (.bin .sub (.var 1) (.cst (.int 1)))])),
  (.ite (.or (.cmp .is (.var 2) (.cst .non)) (.cmp .is (.var 3) (.cst .non))) [(.ret (.cst .non))] []),
  (.ret (.bin .add (.var 2) (.var 3)))]
def s_simples_in : Src := ⟨"simples_in", top 13, ⟨["thing", "depth"], ["thing", "depth", "one", "other"], b_simples_in⟩⟩
def b_simples : List S := [(.ret (.blt .tuple [(.sset false (.call "simples_in" [(.var 0), (.cst (.int 8))]))]))]
def s_simples : Src := ⟨"simples", top 14, ⟨["saying"], ["saying"], b_simples⟩⟩
def b_is_sum : List S := [(.ret (.cmp .eq (.ix (.var 0) (.cst (.int 0))) (.cst (.str "sum"))))]
def s_is_sum : Src := ⟨"is_sum", top 16, ⟨["simple"], ["simple"], b_is_sum⟩⟩
def b_size_of : List S := [(.ite (.call "is_sum" [(.var 0)]) [(.ret (.blt .max [(.bin .add (.blt .abs [(.ix (.var 0) (.cst (.int 2)))]) (.cst (.int 1))), (.blt .max [(.comp false (.nm 1) (.val (.ix (.var 0) (.cst (.int 1)))) none (.blt .abs [(.var 1)]))])]))] []),
  (.ret (.bin .sub (.ix (.var 0) (.cst (.int 3))) (.cst (.int 1))))]
def s_size_of : Src := ⟨"size_of", top 17, ⟨["simple"], ["simple", "worth"], b_size_of⟩⟩
def b_says : List S := [(.ite (.call "is_sum" [(.var 0)]) [(.ret (.cmp .ge (.var 1) (.ix (.var 0) (.cst (.int 2)))))] []),
  (.ret (.cmp .eq (.var 1) (.ix (.var 0) (.cst (.int 2)))))]
def s_says : Src := ⟨"says", top 18, ⟨["simple", "number"], ["simple", "number"], b_says⟩⟩
def b_cut_to : List S := [(.ite (.call "is_sum" [(.var 0)]) [(.asg (.nm 2) (.call "size_of" [(.var 0)])), (.ret (.blt .max [(.neg (.var 2)), (.blt .min [(.var 2), (.var 1)])]))] []),
  (.asg (.nm 3) (.ix (.var 0) (.cst (.int 3)))),
  (.ret (.bin .mod (.var 1) (.var 3)))]
def s_cut_to : Src := ⟨"cut_to", top 19, ⟨["simple", "number"], ["simple", "number", "size", "modulus"], b_cut_to⟩⟩
def b_rest_over : List S := [(.ite (.call "is_sum" [(.var 0)]) [(.ret (.bin .sub (.var 1) (.call "cut_to" [(.var 0), (.var 1)])))] []),
  (.ret (.cst (.int 0)))]
def s_rest_over : Src := ⟨"rest_over", top 20, ⟨["simple", "number"], ["simple", "number"], b_rest_over⟩⟩
def b_is_note : List S := [(.ret (.cmp .eq (.ix (.var 0) (.cst (.int 0))) (.cst (.str "note"))))]
def s_is_note : Src := ⟨"is_note", top 25, ⟨["state"], ["state"], b_is_note⟩⟩
def b_members_meet : List S := [(.ite (.and (.not (.ix (.var 1) (.cst (.int 0)))) (.not (.ix (.var 2) (.cst (.int 0))))) [(.ret (.tup [(.var 1), (.var 2)]))] []),
  (.asg (.nm 3) (.bin .add (.ix (.var 1) (.cst (.int 1))) (.ix (.var 2) (.cst (.int 1))))),
  (.asg (.nm 4) (.call "cut_to" [(.var 0), (.var 3)])),
  (.asg (.nm 5) (.call "says" [(.var 0), (.var 4)])),
  (.asg (.tp [(.nm 6), (.nm 7)]) (.tup [(.tup [(.cst (.bl true)), (.var 4), (.var 5)]), (.tup [(.cst (.bl false)), (.call "rest_over" [(.var 0), (.var 3)]), (.var 5)])])),
  (.ret (.ite (.ix (.var 1) (.cst (.int 0))) (.tup [(.var 6), (.var 7)]) (.tup [(.var 7), (.var 6)])))]
def s_members_meet : Src := ⟨"members_meet", top 28, ⟨["simple", "one", "other"], ["simple", "one", "other", "number", "new", "word", "first", "second"], b_members_meet⟩⟩
def b_with_note : List S := [.never, .never, .never, .never]
def s_with_note : Src := ⟨"with_note", top 30, ⟨["saying", "member", "note"], ["saying", "member", "note", "pairs", "simple", "one", "other", "new", "others"], b_with_note⟩⟩
def b_meet : List S := [(.ite (.and (.call "is_note" [(.var 1)]) (.call "is_note" [(.var 2)])) [(.ret (.tup [(.var 1), (.var 2)]))] []),
  (.ite (.call "is_note" [(.var 2)]) [(.ret (.call "with_note" [(.var 0), (.var 1), (.var 2)]))] []),
  (.ite (.call "is_note" [(.var 1)]) [(.asg (.tp [(.nm 3), (.nm 4)]) (.call "with_note" [(.var 0), (.var 2), (.var 1)])), (.ret (.tup [(.var 4), (.var 3)]))] []),
  (.asg (.nm 5) (.comp false (.tp [(.nm 6), (.nm 7), (.nm 8)]) (.zip [(.call "simples" [(.var 0)]), (.ix (.var 1) (.cst (.int 2))), (.ix (.var 2) (.cst (.int 2)))]) none (.call "members_meet" [(.var 6), (.var 7), (.var 8)]))),
  (.asg (.tp [(.nm 9), (.nm 10)]) (.tup [(.blt .tuple [(.comp false (.tp [(.nm 7), (.nm 8)]) (.val (.var 5)) none (.var 7))]), (.blt .tuple [(.comp false (.tp [(.nm 7), (.nm 8)]) (.val (.var 5)) none (.var 8))])])),
  (.ret (.tup [(.tup [(.cst (.str "member")), (.ix (.var 1) (.cst (.int 1))), (.var 9)]), (.tup [(.cst (.str "member")), (.ix (.var 2) (.cst (.int 1))), (.var 10)])]))]
def s_meet : Src := ⟨"meet", top 31, ⟨["saying", "one", "other"], ["saying", "one", "other", "member", "note", "pairs", "simple", "a", "b", "first", "second"], b_meet⟩⟩
def b__law_hand_L3 : List S := [(.asg (.nm 3) (.bin .mod (.bin .add (.bin .add (.bin .mul (.var 3) (.cst (.int 69621))) (.bin .mul (.cst (.int 2)) (.blt .abs [(.var 4)]))) (.blt .int [(.cmp .lt (.var 4) (.cst (.int 0)))])) (.cst (.int 2305843009213693951))))]
def b__law_hand : List S := [(.asg (.nm 2) (.ite (.cmp .lt (.var 1) (.blt .len [(.var 0)])) (.ix (.var 0) (.var 1)) (.cst (.int 0)))),
  (.asg (.nm 3) (.bin .add (.cst (.int 700001)) (.bin .mul (.cst (.int 104729)) (.var 1)))),
  (.for_ (.nm 4) (.val (.sl (.var 0) none (some (.cst (.int 60))))) b__law_hand_L3),
  (.ret (.lst true [(.ite (.cmp .ge (.blt .abs [(.var 2)]) (.bin .pow (.cst (.int 10)) (.cst (.int 18)))) (.blt .abs [(.var 2)]) (.cst (.int 0))), (.var 3), (.cst (.int 0))]))]
def s__law_hand : Src := ⟨"_law_hand", top 33, ⟨["_law_script", "_law_k"], ["_law_script", "_law_k", "_law_cell", "_law_seed", "_law_one"], b__law_hand⟩⟩
def b__law_take : List S := [(.ite (.cmp .gt (.ix (.var 0) (.cst (.int 0))) (.cst (.int 0))) [(.asg (.nm 2) (.bin .mod (.ix (.var 0) (.cst (.int 0))) (.var 1))), (.six (.var 0) (.cst (.int 0)) (.bin .fdiv (.ix (.var 0) (.cst (.int 0))) (.var 1))), (.ret (.var 2))] []),
  (.six (.var 0) (.cst (.int 2)) (.bin .add (.ix (.var 0) (.cst (.int 2))) (.cst (.int 1)))),
  (.asg (.nm 3) (.ix (.lst false [(.cst (.int 2305843009213693921)), (.cst (.int 999999999989)), (.cst (.int 2305843009213693907)), (.cst (.int 67280421310721))]) (.bin .mod (.ix (.var 0) (.cst (.int 2))) (.cst (.int 4))))),
  (.asg (.nm 4) (.bin .add (.ix (.var 0) (.cst (.int 1))) (.bin .mul (.bin .mul (.cst (.int 15485863)) (.ix (.var 0) (.cst (.int 2)))) (.ix (.var 0) (.cst (.int 2)))))),
  (.asg (.nm 4) (.bin .mod (.bin .add (.var 4) (.bin .mul (.cst (.int 32452843)) (.ix (.var 0) (.cst (.int 2))))) (.var 3))),
  (.asg (.nm 4) (.bin .mod (.bin .mul (.var 4) (.bin .add (.bin .mod (.var 4) (.cst (.int 1000003))) (.bin .mul (.cst (.int 7919)) (.ix (.var 0) (.cst (.int 2)))))) (.var 3))),
  (.ret (.bin .mod (.bin .add (.bin .fdiv (.var 4) (.cst (.int 4099))) (.bin .fdiv (.var 4) (.cst (.int 1000033)))) (.var 1)))]
def s__law_take : Src := ⟨"_law_take", top 34, ⟨["_law_hand_here", "_law_many"], ["_law_hand_here", "_law_many", "_law_digit", "_law_prime", "_law_mixed"], b__law_take⟩⟩
def b__law_of : List S := [(.ret (.ix (.var 1) (.call "_law_take" [(.var 0), (.blt .len [(.var 1)])])))]
def s__law_of : Src := ⟨"_law_of", top 35, ⟨["_law_hand_here", "_law_some"], ["_law_hand_here", "_law_some"], b__law_of⟩⟩
def b__law_worth : List S := [(.asg (.nm 1) (.bin .sub (.call "_law_take" [(.var 0), (.cst (.int 19))]) (.cst (.int 9)))),
  (.ret (.call "_law_of" [(.var 0), (.lst false [(.cst (.int 0)), (.cst (.int 1)), (.neg (.cst (.int 1))), (.cst (.int 2)), (.neg (.cst (.int 3))), (.cst (.int 9)), (.neg (.cst (.int 9))), (.var 1)])]))]
def s__law_worth : Src := ⟨"_law_worth", top 36, ⟨["_law_hand_here"], ["_law_hand_here", "_law_near"], b__law_worth⟩⟩
def b__law_sum : List S := [(.asg (.nm 2) (.blt .tuple [(.comp false (.nm 3) (.rng (.var 1)) none (.call "_law_worth" [(.var 0)]))])),
  (.asg (.nm 4) (.bin .sub (.call "_law_take" [(.var 0), (.cst (.int 41))]) (.cst (.int 20)))),
  (.ret (.tup [(.cst (.str "sum")), (.var 2), (.call "_law_of" [(.var 0), (.lst false [(.cst (.int 0)), (.cst (.int 1)), (.neg (.cst (.int 1))), (.cst (.int 2)), (.cst (.int 5)), (.neg (.cst (.int 7))), (.cst (.int 20)), (.neg (.cst (.int 20))), (.var 4)])])]))]
def s__law_sum : Src := ⟨"_law_sum", top 37, ⟨["_law_hand_here", "_law_sorts"], ["_law_hand_here", "_law_sorts", "_law_worths", "_law_sort", "_law_near"], b__law_sum⟩⟩
def b__law_size : List S := [(.ite (.cmp .eq (.ix (.var 0) (.cst (.int 0))) (.cst (.str "rest"))) [(.ret (.bin .sub (.ix (.var 0) (.cst (.int 3))) (.cst (.int 1))))] []),
  (.asg (.nm 1) (.comp false (.nm 2) (.val (.ix (.var 0) (.cst (.int 1)))) none (.blt .abs [(.var 2)]))),
  (.ret (.blt .max [(.bin .add (.var 1) (.lst false [(.bin .add (.blt .abs [(.ix (.var 0) (.cst (.int 2)))]) (.cst (.int 1)))]))]))]
def s__law_size : Src := ⟨"_law_size", top 38, ⟨["_law_simple"], ["_law_simple", "_law_worths", "_law_worth_here"], b__law_size⟩⟩
def b__law_says : List S := [(.ite (.cmp .eq (.ix (.var 0) (.cst (.int 0))) (.cst (.str "rest"))) [(.ret (.cmp .eq (.bin .mod (.var 1) (.ix (.var 0) (.cst (.int 3)))) (.ix (.var 0) (.cst (.int 2)))))] []),
  (.ret (.cmp .ge (.var 1) (.ix (.var 0) (.cst (.int 2)))))]
def s__law_says : Src := ⟨"_law_says", top 39, ⟨["_law_simple", "_law_number"], ["_law_simple", "_law_number"], b__law_says⟩⟩
def b__law_poured_L4 : List S := [(.asg (.tp [(.nm 1), (.nm 2)]) (.tup [(.bin .add (.var 1) (.cst (.int 1))), (.bin .sub (.var 2) (.cst (.int 1)))]))]
def b__law_poured_L6 : List S := [(.asg (.tp [(.nm 1), (.nm 2)]) (.tup [(.bin .sub (.var 1) (.cst (.int 1))), (.bin .add (.var 2) (.cst (.int 1)))]))]
def b__law_poured : List S := [(.ite (.cmp .eq (.ix (.var 0) (.cst (.int 0))) (.cst (.str "rest"))) [(.ret (.tup [(.bin .mod (.bin .add (.var 1) (.var 2)) (.ix (.var 0) (.cst (.int 3)))), (.cst (.int 0))]))] []),
  (.asg (.nm 3) (.call "_law_size" [(.var 0)])),
  (.while_ (.and (.cmp .gt (.var 2) (.cst (.int 0))) (.cmp .lt (.var 1) (.var 3))) b__law_poured_L4),
  (.while_ (.and (.cmp .lt (.var 2) (.cst (.int 0))) (.cmp .gt (.var 1) (.neg (.var 3)))) b__law_poured_L6),
  (.ret (.tup [(.var 1), (.var 2)]))]
def s__law_poured : Src := ⟨"_law_poured", top 40, ⟨["_law_simple", "_law_one", "_law_other"], ["_law_simple", "_law_one", "_law_other", "_law_size_here"], b__law_poured⟩⟩
def b__law_pair : List S := [(.ite (.and (.not (.ix (.var 1) (.cst (.int 0)))) (.not (.ix (.var 2) (.cst (.int 0))))) [(.ret (.tup [(.var 1), (.var 2)]))] []),
  (.asg (.tp [(.nm 3), (.nm 4)]) (.ite (.ix (.var 1) (.cst (.int 0))) (.tup [(.var 1), (.var 2)]) (.tup [(.var 2), (.var 1)]))),
  (.asg (.tp [(.nm 5), (.nm 6)]) (.call "_law_poured" [(.var 0), (.ix (.var 3) (.cst (.int 1))), (.ix (.var 4) (.cst (.int 1)))])),
  (.asg (.nm 7) (.call "_law_says" [(.var 0), (.var 5)])),
  (.asg (.nm 8) (.tup [(.tup [(.cst (.bl true)), (.var 5), (.var 7)]), (.tup [(.cst (.bl false)), (.var 6), (.var 7)])])),
  (.ret (.ite (.ix (.var 1) (.cst (.int 0))) (.var 8) (.rev (.var 8))))]
def s__law_pair : Src := ⟨"_law_pair", top 41, ⟨["_law_simple", "_law_here", "_law_there"], ["_law_simple", "_law_here", "_law_there", "_law_lead", "_law_follower", "_law_number", "_law_rest_of_it", "_law_word", "_law_both"], b__law_pair⟩⟩
def b__law_noted : List S := [.never, .never, .never]
def s__law_noted : Src := ⟨"_law_noted", top 42, ⟨["_law_simple", "_law_here", "_law_there"], ["_law_simple", "_law_here", "_law_there", "_law_number", "_law_rest_of_it"], b__law_noted⟩⟩
def b__law_met_L6 : List S := [(.asg (.nm 9) (.call "_law_pair" [(.var 6), (.var 7), (.var 8)])), (.ite (.var 5) [(.asg (.nm 9) (.call "_law_noted" [(.var 6), (.var 7), (.var 8)]))] []), (.expr (.mth .append (.var 3) [(.ix (.var 9) (.cst (.int 0)))])), (.expr (.mth .append (.var 4) [(.ix (.var 9) (.cst (.int 1)))]))]
def b__law_met : List S := [(.ite (.cmp .eq (.ix (.var 1) (.cst (.int 0))) (.cst (.str "note"))) [(.ite (.cmp .eq (.ix (.var 2) (.cst (.int 0))) (.cst (.str "note"))) [(.ret (.tup [(.var 1), (.var 2)]))] []), (.ret (.rev (.call "_law_met" [(.var 0), (.var 2), (.var 1)])))] []),
  (.asg (.tp [(.nm 3), (.nm 4), (.nm 5)]) (.tup [(.lst true []), (.lst true []), (.cmp .eq (.ix (.var 2) (.cst (.int 0))) (.cst (.str "note")))])),
  (.for_ (.tp [(.nm 6), (.nm 7), (.nm 8)]) (.zip [(.var 0), (.ix (.var 1) (.cst (.int 2))), (.ix (.var 2) (.neg (.cst (.int 1))))]) b__law_met_L6),
  (.asg (.nm 10) (.tup [(.cst (.str "member")), (.ix (.var 1) (.cst (.int 1))), (.blt .tuple [(.var 3)])])),
  (.ite (.not (.var 5)) [(.ret (.tup [(.var 10), (.tup [(.cst (.str "member")), (.ix (.var 2) (.cst (.int 1))), (.blt .tuple [(.var 4)])])]))] []),
  (.ite (.blt .all [(.comp false (.nm 11) (.val (.var 4)) none (.cmp .eq (.var 11) (.tup [(.cst (.bl false)), (.cst (.int 0))])))]) [(.ret (.tup [(.var 10), (.cst .non)]))] []),
  (.ret (.tup [(.var 10), (.tup [(.cst (.str "note")), (.blt .tuple [(.var 4)])])]))]
def s__law_met : Src := ⟨"_law_met", top 43, ⟨["_law_singles", "_law_one", "_law_other"], ["_law_singles", "_law_one", "_law_other", "_law_found", "_law_others", "_law_noted_here", "_law_simple", "_law_here", "_law_there", "_law_pair_here", "_law_member_here", "_law_hold"], b__law_met⟩⟩
def b__law_member_L2 : List S := [(.asg (.tp [(.nm 5), (.nm 6)]) (.tup [(.call "_law_size" [(.var 4)]), (.cmp .eq (.call "_law_take" [(.var 0), (.cst (.int 2))]) (.cst (.int 0)))])), (.asg (.nm 7) (.ite (.cmp .eq (.ix (.var 4) (.cst (.int 0))) (.cst (.str "rest"))) (.cst (.int 0)) (.neg (.var 5)))), (.asg (.nm 8) (.bin .add (.var 7) (.call "_law_take" [(.var 0), (.bin .add (.bin .sub (.var 5) (.var 7)) (.cst (.int 1)))]))), (.asg (.nm 9) (.call "_law_of" [(.var 0), (.lst false [(.var 7), (.var 5), (.cst (.int 0)), (.var 8), (.var 8)])])), (.asg (.nm 10) (.cmp .eq (.call "_law_take" [(.var 0), (.cst (.int 2))]) (.cst (.int 0)))), (.asg (.nm 10) (.ite (.var 6) (.call "_law_says" [(.var 4), (.var 9)]) (.var 10))), (.expr (.mth .append (.var 3) [(.tup [(.var 6), (.var 9), (.var 10)])]))]
def b__law_member : List S := [(.asg (.nm 3) (.lst true [])),
  (.for_ (.nm 4) (.val (.var 1)) b__law_member_L2),
  (.ret (.tup [(.cst (.str "member")), (.var 2), (.blt .tuple [(.var 3)])]))]
def s__law_member : Src := ⟨"_law_member", top 44, ⟨["_law_hand_here", "_law_singles", "_law_sort"], ["_law_hand_here", "_law_singles", "_law_sort", "_law_holds", "_law_simple", "_law_size_here", "_law_leads", "_law_low", "_law_any_one", "_law_number", "_law_word"], b__law_member⟩⟩
def b__law_is_right : List S := [(.asg (.tp [(.nm 3), (.nm 4)]) (.tup [(.blt .repr [(.tup [(.var 1), (.var 2)])]), (.blt .repr [(.call "_law_met" [(.lst false [(.var 0)]), (.var 1), (.var 2)])])])),
  (.ret (.and (.cmp .eq (.blt .repr [(.call "meet" [(.var 0), (.var 1), (.var 2)])]) (.var 4)) (.cmp .eq (.blt .repr [(.tup [(.var 1), (.var 2)])]) (.var 3))))]
def s__law_is_right : Src := ⟨"_law_is_right", top 46, ⟨["_law_simple", "_law_one", "_law_other"], ["_law_simple", "_law_one", "_law_other", "_law_held", "_law_due"], b__law_is_right⟩⟩
def b_law_L6 : List S := [(.asg (.tp [(.nm 7), (.nm 8)]) (.comp false (.nm 9) (.rng (.cst (.int 2))) none (.call "_law_member" [(.var 2), (.lst false [(.var 4)]), (.call "_law_take" [(.var 2), (.var 3)])]))), (.ite (.or (.not (.call "_law_is_right" [(.var 4), (.var 7), (.var 8)])) (.not (.call "_law_is_right" [(.var 4), (.var 8), (.var 7)]))) [(.ret (.cst (.bl false)))] [])]
def b_law_L14 : List S := [(.ite (.or (.not (.call "_law_is_right" [(.var 4), (.var 10), (.var 8)])) (.not (.call "_law_is_right" [(.var 4), (.var 8), (.var 10)]))) [(.ret (.cst (.bl false)))] [])]
def b_law_L11 : List S := [(.asg (.nm 12) (.tup [(.cst (.str "member")), (.call "_law_take" [(.var 2), (.var 3)]), (.tup [(.tup [(.cst (.bl true)), (.var 11), (.call "_law_says" [(.var 4), (.var 11)])])])])), (.asg (.nm 13) (.tup [(.cst (.str "member")), (.call "_law_take" [(.var 2), (.var 3)]), (.tup [(.tup [(.cst (.bl false)), (.var 11), (.cmp .eq (.call "_law_take" [(.var 2), (.cst (.int 2))]) (.cst (.int 0)))])])])), (.for_ (.nm 8) (.val (.tup [(.var 12), (.var 13)])) b_law_L14)]
def b_law_L1 : List S := [(.asg (.nm 2) (.call "_law_hand" [(.var 0), (.var 1)])), (.asg (.nm 3) (.bin .add (.cst (.int 1)) (.call "_law_take" [(.var 2), (.cst (.int 6))]))), (.asg (.nm 4) (.call "_law_sum" [(.var 2), (.var 3)])), (.asg (.nm 5) (.call "_law_size" [(.var 4)])), (.for_ (.nm 6) (.rng (.cst (.int 30))) b_law_L6), (.asg (.nm 10) (.call "_law_member" [(.var 2), (.lst false [(.var 4)]), (.call "_law_take" [(.var 2), (.var 3)])])), (.for_ (.nm 11) (.rng2 (.neg (.var 5)) (.bin .add (.var 5) (.cst (.int 1)))) b_law_L11)]
def b_law : List S := [(.for_ (.nm 1) (.rng (.blt .max [(.cst (.int 1)), (.blt .min [(.cst (.int 3)), (.blt .len [(.var 0)])])])) b_law_L1),
  (.ret (.cst (.bl true)))]
def s_law : Src := ⟨"law", top 47, ⟨["_law_script"], ["_law_script", "_law_k", "_law_hand_here", "_law_sorts", "_law_simple", "_law_size_here", "_law_turn", "_law_one", "_law_other", "_law_place", "_law_member_here", "_law_number", "_law_lead", "_law_follower"], b_law⟩⟩
def srcs : List Src := [s_is_whole, s_is_within, s_is_worths, s_is_simple, s_simples_in, s_simples, s_is_sum, s_size_of, s_says, s_cut_to, s_rest_over, s_is_note, s_members_meet, s_with_note, s_meet, s__law_hand, s__law_take, s__law_of, s__law_worth, s__law_sum, s__law_size, s__law_says, s__law_poured, s__law_pair, s__law_noted, s__law_met, s__law_member, s__law_is_right, s_law]
def cns : List (Str × PV) := [("MEMBER", (.str "member")), ("MOST_BOUND", (.int 20)), ("MOST_DEPTH", (.int 8)), ("MOST_PARTS", (.int 9)), ("MOST_SORTS", (.int 6)), ("MOST_WORTH", (.int 9)), ("NOTE", (.str "note")), ("REST_PARTS", (.int 4)), ("SUM_PARTS", (.int 3)), ("TWO_PARTS", (.int 3))]
def nfo : Nfo := ⟨["is_whole", "is_within", "is_worths", "is_simple", "simples_in", "simples", "is_sum", "size_of", "says", "cut_to", "rest_over", "is_note", "members_meet", "with_note", "meet", "_law_hand", "_law_take", "_law_of", "_law_worth", "_law_sum", "_law_size", "_law_says", "_law_poured", "_law_pair", "_law_noted", "_law_met", "_law_member", "_law_is_right", "law"], cns⟩
theorem ok_is_whole : SrcOk nfo s_is_whole := ⟨⟨by kernel_rfl, by kernel_rfl, by kernel_rfl, by decide +kernel, by decide +kernel, by decide +kernel, by decide +kernel⟩, fun _ _ _ _ _ _ us hl => match us, hl with | [_], _ => by kernel_rfl, by decide +kernel⟩
theorem ok_is_within : SrcOk nfo s_is_within := ⟨⟨by kernel_rfl, by kernel_rfl, by kernel_rfl, by decide +kernel, by decide +kernel, by decide +kernel, by decide +kernel⟩, fun _ _ _ _ _ _ us hl => match us, hl with | [_, _, _], _ => by kernel_rfl, by decide +kernel⟩
theorem ok_is_worths : SrcOk nfo s_is_worths := ⟨⟨by kernel_rfl, by kernel_rfl, by kernel_rfl, by decide +kernel, by decide +kernel, by decide +kernel, by decide +kernel⟩, fun _ _ _ _ _ _ us hl => match us, hl with | [_], _ => by kernel_rfl, by decide +kernel⟩
theorem ok_is_simple : SrcOk nfo s_is_simple := ⟨⟨by kernel_rfl, by kernel_rfl, by kernel_rfl, by decide +kernel, by decide +kernel, by decide +kernel, by decide +kernel⟩, fun _ _ _ _ _ _ us hl => match us, hl with | [_], _ => by kernel_rfl, by decide +kernel⟩
theorem ok_simples_in : SrcOk nfo s_simples_in := ⟨⟨by kernel_rfl, by kernel_rfl, by kernel_rfl, by decide +kernel, by decide +kernel, by decide +kernel, by decide +kernel⟩, fun _ _ _ _ _ _ us hl => match us, hl with | [_, _], _ => by kernel_rfl, by decide +kernel⟩
theorem ok_simples : SrcOk nfo s_simples := ⟨⟨by kernel_rfl, by kernel_rfl, by kernel_rfl, by decide +kernel, by decide +kernel, by decide +kernel, by decide +kernel⟩, fun _ _ _ _ _ _ us hl => match us, hl with | [_], _ => by kernel_rfl, by decide +kernel⟩
theorem ok_is_sum : SrcOk nfo s_is_sum := ⟨⟨by kernel_rfl, by kernel_rfl, by kernel_rfl, by decide +kernel, by decide +kernel, by decide +kernel, by decide +kernel⟩, fun _ _ _ _ _ _ us hl => match us, hl with | [_], _ => by kernel_rfl, by decide +kernel⟩
theorem ok_size_of : SrcOk nfo s_size_of := ⟨⟨by kernel_rfl, by kernel_rfl, by kernel_rfl, by decide +kernel, by decide +kernel, by decide +kernel, by decide +kernel⟩, fun _ _ _ _ _ _ us hl => match us, hl with | [_], _ => by kernel_rfl, by decide +kernel⟩
theorem ok_says : SrcOk nfo s_says := ⟨⟨by kernel_rfl, by kernel_rfl, by kernel_rfl, by decide +kernel, by decide +kernel, by decide +kernel, by decide +kernel⟩, fun _ _ _ _ _ _ us hl => match us, hl with | [_, _], _ => by kernel_rfl, by decide +kernel⟩
theorem ok_cut_to : SrcOk nfo s_cut_to := ⟨⟨by kernel_rfl, by kernel_rfl, by kernel_rfl, by decide +kernel, by decide +kernel, by decide +kernel, by decide +kernel⟩, fun _ _ _ _ _ _ us hl => match us, hl with | [_, _], _ => by kernel_rfl, by decide +kernel⟩
theorem ok_rest_over : SrcOk nfo s_rest_over := ⟨⟨by kernel_rfl, by kernel_rfl, by kernel_rfl, by decide +kernel, by decide +kernel, by decide +kernel, by decide +kernel⟩, fun _ _ _ _ _ _ us hl => match us, hl with | [_, _], _ => by kernel_rfl, by decide +kernel⟩
theorem ok_is_note : SrcOk nfo s_is_note := ⟨⟨by kernel_rfl, by kernel_rfl, by kernel_rfl, by decide +kernel, by decide +kernel, by decide +kernel, by decide +kernel⟩, fun _ _ _ _ _ _ us hl => match us, hl with | [_], _ => by kernel_rfl, by decide +kernel⟩
theorem ok_members_meet : SrcOk nfo s_members_meet := ⟨⟨by kernel_rfl, by kernel_rfl, by kernel_rfl, by decide +kernel, by decide +kernel, by decide +kernel, by decide +kernel⟩, fun _ _ _ _ _ _ us hl => match us, hl with | [_, _, _], _ => by kernel_rfl, by decide +kernel⟩
theorem ok_with_note : SrcOk nfo s_with_note := ⟨⟨by kernel_rfl, by kernel_rfl, by kernel_rfl, by decide +kernel, by decide +kernel, by decide +kernel, by decide +kernel⟩, fun _ _ _ _ _ _ us hl => match us, hl with | [_, _, _], _ => by kernel_rfl, by decide +kernel⟩
theorem ok_meet : SrcOk nfo s_meet := ⟨⟨by kernel_rfl, by kernel_rfl, by kernel_rfl, by decide +kernel, by decide +kernel, by decide +kernel, by decide +kernel⟩, fun _ _ _ _ _ _ us hl => match us, hl with | [_, _, _], _ => by kernel_rfl, by decide +kernel⟩
theorem ok__law_hand : SrcOk nfo s__law_hand := ⟨⟨by kernel_rfl, by kernel_rfl, by kernel_rfl, by decide +kernel, by decide +kernel, by decide +kernel, by decide +kernel⟩, fun _ _ _ _ _ _ us hl => match us, hl with | [_, _], _ => by kernel_rfl, by decide +kernel⟩
theorem ok__law_take : SrcOk nfo s__law_take := ⟨⟨by kernel_rfl, by kernel_rfl, by kernel_rfl, by decide +kernel, by decide +kernel, by decide +kernel, by decide +kernel⟩, fun _ _ _ _ _ _ us hl => match us, hl with | [_, _], _ => by kernel_rfl, by decide +kernel⟩
theorem ok__law_of : SrcOk nfo s__law_of := ⟨⟨by kernel_rfl, by kernel_rfl, by kernel_rfl, by decide +kernel, by decide +kernel, by decide +kernel, by decide +kernel⟩, fun _ _ _ _ _ _ us hl => match us, hl with | [_, _], _ => by kernel_rfl, by decide +kernel⟩
theorem ok__law_worth : SrcOk nfo s__law_worth := ⟨⟨by kernel_rfl, by kernel_rfl, by kernel_rfl, by decide +kernel, by decide +kernel, by decide +kernel, by decide +kernel⟩, fun _ _ _ _ _ _ us hl => match us, hl with | [_], _ => by kernel_rfl, by decide +kernel⟩
theorem ok__law_sum : SrcOk nfo s__law_sum := ⟨⟨by kernel_rfl, by kernel_rfl, by kernel_rfl, by decide +kernel, by decide +kernel, by decide +kernel, by decide +kernel⟩, fun _ _ _ _ _ _ us hl => match us, hl with | [_, _], _ => by kernel_rfl, by decide +kernel⟩
theorem ok__law_size : SrcOk nfo s__law_size := ⟨⟨by kernel_rfl, by kernel_rfl, by kernel_rfl, by decide +kernel, by decide +kernel, by decide +kernel, by decide +kernel⟩, fun _ _ _ _ _ _ us hl => match us, hl with | [_], _ => by kernel_rfl, by decide +kernel⟩
theorem ok__law_says : SrcOk nfo s__law_says := ⟨⟨by kernel_rfl, by kernel_rfl, by kernel_rfl, by decide +kernel, by decide +kernel, by decide +kernel, by decide +kernel⟩, fun _ _ _ _ _ _ us hl => match us, hl with | [_, _], _ => by kernel_rfl, by decide +kernel⟩
theorem ok__law_poured : SrcOk nfo s__law_poured := ⟨⟨by kernel_rfl, by kernel_rfl, by kernel_rfl, by decide +kernel, by decide +kernel, by decide +kernel, by decide +kernel⟩, fun _ _ _ _ _ _ us hl => match us, hl with | [_, _, _], _ => by kernel_rfl, by decide +kernel⟩
theorem ok__law_pair : SrcOk nfo s__law_pair := ⟨⟨by kernel_rfl, by kernel_rfl, by kernel_rfl, by decide +kernel, by decide +kernel, by decide +kernel, by decide +kernel⟩, fun _ _ _ _ _ _ us hl => match us, hl with | [_, _, _], _ => by kernel_rfl, by decide +kernel⟩
theorem ok__law_noted : SrcOk nfo s__law_noted := ⟨⟨by kernel_rfl, by kernel_rfl, by kernel_rfl, by decide +kernel, by decide +kernel, by decide +kernel, by decide +kernel⟩, fun _ _ _ _ _ _ us hl => match us, hl with | [_, _, _], _ => by kernel_rfl, by decide +kernel⟩
theorem ok__law_met : SrcOk nfo s__law_met := ⟨⟨by kernel_rfl, by kernel_rfl, by kernel_rfl, by decide +kernel, by decide +kernel, by decide +kernel, by decide +kernel⟩, fun _ _ _ _ _ _ us hl => match us, hl with | [_, _, _], _ => by kernel_rfl, by decide +kernel⟩
theorem ok__law_member : SrcOk nfo s__law_member := ⟨⟨by kernel_rfl, by kernel_rfl, by kernel_rfl, by decide +kernel, by decide +kernel, by decide +kernel, by decide +kernel⟩, fun _ _ _ _ _ _ us hl => match us, hl with | [_, _, _], _ => by kernel_rfl, by decide +kernel⟩
theorem ok__law_is_right : SrcOk nfo s__law_is_right := ⟨⟨by kernel_rfl, by kernel_rfl, by kernel_rfl, by decide +kernel, by decide +kernel, by decide +kernel, by decide +kernel⟩, fun _ _ _ _ _ _ us hl => match us, hl with | [_, _, _], _ => by kernel_rfl, by decide +kernel⟩
theorem ok_law : SrcOk nfo s_law := ⟨⟨by kernel_rfl, by kernel_rfl, by kernel_rfl, by decide +kernel, by decide +kernel, by decide +kernel, by decide +kernel⟩, fun _ _ _ _ _ _ us hl => match us, hl with | [_], _ => by kernel_rfl, by decide +kernel⟩
theorem oks : ∀ s ∈ srcs, SrcOk nfo s := by
  intro s hs
  simp only [srcs, List.mem_cons, List.not_mem_nil, or_false] at hs
  rcases hs with rfl | rfl | rfl | rfl | rfl | rfl | rfl | rfl | rfl | rfl | rfl | rfl | rfl | rfl | rfl | rfl | rfl | rfl | rfl | rfl | rfl | rfl | rfl | rfl | rfl | rfl | rfl | rfl | rfl
  · exact ok_is_whole
  · exact ok_is_within
  · exact ok_is_worths
  · exact ok_is_simple
  · exact ok_simples_in
  · exact ok_simples
  · exact ok_is_sum
  · exact ok_size_of
  · exact ok_says
  · exact ok_cut_to
  · exact ok_rest_over
  · exact ok_is_note
  · exact ok_members_meet
  · exact ok_with_note
  · exact ok_meet
  · exact ok__law_hand
  · exact ok__law_take
  · exact ok__law_of
  · exact ok__law_worth
  · exact ok__law_sum
  · exact ok__law_size
  · exact ok__law_says
  · exact ok__law_poured
  · exact ok__law_pair
  · exact ok__law_noted
  · exact ok__law_met
  · exact ok__law_member
  · exact ok__law_is_right
  · exact ok_law
abbrev T : List (Str × FDef) := tabT srcs
theorem lk_is_whole : T.lookup ("is_whole" : Str) = some s_is_whole.d := by kernel_rfl
theorem call_is_whole (k : Nat) (vs : List PV) (M : Sto) (Q : Q1) : callN T (k + 1) "is_whole" vs M Q ↔ (vs.length = 1 ∧ wpSs (callN T k) b_is_whole (startP ["thing"] vs) M (fnEnds Q)) := callN_iff lk_is_whole
theorem lk_is_within : T.lookup ("is_within" : Str) = some s_is_within.d := by kernel_rfl
theorem call_is_within (k : Nat) (vs : List PV) (M : Sto) (Q : Q1) : callN T (k + 1) "is_within" vs M Q ↔ (vs.length = 3 ∧ wpSs (callN T k) b_is_within (startP ["thing", "low", "high"] vs) M (fnEnds Q)) := callN_iff lk_is_within
theorem lk_is_worths : T.lookup ("is_worths" : Str) = some s_is_worths.d := by kernel_rfl
theorem call_is_worths (k : Nat) (vs : List PV) (M : Sto) (Q : Q1) : callN T (k + 1) "is_worths" vs M Q ↔ (vs.length = 1 ∧ wpSs (callN T k) b_is_worths (startP ["thing", "worth"] vs) M (fnEnds Q)) := callN_iff lk_is_worths
theorem lk_is_simple : T.lookup ("is_simple" : Str) = some s_is_simple.d := by kernel_rfl
theorem call_is_simple (k : Nat) (vs : List PV) (M : Sto) (Q : Q1) : callN T (k + 1) "is_simple" vs M Q ↔ (vs.length = 1 ∧ wpSs (callN T k) b_is_simple (startP ["thing"] vs) M (fnEnds Q)) := callN_iff lk_is_simple
theorem lk_simples_in : T.lookup ("simples_in" : Str) = some s_simples_in.d := by kernel_rfl
theorem call_simples_in (k : Nat) (vs : List PV) (M : Sto) (Q : Q1) : callN T (k + 1) "simples_in" vs M Q ↔ (vs.length = 2 ∧ wpSs (callN T k) b_simples_in (startP ["thing", "depth", "one", "other"] vs) M (fnEnds Q)) := callN_iff lk_simples_in
theorem lk_simples : T.lookup ("simples" : Str) = some s_simples.d := by kernel_rfl
theorem call_simples (k : Nat) (vs : List PV) (M : Sto) (Q : Q1) : callN T (k + 1) "simples" vs M Q ↔ (vs.length = 1 ∧ wpSs (callN T k) b_simples (startP ["saying"] vs) M (fnEnds Q)) := callN_iff lk_simples
theorem lk_is_sum : T.lookup ("is_sum" : Str) = some s_is_sum.d := by kernel_rfl
theorem call_is_sum (k : Nat) (vs : List PV) (M : Sto) (Q : Q1) : callN T (k + 1) "is_sum" vs M Q ↔ (vs.length = 1 ∧ wpSs (callN T k) b_is_sum (startP ["simple"] vs) M (fnEnds Q)) := callN_iff lk_is_sum
theorem lk_size_of : T.lookup ("size_of" : Str) = some s_size_of.d := by kernel_rfl
theorem call_size_of (k : Nat) (vs : List PV) (M : Sto) (Q : Q1) : callN T (k + 1) "size_of" vs M Q ↔ (vs.length = 1 ∧ wpSs (callN T k) b_size_of (startP ["simple", "worth"] vs) M (fnEnds Q)) := callN_iff lk_size_of
theorem lk_says : T.lookup ("says" : Str) = some s_says.d := by kernel_rfl
theorem call_says (k : Nat) (vs : List PV) (M : Sto) (Q : Q1) : callN T (k + 1) "says" vs M Q ↔ (vs.length = 2 ∧ wpSs (callN T k) b_says (startP ["simple", "number"] vs) M (fnEnds Q)) := callN_iff lk_says
theorem lk_cut_to : T.lookup ("cut_to" : Str) = some s_cut_to.d := by kernel_rfl
theorem call_cut_to (k : Nat) (vs : List PV) (M : Sto) (Q : Q1) : callN T (k + 1) "cut_to" vs M Q ↔ (vs.length = 2 ∧ wpSs (callN T k) b_cut_to (startP ["simple", "number", "size", "modulus"] vs) M (fnEnds Q)) := callN_iff lk_cut_to
theorem lk_rest_over : T.lookup ("rest_over" : Str) = some s_rest_over.d := by kernel_rfl
theorem call_rest_over (k : Nat) (vs : List PV) (M : Sto) (Q : Q1) : callN T (k + 1) "rest_over" vs M Q ↔ (vs.length = 2 ∧ wpSs (callN T k) b_rest_over (startP ["simple", "number"] vs) M (fnEnds Q)) := callN_iff lk_rest_over
theorem lk_is_note : T.lookup ("is_note" : Str) = some s_is_note.d := by kernel_rfl
theorem call_is_note (k : Nat) (vs : List PV) (M : Sto) (Q : Q1) : callN T (k + 1) "is_note" vs M Q ↔ (vs.length = 1 ∧ wpSs (callN T k) b_is_note (startP ["state"] vs) M (fnEnds Q)) := callN_iff lk_is_note
theorem lk_members_meet : T.lookup ("members_meet" : Str) = some s_members_meet.d := by kernel_rfl
theorem call_members_meet (k : Nat) (vs : List PV) (M : Sto) (Q : Q1) : callN T (k + 1) "members_meet" vs M Q ↔ (vs.length = 3 ∧ wpSs (callN T k) b_members_meet (startP ["simple", "one", "other", "number", "new", "word", "first", "second"] vs) M (fnEnds Q)) := callN_iff lk_members_meet
theorem lk_with_note : T.lookup ("with_note" : Str) = some s_with_note.d := by kernel_rfl
theorem call_with_note (k : Nat) (vs : List PV) (M : Sto) (Q : Q1) : callN T (k + 1) "with_note" vs M Q ↔ (vs.length = 3 ∧ wpSs (callN T k) b_with_note (startP ["saying", "member", "note", "pairs", "simple", "one", "other", "new", "others"] vs) M (fnEnds Q)) := callN_iff lk_with_note
theorem lk_meet : T.lookup ("meet" : Str) = some s_meet.d := by kernel_rfl
theorem call_meet (k : Nat) (vs : List PV) (M : Sto) (Q : Q1) : callN T (k + 1) "meet" vs M Q ↔ (vs.length = 3 ∧ wpSs (callN T k) b_meet (startP ["saying", "one", "other", "member", "note", "pairs", "simple", "a", "b", "first", "second"] vs) M (fnEnds Q)) := callN_iff lk_meet
theorem lk__law_hand : T.lookup ("_law_hand" : Str) = some s__law_hand.d := by kernel_rfl
theorem call__law_hand (k : Nat) (vs : List PV) (M : Sto) (Q : Q1) : callN T (k + 1) "_law_hand" vs M Q ↔ (vs.length = 2 ∧ wpSs (callN T k) b__law_hand (startP ["_law_script", "_law_k", "_law_cell", "_law_seed", "_law_one"] vs) M (fnEnds Q)) := callN_iff lk__law_hand
theorem lk__law_take : T.lookup ("_law_take" : Str) = some s__law_take.d := by kernel_rfl
theorem call__law_take (k : Nat) (vs : List PV) (M : Sto) (Q : Q1) : callN T (k + 1) "_law_take" vs M Q ↔ (vs.length = 2 ∧ wpSs (callN T k) b__law_take (startP ["_law_hand_here", "_law_many", "_law_digit", "_law_prime", "_law_mixed"] vs) M (fnEnds Q)) := callN_iff lk__law_take
theorem lk__law_of : T.lookup ("_law_of" : Str) = some s__law_of.d := by kernel_rfl
theorem call__law_of (k : Nat) (vs : List PV) (M : Sto) (Q : Q1) : callN T (k + 1) "_law_of" vs M Q ↔ (vs.length = 2 ∧ wpSs (callN T k) b__law_of (startP ["_law_hand_here", "_law_some"] vs) M (fnEnds Q)) := callN_iff lk__law_of
theorem lk__law_worth : T.lookup ("_law_worth" : Str) = some s__law_worth.d := by kernel_rfl
theorem call__law_worth (k : Nat) (vs : List PV) (M : Sto) (Q : Q1) : callN T (k + 1) "_law_worth" vs M Q ↔ (vs.length = 1 ∧ wpSs (callN T k) b__law_worth (startP ["_law_hand_here", "_law_near"] vs) M (fnEnds Q)) := callN_iff lk__law_worth
theorem lk__law_sum : T.lookup ("_law_sum" : Str) = some s__law_sum.d := by kernel_rfl
theorem call__law_sum (k : Nat) (vs : List PV) (M : Sto) (Q : Q1) : callN T (k + 1) "_law_sum" vs M Q ↔ (vs.length = 2 ∧ wpSs (callN T k) b__law_sum (startP ["_law_hand_here", "_law_sorts", "_law_worths", "_law_sort", "_law_near"] vs) M (fnEnds Q)) := callN_iff lk__law_sum
theorem lk__law_size : T.lookup ("_law_size" : Str) = some s__law_size.d := by kernel_rfl
theorem call__law_size (k : Nat) (vs : List PV) (M : Sto) (Q : Q1) : callN T (k + 1) "_law_size" vs M Q ↔ (vs.length = 1 ∧ wpSs (callN T k) b__law_size (startP ["_law_simple", "_law_worths", "_law_worth_here"] vs) M (fnEnds Q)) := callN_iff lk__law_size
theorem lk__law_says : T.lookup ("_law_says" : Str) = some s__law_says.d := by kernel_rfl
theorem call__law_says (k : Nat) (vs : List PV) (M : Sto) (Q : Q1) : callN T (k + 1) "_law_says" vs M Q ↔ (vs.length = 2 ∧ wpSs (callN T k) b__law_says (startP ["_law_simple", "_law_number"] vs) M (fnEnds Q)) := callN_iff lk__law_says
theorem lk__law_poured : T.lookup ("_law_poured" : Str) = some s__law_poured.d := by kernel_rfl
theorem call__law_poured (k : Nat) (vs : List PV) (M : Sto) (Q : Q1) : callN T (k + 1) "_law_poured" vs M Q ↔ (vs.length = 3 ∧ wpSs (callN T k) b__law_poured (startP ["_law_simple", "_law_one", "_law_other", "_law_size_here"] vs) M (fnEnds Q)) := callN_iff lk__law_poured
theorem lk__law_pair : T.lookup ("_law_pair" : Str) = some s__law_pair.d := by kernel_rfl
theorem call__law_pair (k : Nat) (vs : List PV) (M : Sto) (Q : Q1) : callN T (k + 1) "_law_pair" vs M Q ↔ (vs.length = 3 ∧ wpSs (callN T k) b__law_pair (startP ["_law_simple", "_law_here", "_law_there", "_law_lead", "_law_follower", "_law_number", "_law_rest_of_it", "_law_word", "_law_both"] vs) M (fnEnds Q)) := callN_iff lk__law_pair
theorem lk__law_noted : T.lookup ("_law_noted" : Str) = some s__law_noted.d := by kernel_rfl
theorem call__law_noted (k : Nat) (vs : List PV) (M : Sto) (Q : Q1) : callN T (k + 1) "_law_noted" vs M Q ↔ (vs.length = 3 ∧ wpSs (callN T k) b__law_noted (startP ["_law_simple", "_law_here", "_law_there", "_law_number", "_law_rest_of_it"] vs) M (fnEnds Q)) := callN_iff lk__law_noted
theorem lk__law_met : T.lookup ("_law_met" : Str) = some s__law_met.d := by kernel_rfl
theorem call__law_met (k : Nat) (vs : List PV) (M : Sto) (Q : Q1) : callN T (k + 1) "_law_met" vs M Q ↔ (vs.length = 3 ∧ wpSs (callN T k) b__law_met (startP ["_law_singles", "_law_one", "_law_other", "_law_found", "_law_others", "_law_noted_here", "_law_simple", "_law_here", "_law_there", "_law_pair_here", "_law_member_here", "_law_hold"] vs) M (fnEnds Q)) := callN_iff lk__law_met
theorem lk__law_member : T.lookup ("_law_member" : Str) = some s__law_member.d := by kernel_rfl
theorem call__law_member (k : Nat) (vs : List PV) (M : Sto) (Q : Q1) : callN T (k + 1) "_law_member" vs M Q ↔ (vs.length = 3 ∧ wpSs (callN T k) b__law_member (startP ["_law_hand_here", "_law_singles", "_law_sort", "_law_holds", "_law_simple", "_law_size_here", "_law_leads", "_law_low", "_law_any_one", "_law_number", "_law_word"] vs) M (fnEnds Q)) := callN_iff lk__law_member
theorem lk__law_is_right : T.lookup ("_law_is_right" : Str) = some s__law_is_right.d := by kernel_rfl
theorem call__law_is_right (k : Nat) (vs : List PV) (M : Sto) (Q : Q1) : callN T (k + 1) "_law_is_right" vs M Q ↔ (vs.length = 3 ∧ wpSs (callN T k) b__law_is_right (startP ["_law_simple", "_law_one", "_law_other", "_law_held", "_law_due"] vs) M (fnEnds Q)) := callN_iff lk__law_is_right
theorem lk_law : T.lookup ("law" : Str) = some s_law.d := by kernel_rfl
theorem call_law (k : Nat) (vs : List PV) (M : Sto) (Q : Q1) : callN T (k + 1) "law" vs M Q ↔ (vs.length = 1 ∧ wpSs (callN T k) b_law (startP ["_law_script", "_law_k", "_law_hand_here", "_law_sorts", "_law_simple", "_law_size_here", "_law_turn", "_law_one", "_law_other", "_law_place", "_law_member_here", "_law_number", "_law_lead", "_law_follower"] vs) M (fnEnds Q)) := callN_iff lk_law
def loose0 : List Str := ["__name__", "MOST_SORTS", "MOST_WORTH", "MOST_BOUND", "MOST_PARTS", "MOST_DEPTH", "SUM_PARTS", "REST_PARTS", "TWO_PARTS", "is_whole", "is_within", "is_worths", "is_simple", "simples_in", "simples", "is_sum", "size_of", "says", "cut_to", "rest_over", "MEMBER", "NOTE", "BARE", "is_note", "is_bare", "members_meet", "note_met", "with_note", "meet", "_law_hand"]
def loose1 : List Str := ["_law_take", "_law_of", "_law_worth", "_law_sum", "_law_size", "_law_says", "_law_poured", "_law_pair", "_law_noted", "_law_met", "_law_member", "_law_note", "_law_is_right"]
def loose : List Str := loose0 ++ loose1
def lawAt : Nat := 47
end Zk17
namespace Zk17
open PySem SG
theorem w_is_whole (k : Nat) (i : Int) (M : Sto) (Q : Q1) : callN T (k + 1) "is_whole" [.int i] M Q ↔ Q (.bl true) M := by
  rw [call_is_whole]
  simp only [b_is_whole, SG.wpSs, SG.wpS, wpE, wpL, wpO, wpC, wpI, startP, fnEnds, bind_nm, bind_tp, binds_nil, binds_nm, binds_tp, Option.bind_some, false_or, or_false, zipL3, zipL, enmL, cmp_eq_int, cmp_ne_int, cmp_eq_str, cmp_ne_str, cmp_lt, cmp_le, cmp_gt, cmp_ge, cmp_is, cmp_isnot, at_0, at_1, at_2, at_3, at_4, List.map_cons, List.map_nil, List.length_cons, List.length_nil, List.replicate, List.cons_append, List.nil_append, List.getElem?_cons_zero, List.getElem?_cons_succ, List.set_cons_zero, List.set_cons_succ, Option.some.injEq, exists_eq_left, exists_eq_left', exists_eq_right, exists_and_left, true_and, and_true, if_true, if_false, Bool.false_eq_true, reduceCtorEq, if_pos, if_neg, PV.int.injEq, PV.bl.injEq, PV.str.injEq, PV.tup.injEq, PV.lst.injEq, PV.ref.injEq, PV.fn.injEq, Nat.reduceAdd, Nat.reduceSub, Bool.not_true, Bool.not_false, and_self, Nat.add_zero, Nat.zero_add, Nat.sub_self, forall_const, cast_0, cast_1, cast_2, cast_3, cast_4, cast_5, cast_6, cast_7, cast_8, cast_9, Int.reduceLT, Int.reduceLE, Int.reduceNeg, decide_true, decide_false, Int.reduceEq, so_tup, so_lst, lo_lst, tru_non, tru_bl, tru_int, tru_tup, tru_lst, bin_add_int, bin_add_tup, bin_add_lst, bin_sub, bin_mul, bin_fdiv, bin_mod, bin_pow, ord_int, ordI_lt, ordI_le, ordI_gt, ordI_ge, ix_tup, ix_lst, sl_tup, sl_lst, is_non, is_bl, isi_int, isi_bl, isi_str, isi_tup, isi_lst, isi_non, b_len, len_tup, len_lst, b_abs, b_int, b_int_bl, b_max2, b_min2, b_all, b_any, b_sum, b_tuple_lst, b_list_tup, b_repr, now_tup, now_lst, now_int, now_bl, new_f, new_t, walk_tup, walk_lst, zip_2, zip_3, src_tup, src_lst, rev_tup, rev_lst, bind_lst, enm_tup, enm_lst, put_at, ixN_32, ixN_31, ixN_30]
theorem w_is_within (k : Nat) (i a b : Int) (M : Sto) (Q : Q1) : callN T (k + 2) "is_within" [.int i, .int a, .int b] M Q ↔ Q (.bl (decide (a ≤ i) && decide (i ≤ b))) M := by
  rw [call_is_within]
  simp only [b_is_within, SG.wpSs, SG.wpS, wpE, wpL, wpO, wpC, wpI, startP, fnEnds, bind_nm, bind_tp, binds_nil, binds_nm, binds_tp, Option.bind_some, false_or, or_false, zipL3, zipL, enmL, cmp_eq_int, cmp_ne_int, cmp_eq_str, cmp_ne_str, cmp_lt, cmp_le, cmp_gt, cmp_ge, cmp_is, cmp_isnot, at_0, at_1, at_2, at_3, at_4, List.map_cons, List.map_nil, List.length_cons, List.length_nil, List.replicate, List.cons_append, List.nil_append, List.getElem?_cons_zero, List.getElem?_cons_succ, List.set_cons_zero, List.set_cons_succ, Option.some.injEq, exists_eq_left, exists_eq_left', exists_eq_right, exists_and_left, true_and, and_true, if_true, if_false, Bool.false_eq_true, reduceCtorEq, if_pos, if_neg, PV.int.injEq, PV.bl.injEq, PV.str.injEq, PV.tup.injEq, PV.lst.injEq, PV.ref.injEq, PV.fn.injEq, Nat.reduceAdd, Nat.reduceSub, Bool.not_true, Bool.not_false, and_self, Nat.add_zero, Nat.zero_add, Nat.sub_self, forall_const, cast_0, cast_1, cast_2, cast_3, cast_4, cast_5, cast_6, cast_7, cast_8, cast_9, Int.reduceLT, Int.reduceLE, Int.reduceNeg, decide_true, decide_false, Int.reduceEq, so_tup, so_lst, lo_lst, tru_non, tru_bl, tru_int, tru_tup, tru_lst, bin_add_int, bin_add_tup, bin_add_lst, bin_sub, bin_mul, bin_fdiv, bin_mod, bin_pow, ord_int, ordI_lt, ordI_le, ordI_gt, ordI_ge, ix_tup, ix_lst, sl_tup, sl_lst, is_non, is_bl, isi_int, isi_bl, isi_str, isi_tup, isi_lst, isi_non, b_len, len_tup, len_lst, b_abs, b_int, b_int_bl, b_max2, b_min2, b_all, b_any, b_sum, b_tuple_lst, b_list_tup, b_repr, now_tup, now_lst, now_int, now_bl, new_f, new_t, walk_tup, walk_lst, zip_2, zip_3, src_tup, src_lst, rev_tup, rev_lst, bind_lst, enm_tup, enm_lst, put_at, ixN_32, ixN_31, ixN_30, w_is_whole]
  by_cases h : a ≤ i <;> simp [h]
theorem w_is_worths (k : Nat) (ws : List Int) (h1 : 1 ≤ ws.length) (h6 : ws.length ≤ 6) (hw : ∀ w ∈ ws, -9 ≤ w ∧ w ≤ 9) (M : Sto) (Q : Q1) : callN T (k + 3) "is_worths" [.tup (ws.map .int)] M Q ↔ Q (.bl true) M := by
  rw [call_is_worths]
  simp only [b_is_worths, SG.wpSs, SG.wpS, wpE, wpL, wpO, wpC, wpI, startP, fnEnds, bind_nm, bind_tp, binds_nil, binds_nm, binds_tp, Option.bind_some, false_or, or_false, zipL3, zipL, enmL, cmp_eq_int, cmp_ne_int, cmp_eq_str, cmp_ne_str, cmp_lt, cmp_le, cmp_gt, cmp_ge, cmp_is, cmp_isnot, at_0, at_1, at_2, at_3, at_4, List.map_cons, List.map_nil, List.length_cons, List.length_nil, List.replicate, List.cons_append, List.nil_append, List.getElem?_cons_zero, List.getElem?_cons_succ, List.set_cons_zero, List.set_cons_succ, Option.some.injEq, exists_eq_left, exists_eq_left', exists_eq_right, exists_and_left, true_and, and_true, if_true, if_false, Bool.false_eq_true, reduceCtorEq, if_pos, if_neg, PV.int.injEq, PV.bl.injEq, PV.str.injEq, PV.tup.injEq, PV.lst.injEq, PV.ref.injEq, PV.fn.injEq, Nat.reduceAdd, Nat.reduceSub, Bool.not_true, Bool.not_false, and_self, Nat.add_zero, Nat.zero_add, Nat.sub_self, forall_const, cast_0, cast_1, cast_2, cast_3, cast_4, cast_5, cast_6, cast_7, cast_8, cast_9, Int.reduceLT, Int.reduceLE, Int.reduceNeg, decide_true, decide_false, Int.reduceEq, so_tup, so_lst, lo_lst, tru_non, tru_bl, tru_int, tru_tup, tru_lst, bin_add_int, bin_add_tup, bin_add_lst, bin_sub, bin_mul, bin_fdiv, bin_mod, bin_pow, ord_int, ordI_lt, ordI_le, ordI_gt, ordI_ge, ix_tup, ix_lst, sl_tup, sl_lst, is_non, is_bl, isi_int, isi_bl, isi_str, isi_tup, isi_lst, isi_non, b_len, len_tup, len_lst, b_abs, b_int, b_int_bl, b_max2, b_min2, b_all, b_any, b_sum, b_tuple_lst, b_list_tup, b_repr, now_tup, now_lst, now_int, now_bl, new_f, new_t, walk_tup, walk_lst, zip_2, zip_3, src_tup, src_lst, rev_tup, rev_lst, bind_lst, enm_tup, enm_lst, put_at, ixN_32, ixN_31, ixN_30, w_is_within, List.length_map]
  rw [compL_map (f := PV.int) (g := fun w => .bl (decide (-9 ≤ w) && decide (w ≤ 9))) ws []]
  · simp only [SG.wpSs, SG.wpS, wpE, wpL, wpO, wpC, wpI, startP, fnEnds, bind_nm, bind_tp, binds_nil, binds_nm, binds_tp, Option.bind_some, false_or, or_false, zipL3, zipL, enmL, cmp_eq_int, cmp_ne_int, cmp_eq_str, cmp_ne_str, cmp_lt, cmp_le, cmp_gt, cmp_ge, cmp_is, cmp_isnot, at_0, at_1, at_2, at_3, at_4, List.map_cons, List.map_nil, List.length_cons, List.length_nil, List.replicate, List.cons_append, List.nil_append, List.getElem?_cons_zero, List.getElem?_cons_succ, List.set_cons_zero, List.set_cons_succ, Option.some.injEq, exists_eq_left, exists_eq_left', exists_eq_right, exists_and_left, true_and, and_true, if_true, if_false, Bool.false_eq_true, reduceCtorEq, if_pos, if_neg, PV.int.injEq, PV.bl.injEq, PV.str.injEq, PV.tup.injEq, PV.lst.injEq, PV.ref.injEq, PV.fn.injEq, Nat.reduceAdd, Nat.reduceSub, Bool.not_true, Bool.not_false, and_self, Nat.add_zero, Nat.zero_add, Nat.sub_self, forall_const, cast_0, cast_1, cast_2, cast_3, cast_4, cast_5, cast_6, cast_7, cast_8, cast_9, Int.reduceLT, Int.reduceLE, Int.reduceNeg, decide_true, decide_false, Int.reduceEq, so_tup, so_lst, lo_lst, tru_non, tru_bl, tru_int, tru_tup, tru_lst, bin_add_int, bin_add_tup, bin_add_lst, bin_sub, bin_mul, bin_fdiv, bin_mod, bin_pow, ord_int, ordI_lt, ordI_le, ordI_gt, ordI_ge, ix_tup, ix_lst, sl_tup, sl_lst, is_non, is_bl, isi_int, isi_bl, isi_str, isi_tup, isi_lst, isi_non, b_len, len_tup, len_lst, b_abs, b_int, b_int_bl, b_max2, b_min2, b_all, b_any, b_sum, b_tuple_lst, b_list_tup, b_repr, now_tup, now_lst, now_int, now_bl, new_f, new_t, walk_tup, walk_lst, zip_2, zip_3, src_tup, src_lst, rev_tup, rev_lst, bind_lst, enm_tup, enm_lst, put_at, ixN_32, ixN_31, ixN_30, bools_map]
    have e1 : (ws.map fun w => decide (-9 ≤ w) && decide (w ≤ 9)).all id = true := by
      rw [List.all_eq_true]
      intro b hb
      obtain ⟨w, hm, rfl⟩ := List.mem_map.mp hb
      have := hw w hm
      simp [this.1, this.2]
    have e2 : decide ((1 : Int) ≤ ws.length) = true := by rw [decide_eq_true_eq]; omega
    have e3 : decide ((ws.length : Int) ≤ 6) = true := by rw [decide_eq_true_eq]; omega
    have e4 : ws.length ≤ sizeLine := Nat.le_trans h6 (by decide)
    rw [e1, e2, e3]
    simp [e4]
  · intro w hw' c
    simp only [SG.wpSs, SG.wpS, wpE, wpL, wpO, wpC, wpI, startP, fnEnds, bind_nm, bind_tp, binds_nil, binds_nm, binds_tp, Option.bind_some, false_or, or_false, zipL3, zipL, enmL, cmp_eq_int, cmp_ne_int, cmp_eq_str, cmp_ne_str, cmp_lt, cmp_le, cmp_gt, cmp_ge, cmp_is, cmp_isnot, at_0, at_1, at_2, at_3, at_4, List.map_cons, List.map_nil, List.length_cons, List.length_nil, List.replicate, List.cons_append, List.nil_append, List.getElem?_cons_zero, List.getElem?_cons_succ, List.set_cons_zero, List.set_cons_succ, Option.some.injEq, exists_eq_left, exists_eq_left', exists_eq_right, exists_and_left, true_and, and_true, if_true, if_false, Bool.false_eq_true, reduceCtorEq, if_pos, if_neg, PV.int.injEq, PV.bl.injEq, PV.str.injEq, PV.tup.injEq, PV.lst.injEq, PV.ref.injEq, PV.fn.injEq, Nat.reduceAdd, Nat.reduceSub, Bool.not_true, Bool.not_false, and_self, Nat.add_zero, Nat.zero_add, Nat.sub_self, forall_const, cast_0, cast_1, cast_2, cast_3, cast_4, cast_5, cast_6, cast_7, cast_8, cast_9, Int.reduceLT, Int.reduceLE, Int.reduceNeg, decide_true, decide_false, Int.reduceEq, so_tup, so_lst, lo_lst, tru_non, tru_bl, tru_int, tru_tup, tru_lst, bin_add_int, bin_add_tup, bin_add_lst, bin_sub, bin_mul, bin_fdiv, bin_mod, bin_pow, ord_int, ordI_lt, ordI_le, ordI_gt, ordI_ge, ix_tup, ix_lst, sl_tup, sl_lst, is_non, is_bl, isi_int, isi_bl, isi_str, isi_tup, isi_lst, isi_non, b_len, len_tup, len_lst, b_abs, b_int, b_int_bl, b_max2, b_min2, b_all, b_any, b_sum, b_tuple_lst, b_list_tup, b_repr, now_tup, now_lst, now_int, now_bl, new_f, new_t, walk_tup, walk_lst, zip_2, zip_3, src_tup, src_lst, rev_tup, rev_lst, bind_lst, enm_tup, enm_lst, put_at, ixN_32, ixN_31, ixN_30, w_is_within]
abbrev sum_ (ws : List Int) (c : Int) : PV := .tup [.str "sum", .tup (ws.map .int), .int c]
structure Good (ws : List Int) (c : Int) : Prop where
  l1 : 1 ≤ ws.length
  l6 : ws.length ≤ 6
  w : ∀ w ∈ ws, -9 ≤ w ∧ w ≤ 9
  c0 : -20 ≤ c
  c1 : c ≤ 20
theorem sne1 : decide ((Str.ofString "sum") = Str.ofString "rest") = false := by decide +kernel
theorem sne2 : decide ((Str.ofString "member") = Str.ofString "note") = false := by decide +kernel
theorem w_is_simple (k : Nat) {ws : List Int} {c : Int} (g : Good ws c) (M : Sto) (Q : Q1) : callN T (k + 4) "is_simple" [sum_ ws c] M Q ↔ Q (.bl true) M := by
  have e1 : decide (-20 ≤ c) = true := decide_eq_true g.c0
  have e2 : decide (c ≤ 20) = true := decide_eq_true g.c1
  rw [call_is_simple]
  simp only [b_is_simple, SG.wpSs, SG.wpS, wpE, wpL, wpO, wpC, wpI, startP, fnEnds, bind_nm, bind_tp, binds_nil, binds_nm, binds_tp, Option.bind_some, false_or, or_false, zipL3, zipL, enmL, cmp_eq_int, cmp_ne_int, cmp_eq_str, cmp_ne_str, cmp_lt, cmp_le, cmp_gt, cmp_ge, cmp_is, cmp_isnot, at_0, at_1, at_2, at_3, at_4, List.map_cons, List.map_nil, List.length_cons, List.length_nil, List.replicate, List.cons_append, List.nil_append, List.getElem?_cons_zero, List.getElem?_cons_succ, List.set_cons_zero, List.set_cons_succ, Option.some.injEq, exists_eq_left, exists_eq_left', exists_eq_right, exists_and_left, true_and, and_true, if_true, if_false, Bool.false_eq_true, reduceCtorEq, if_pos, if_neg, PV.int.injEq, PV.bl.injEq, PV.str.injEq, PV.tup.injEq, PV.lst.injEq, PV.ref.injEq, PV.fn.injEq, Nat.reduceAdd, Nat.reduceSub, Bool.not_true, Bool.not_false, and_self, Nat.add_zero, Nat.zero_add, Nat.sub_self, forall_const, cast_0, cast_1, cast_2, cast_3, cast_4, cast_5, cast_6, cast_7, cast_8, cast_9, Int.reduceLT, Int.reduceLE, Int.reduceNeg, decide_true, decide_false, Int.reduceEq, so_tup, so_lst, lo_lst, tru_non, tru_bl, tru_int, tru_tup, tru_lst, bin_add_int, bin_add_tup, bin_add_lst, bin_sub, bin_mul, bin_fdiv, bin_mod, bin_pow, ord_int, ordI_lt, ordI_le, ordI_gt, ordI_ge, ix_tup, ix_lst, sl_tup, sl_lst, is_non, is_bl, isi_int, isi_bl, isi_str, isi_tup, isi_lst, isi_non, b_len, len_tup, len_lst, b_abs, b_int, b_int_bl, b_max2, b_min2, b_all, b_any, b_sum, b_tuple_lst, b_list_tup, b_repr, now_tup, now_lst, now_int, now_bl, new_f, new_t, walk_tup, walk_lst, zip_2, zip_3, src_tup, src_lst, rev_tup, rev_lst, bind_lst, enm_tup, enm_lst, put_at, ixN_32, ixN_31, ixN_30, w_is_within, w_is_worths k ws g.l1 g.l6 g.w, e1, e2, Bool.and_self]
theorem gPl (ws : List Int) (c : Int) : PV.pls [.str "sum", .tup (ws.map .int), .int c] = true := by
  have e := pls_map (f := PV.int) (fun _ => by simp [PV.pl]) ws
  have e2 : PyData.strOk (Str.ofString "sum") = true := by decide +kernel
  simp [PV.pls, PV.pl, e, e2]
theorem w_simples_in (k : Nat) {ws : List Int} {c : Int} (g : Good ws c) (M : Sto) (Q : Q1) : callN T (k + 5) "simples_in" [sum_ ws c, .int 8] M Q ↔ Q (.lst [sum_ ws c]) M := by
  rw [call_simples_in]
  simp only [b_simples_in, SG.wpSs, SG.wpS, wpE, wpL, wpO, wpC, wpI, startP, fnEnds, bind_nm, bind_tp, binds_nil, binds_nm, binds_tp, Option.bind_some, false_or, or_false, zipL3, zipL, enmL, cmp_eq_int, cmp_ne_int, cmp_eq_str, cmp_ne_str, cmp_lt, cmp_le, cmp_gt, cmp_ge, cmp_is, cmp_isnot, at_0, at_1, at_2, at_3, at_4, List.map_cons, List.map_nil, List.length_cons, List.length_nil, List.replicate, List.cons_append, List.nil_append, List.getElem?_cons_zero, List.getElem?_cons_succ, List.set_cons_zero, List.set_cons_succ, Option.some.injEq, exists_eq_left, exists_eq_left', exists_eq_right, exists_and_left, true_and, and_true, if_true, if_false, Bool.false_eq_true, reduceCtorEq, if_pos, if_neg, PV.int.injEq, PV.bl.injEq, PV.str.injEq, PV.tup.injEq, PV.lst.injEq, PV.ref.injEq, PV.fn.injEq, Nat.reduceAdd, Nat.reduceSub, Bool.not_true, Bool.not_false, and_self, Nat.add_zero, Nat.zero_add, Nat.sub_self, forall_const, cast_0, cast_1, cast_2, cast_3, cast_4, cast_5, cast_6, cast_7, cast_8, cast_9, Int.reduceLT, Int.reduceLE, Int.reduceNeg, decide_true, decide_false, Int.reduceEq, so_tup, so_lst, lo_lst, tru_non, tru_bl, tru_int, tru_tup, tru_lst, bin_add_int, bin_add_tup, bin_add_lst, bin_sub, bin_mul, bin_fdiv, bin_mod, bin_pow, ord_int, ordI_lt, ordI_le, ordI_gt, ordI_ge, ix_tup, ix_lst, sl_tup, sl_lst, is_non, is_bl, isi_int, isi_bl, isi_str, isi_tup, isi_lst, isi_non, b_len, len_tup, len_lst, b_abs, b_int, b_int_bl, b_max2, b_min2, b_all, b_any, b_sum, b_tuple_lst, b_list_tup, b_repr, now_tup, now_lst, now_int, now_bl, new_f, new_t, walk_tup, walk_lst, zip_2, zip_3, src_tup, src_lst, rev_tup, rev_lst, bind_lst, enm_tup, enm_lst, put_at, ixN_32, ixN_31, ixN_30, w_is_simple k g, cmp_eq_nil (gPl ws c)]
theorem w_simples (k : Nat) {ws : List Int} {c : Int} (g : Good ws c) (M : Sto) (Q : Q1) : callN T (k + 6) "simples" [sum_ ws c] M Q ↔ Q (.tup [sum_ ws c]) M := by
  rw [call_simples]
  simp only [b_simples, SG.wpSs, SG.wpS, wpE, wpL, wpO, wpC, wpI, startP, fnEnds, bind_nm, bind_tp, binds_nil, binds_nm, binds_tp, Option.bind_some, false_or, or_false, zipL3, zipL, enmL, cmp_eq_int, cmp_ne_int, cmp_eq_str, cmp_ne_str, cmp_lt, cmp_le, cmp_gt, cmp_ge, cmp_is, cmp_isnot, at_0, at_1, at_2, at_3, at_4, List.map_cons, List.map_nil, List.length_cons, List.length_nil, List.replicate, List.cons_append, List.nil_append, List.getElem?_cons_zero, List.getElem?_cons_succ, List.set_cons_zero, List.set_cons_succ, Option.some.injEq, exists_eq_left, exists_eq_left', exists_eq_right, exists_and_left, true_and, and_true, if_true, if_false, Bool.false_eq_true, reduceCtorEq, if_pos, if_neg, PV.int.injEq, PV.bl.injEq, PV.str.injEq, PV.tup.injEq, PV.lst.injEq, PV.ref.injEq, PV.fn.injEq, Nat.reduceAdd, Nat.reduceSub, Bool.not_true, Bool.not_false, and_self, Nat.add_zero, Nat.zero_add, Nat.sub_self, forall_const, cast_0, cast_1, cast_2, cast_3, cast_4, cast_5, cast_6, cast_7, cast_8, cast_9, Int.reduceLT, Int.reduceLE, Int.reduceNeg, decide_true, decide_false, Int.reduceEq, so_tup, so_lst, lo_lst, tru_non, tru_bl, tru_int, tru_tup, tru_lst, bin_add_int, bin_add_tup, bin_add_lst, bin_sub, bin_mul, bin_fdiv, bin_mod, bin_pow, ord_int, ordI_lt, ordI_le, ordI_gt, ordI_ge, ix_tup, ix_lst, sl_tup, sl_lst, is_non, is_bl, isi_int, isi_bl, isi_str, isi_tup, isi_lst, isi_non, b_len, len_tup, len_lst, b_abs, b_int, b_int_bl, b_max2, b_min2, b_all, b_any, b_sum, b_tuple_lst, b_list_tup, b_repr, now_tup, now_lst, now_int, now_bl, new_f, new_t, walk_tup, walk_lst, zip_2, zip_3, src_tup, src_lst, rev_tup, rev_lst, bind_lst, enm_tup, enm_lst, put_at, ixN_32, ixN_31, ixN_30, w_simples_in k g, ssetS]
  have pl : (sum_ ws c).pl = true := by rw [PV.pl]; exact gPl ws c
  have dp : (sum_ ws c).dep ≤ 40 := by simp [PV.dep, PV.deps, deps_ints]
  have ky : (sum_ ws c).key = some (.tup [.text "sum", .tup (ws.map .num), .num c]) := by simp [PV.key, PV.keys, keys_ints]
  have kd : (NestedKey.tup [.text "sum", .tup (ws.map .num), .num c]).depth ≤ 8 := by simp [NestedKey.depth, NestedKey.depthAll, kdep_nums]
  constructor
  · rintro ⟨y, t, e, x, _, _, _, _, q⟩
    have e' : sum_ ws c = PV.tup (y :: t) := by simpa using e
    rw [← e'] at q
    exact q
  · intro q
    exact ⟨_, _, rfl, _, ky, kd, pl, dp, q⟩
abbrev tri (l : Bool) (v : Int) (w : Bool) : PV := .tup [.bl l, .int v, .bl w]
theorem w_is_sum (k : Nat) (ws : List Int) (c : Int) (M : Sto) (Q : Q1) : callN T (k + 1) "is_sum" [sum_ ws c] M Q ↔ Q (.bl true) M := by
  rw [call_is_sum]
  simp only [b_is_sum, SG.wpSs, SG.wpS, wpE, wpL, wpO, wpC, wpI, startP, fnEnds, bind_nm, bind_tp, binds_nil, binds_nm, binds_tp, Option.bind_some, false_or, or_false, zipL3, zipL, enmL, cmp_eq_int, cmp_ne_int, cmp_eq_str, cmp_ne_str, cmp_lt, cmp_le, cmp_gt, cmp_ge, cmp_is, cmp_isnot, at_0, at_1, at_2, at_3, at_4, List.map_cons, List.map_nil, List.length_cons, List.length_nil, List.replicate, List.cons_append, List.nil_append, List.getElem?_cons_zero, List.getElem?_cons_succ, List.set_cons_zero, List.set_cons_succ, Option.some.injEq, exists_eq_left, exists_eq_left', exists_eq_right, exists_and_left, true_and, and_true, if_true, if_false, Bool.false_eq_true, reduceCtorEq, if_pos, if_neg, PV.int.injEq, PV.bl.injEq, PV.str.injEq, PV.tup.injEq, PV.lst.injEq, PV.ref.injEq, PV.fn.injEq, Nat.reduceAdd, Nat.reduceSub, Bool.not_true, Bool.not_false, and_self, Nat.add_zero, Nat.zero_add, Nat.sub_self, forall_const, cast_0, cast_1, cast_2, cast_3, cast_4, cast_5, cast_6, cast_7, cast_8, cast_9, Int.reduceLT, Int.reduceLE, Int.reduceNeg, decide_true, decide_false, Int.reduceEq, so_tup, so_lst, lo_lst, tru_non, tru_bl, tru_int, tru_tup, tru_lst, bin_add_int, bin_add_tup, bin_add_lst, bin_sub, bin_mul, bin_fdiv, bin_mod, bin_pow, ord_int, ordI_lt, ordI_le, ordI_gt, ordI_ge, ix_tup, ix_lst, sl_tup, sl_lst, is_non, is_bl, isi_int, isi_bl, isi_str, isi_tup, isi_lst, isi_non, b_len, len_tup, len_lst, b_abs, b_int, b_int_bl, b_max2, b_min2, b_all, b_any, b_sum, b_tuple_lst, b_list_tup, b_repr, now_tup, now_lst, now_int, now_bl, new_f, new_t, walk_tup, walk_lst, zip_2, zip_3, src_tup, src_lst, rev_tup, rev_lst, bind_lst, enm_tup, enm_lst, put_at, ixN_32, ixN_31, ixN_30]
def ab (i : Int) : Int := if i < 0 then -i else i
/-- the size of a sum -/
def sz (ws : List Int) (c : Int) : Int := match ws with
  | [] => ab c + 1
  | w :: r => if maxI (ab w) (r.map ab) > ab c + 1 then maxI (ab w) (r.map ab) else ab c + 1
theorem sz_bd {ws : List Int} {c : Int} (g : Good ws c) : 1 ≤ sz ws c ∧ sz ws c ≤ 21 := by
  have hc : ab c + 1 ≤ 21 ∧ 1 ≤ ab c + 1 := by
    have := g.c0
    have := g.c1
    unfold ab
    split <;> omega
  cases ws with
  | nil => exact ⟨hc.2, hc.1⟩
  | cons w r =>
    have hm : maxI (ab w) (r.map ab) ≤ 21 := by
      have ha : ∀ x ∈ w :: r, ab x ≤ 21 := fun x hx => by
        have := g.w x hx
        unfold ab
        split <;> omega
      refine mx_le _ _ (ha w List.mem_cons_self) fun y hy => ?_
      obtain ⟨x, hx, rfl⟩ := List.mem_map.mp hy
      exact ha x (List.mem_cons_of_mem _ hx)
    unfold sz
    dsimp only
    split <;> omega
theorem w_size_of (k : Nat) {ws : List Int} {c : Int} (g : Good ws c) (M : Sto) (Q : Q1) : callN T (k + 2) "size_of" [sum_ ws c] M Q ↔ Q (.int (sz ws c)) M := by
  rw [call_size_of]
  simp only [b_size_of, SG.wpSs, SG.wpS, wpE, wpL, wpO, wpC, wpI, startP, fnEnds, bind_nm, bind_tp, binds_nil, binds_nm, binds_tp, Option.bind_some, false_or, or_false, zipL3, zipL, enmL, cmp_eq_int, cmp_ne_int, cmp_eq_str, cmp_ne_str, cmp_lt, cmp_le, cmp_gt, cmp_ge, cmp_is, cmp_isnot, at_0, at_1, at_2, at_3, at_4, List.map_cons, List.map_nil, List.length_cons, List.length_nil, List.replicate, List.cons_append, List.nil_append, List.getElem?_cons_zero, List.getElem?_cons_succ, List.set_cons_zero, List.set_cons_succ, Option.some.injEq, exists_eq_left, exists_eq_left', exists_eq_right, exists_and_left, true_and, and_true, if_true, if_false, Bool.false_eq_true, reduceCtorEq, if_pos, if_neg, PV.int.injEq, PV.bl.injEq, PV.str.injEq, PV.tup.injEq, PV.lst.injEq, PV.ref.injEq, PV.fn.injEq, Nat.reduceAdd, Nat.reduceSub, Bool.not_true, Bool.not_false, and_self, Nat.add_zero, Nat.zero_add, Nat.sub_self, forall_const, cast_0, cast_1, cast_2, cast_3, cast_4, cast_5, cast_6, cast_7, cast_8, cast_9, Int.reduceLT, Int.reduceLE, Int.reduceNeg, decide_true, decide_false, Int.reduceEq, so_tup, so_lst, lo_lst, tru_non, tru_bl, tru_int, tru_tup, tru_lst, bin_add_int, bin_add_tup, bin_add_lst, bin_sub, bin_mul, bin_fdiv, bin_mod, bin_pow, ord_int, ordI_lt, ordI_le, ordI_gt, ordI_ge, ix_tup, ix_lst, sl_tup, sl_lst, is_non, is_bl, isi_int, isi_bl, isi_str, isi_tup, isi_lst, isi_non, b_len, len_tup, len_lst, b_abs, b_int, b_int_bl, b_max2, b_min2, b_all, b_any, b_sum, b_tuple_lst, b_list_tup, b_repr, now_tup, now_lst, now_int, now_bl, new_f, new_t, walk_tup, walk_lst, zip_2, zip_3, src_tup, src_lst, rev_tup, rev_lst, bind_lst, enm_tup, enm_lst, put_at, ixN_32, ixN_31, ixN_30, w_is_sum, List.length_map]
  rw [compL_map (f := PV.int) (g := fun w => .int (ab w)) ws []]
  · have e4 : ws.length ≤ sizeLine := Nat.le_trans g.l6 (by decide)
    simp only [SG.wpSs, SG.wpS, wpE, wpL, wpO, wpC, wpI, startP, fnEnds, bind_nm, bind_tp, binds_nil, binds_nm, binds_tp, Option.bind_some, false_or, or_false, zipL3, zipL, enmL, cmp_eq_int, cmp_ne_int, cmp_eq_str, cmp_ne_str, cmp_lt, cmp_le, cmp_gt, cmp_ge, cmp_is, cmp_isnot, at_0, at_1, at_2, at_3, at_4, List.map_cons, List.map_nil, List.length_cons, List.length_nil, List.replicate, List.cons_append, List.nil_append, List.getElem?_cons_zero, List.getElem?_cons_succ, List.set_cons_zero, List.set_cons_succ, Option.some.injEq, exists_eq_left, exists_eq_left', exists_eq_right, exists_and_left, true_and, and_true, if_true, if_false, Bool.false_eq_true, reduceCtorEq, if_pos, if_neg, PV.int.injEq, PV.bl.injEq, PV.str.injEq, PV.tup.injEq, PV.lst.injEq, PV.ref.injEq, PV.fn.injEq, Nat.reduceAdd, Nat.reduceSub, Bool.not_true, Bool.not_false, and_self, Nat.add_zero, Nat.zero_add, Nat.sub_self, forall_const, cast_0, cast_1, cast_2, cast_3, cast_4, cast_5, cast_6, cast_7, cast_8, cast_9, Int.reduceLT, Int.reduceLE, Int.reduceNeg, decide_true, decide_false, Int.reduceEq, so_tup, so_lst, lo_lst, tru_non, tru_bl, tru_int, tru_tup, tru_lst, bin_add_int, bin_add_tup, bin_add_lst, bin_sub, bin_mul, bin_fdiv, bin_mod, bin_pow, ord_int, ordI_lt, ordI_le, ordI_gt, ordI_ge, ix_tup, ix_lst, sl_tup, sl_lst, is_non, is_bl, isi_int, isi_bl, isi_str, isi_tup, isi_lst, isi_non, b_len, len_tup, len_lst, b_abs, b_int, b_int_bl, b_max2, b_min2, b_all, b_any, b_sum, b_tuple_lst, b_list_tup, b_repr, now_tup, now_lst, now_int, now_bl, new_f, new_t, walk_tup, walk_lst, zip_2, zip_3, src_tup, src_lst, rev_tup, rev_lst, bind_lst, enm_tup, enm_lst, put_at, ixN_32, ixN_31, ixN_30, e4, b_max1]
    cases ws with
    | nil => exact absurd g.l1 (by simp)
    | cons w r =>
      have e : PV.ints ((w :: r).map fun x => PV.int (ab x)) = some (ab w :: r.map ab) := ints_map ab (w :: r)
      rw [e]
      simp only [SG.wpSs, SG.wpS, wpE, wpL, wpO, wpC, wpI, startP, fnEnds, bind_nm, bind_tp, binds_nil, binds_nm, binds_tp, Option.bind_some, false_or, or_false, zipL3, zipL, enmL, cmp_eq_int, cmp_ne_int, cmp_eq_str, cmp_ne_str, cmp_lt, cmp_le, cmp_gt, cmp_ge, cmp_is, cmp_isnot, at_0, at_1, at_2, at_3, at_4, List.map_cons, List.map_nil, List.length_cons, List.length_nil, List.replicate, List.cons_append, List.nil_append, List.getElem?_cons_zero, List.getElem?_cons_succ, List.set_cons_zero, List.set_cons_succ, Option.some.injEq, exists_eq_left, exists_eq_left', exists_eq_right, exists_and_left, true_and, and_true, if_true, if_false, Bool.false_eq_true, reduceCtorEq, if_pos, if_neg, PV.int.injEq, PV.bl.injEq, PV.str.injEq, PV.tup.injEq, PV.lst.injEq, PV.ref.injEq, PV.fn.injEq, Nat.reduceAdd, Nat.reduceSub, Bool.not_true, Bool.not_false, and_self, Nat.add_zero, Nat.zero_add, Nat.sub_self, forall_const, cast_0, cast_1, cast_2, cast_3, cast_4, cast_5, cast_6, cast_7, cast_8, cast_9, Int.reduceLT, Int.reduceLE, Int.reduceNeg, decide_true, decide_false, Int.reduceEq, so_tup, so_lst, lo_lst, tru_non, tru_bl, tru_int, tru_tup, tru_lst, bin_add_int, bin_add_tup, bin_add_lst, bin_sub, bin_mul, bin_fdiv, bin_mod, bin_pow, ord_int, ordI_lt, ordI_le, ordI_gt, ordI_ge, ix_tup, ix_lst, sl_tup, sl_lst, is_non, is_bl, isi_int, isi_bl, isi_str, isi_tup, isi_lst, isi_non, b_len, len_tup, len_lst, b_abs, b_int, b_int_bl, b_max2, b_min2, b_all, b_any, b_sum, b_tuple_lst, b_list_tup, b_repr, now_tup, now_lst, now_int, now_bl, new_f, new_t, walk_tup, walk_lst, zip_2, zip_3, src_tup, src_lst, rev_tup, rev_lst, bind_lst, enm_tup, enm_lst, put_at, ixN_32, ixN_31, ixN_30, List.cons.injEq]
      constructor
      · rintro ⟨n, ns, ⟨rfl, rfl⟩, q⟩
        exact q
      · intro q
        exact ⟨ab w, r.map ab, ⟨rfl, rfl⟩, q⟩
  · intro w hw' q
    simp only [SG.wpSs, SG.wpS, wpE, wpL, wpO, wpC, wpI, startP, fnEnds, bind_nm, bind_tp, binds_nil, binds_nm, binds_tp, Option.bind_some, false_or, or_false, zipL3, zipL, enmL, cmp_eq_int, cmp_ne_int, cmp_eq_str, cmp_ne_str, cmp_lt, cmp_le, cmp_gt, cmp_ge, cmp_is, cmp_isnot, at_0, at_1, at_2, at_3, at_4, List.map_cons, List.map_nil, List.length_cons, List.length_nil, List.replicate, List.cons_append, List.nil_append, List.getElem?_cons_zero, List.getElem?_cons_succ, List.set_cons_zero, List.set_cons_succ, Option.some.injEq, exists_eq_left, exists_eq_left', exists_eq_right, exists_and_left, true_and, and_true, if_true, if_false, Bool.false_eq_true, reduceCtorEq, if_pos, if_neg, PV.int.injEq, PV.bl.injEq, PV.str.injEq, PV.tup.injEq, PV.lst.injEq, PV.ref.injEq, PV.fn.injEq, Nat.reduceAdd, Nat.reduceSub, Bool.not_true, Bool.not_false, and_self, Nat.add_zero, Nat.zero_add, Nat.sub_self, forall_const, cast_0, cast_1, cast_2, cast_3, cast_4, cast_5, cast_6, cast_7, cast_8, cast_9, Int.reduceLT, Int.reduceLE, Int.reduceNeg, decide_true, decide_false, Int.reduceEq, so_tup, so_lst, lo_lst, tru_non, tru_bl, tru_int, tru_tup, tru_lst, bin_add_int, bin_add_tup, bin_add_lst, bin_sub, bin_mul, bin_fdiv, bin_mod, bin_pow, ord_int, ordI_lt, ordI_le, ordI_gt, ordI_ge, ix_tup, ix_lst, sl_tup, sl_lst, is_non, is_bl, isi_int, isi_bl, isi_str, isi_tup, isi_lst, isi_non, b_len, len_tup, len_lst, b_abs, b_int, b_int_bl, b_max2, b_min2, b_all, b_any, b_sum, b_tuple_lst, b_list_tup, b_repr, now_tup, now_lst, now_int, now_bl, new_f, new_t, walk_tup, walk_lst, zip_2, zip_3, src_tup, src_lst, rev_tup, rev_lst, bind_lst, enm_tup, enm_lst, put_at, ixN_32, ixN_31, ixN_30]
    rfl
end Zk17
namespace Zk17
open PySem SG
/-- cut to a size -/
def clamp (s n : Int) : Int := if n < s then (if n > -s then n else -s) else s
theorem clamp_eq {s n : Int} (h : 1 ≤ s) : (if (if n < s then n else s) > -s then (if n < s then n else s) else -s) = clamp s n := by
  unfold clamp
  split
  · rfl
  · split <;> omega
theorem w_cut_to (k : Nat) {ws : List Int} {c : Int} (g : Good ws c) (n : Int) (M : Sto) (Q : Q1) : callN T (k + 3) "cut_to" [sum_ ws c, .int n] M Q ↔ Q (.int (clamp (sz ws c) n)) M := by
  rw [call_cut_to]
  simp only [b_cut_to, SG.wpSs, SG.wpS, wpE, wpL, wpO, wpC, wpI, startP, fnEnds, bind_nm, bind_tp, binds_nil, binds_nm, binds_tp, Option.bind_some, false_or, or_false, zipL3, zipL, enmL, cmp_eq_int, cmp_ne_int, cmp_eq_str, cmp_ne_str, cmp_lt, cmp_le, cmp_gt, cmp_ge, cmp_is, cmp_isnot, at_0, at_1, at_2, at_3, at_4, List.map_cons, List.map_nil, List.length_cons, List.length_nil, List.replicate, List.cons_append, List.nil_append, List.getElem?_cons_zero, List.getElem?_cons_succ, List.set_cons_zero, List.set_cons_succ, Option.some.injEq, exists_eq_left, exists_eq_left', exists_eq_right, exists_and_left, true_and, and_true, if_true, if_false, Bool.false_eq_true, reduceCtorEq, if_pos, if_neg, PV.int.injEq, PV.bl.injEq, PV.str.injEq, PV.tup.injEq, PV.lst.injEq, PV.ref.injEq, PV.fn.injEq, Nat.reduceAdd, Nat.reduceSub, Bool.not_true, Bool.not_false, and_self, Nat.add_zero, Nat.zero_add, Nat.sub_self, forall_const, cast_0, cast_1, cast_2, cast_3, cast_4, cast_5, cast_6, cast_7, cast_8, cast_9, Int.reduceLT, Int.reduceLE, Int.reduceNeg, decide_true, decide_false, Int.reduceEq, so_tup, so_lst, lo_lst, tru_non, tru_bl, tru_int, tru_tup, tru_lst, bin_add_int, bin_add_tup, bin_add_lst, bin_sub, bin_mul, bin_fdiv, bin_mod, bin_pow, ord_int, ordI_lt, ordI_le, ordI_gt, ordI_ge, ix_tup, ix_lst, sl_tup, sl_lst, is_non, is_bl, isi_int, isi_bl, isi_str, isi_tup, isi_lst, isi_non, b_len, len_tup, len_lst, b_abs, b_int, b_int_bl, b_max2, b_min2, b_all, b_any, b_sum, b_tuple_lst, b_list_tup, b_repr, now_tup, now_lst, now_int, now_bl, new_f, new_t, walk_tup, walk_lst, zip_2, zip_3, src_tup, src_lst, rev_tup, rev_lst, bind_lst, enm_tup, enm_lst, put_at, ixN_32, ixN_31, ixN_30, w_is_sum, w_size_of k g, clamp_eq (sz_bd g).1]
theorem w_says (k : Nat) (ws : List Int) (c n : Int) (M : Sto) (Q : Q1) : callN T (k + 2) "says" [sum_ ws c, .int n] M Q ↔ Q (.bl (decide (c ≤ n))) M := by
  rw [call_says]
  simp only [b_says, SG.wpSs, SG.wpS, wpE, wpL, wpO, wpC, wpI, startP, fnEnds, bind_nm, bind_tp, binds_nil, binds_nm, binds_tp, Option.bind_some, false_or, or_false, zipL3, zipL, enmL, cmp_eq_int, cmp_ne_int, cmp_eq_str, cmp_ne_str, cmp_lt, cmp_le, cmp_gt, cmp_ge, cmp_is, cmp_isnot, at_0, at_1, at_2, at_3, at_4, List.map_cons, List.map_nil, List.length_cons, List.length_nil, List.replicate, List.cons_append, List.nil_append, List.getElem?_cons_zero, List.getElem?_cons_succ, List.set_cons_zero, List.set_cons_succ, Option.some.injEq, exists_eq_left, exists_eq_left', exists_eq_right, exists_and_left, true_and, and_true, if_true, if_false, Bool.false_eq_true, reduceCtorEq, if_pos, if_neg, PV.int.injEq, PV.bl.injEq, PV.str.injEq, PV.tup.injEq, PV.lst.injEq, PV.ref.injEq, PV.fn.injEq, Nat.reduceAdd, Nat.reduceSub, Bool.not_true, Bool.not_false, and_self, Nat.add_zero, Nat.zero_add, Nat.sub_self, forall_const, cast_0, cast_1, cast_2, cast_3, cast_4, cast_5, cast_6, cast_7, cast_8, cast_9, Int.reduceLT, Int.reduceLE, Int.reduceNeg, decide_true, decide_false, Int.reduceEq, so_tup, so_lst, lo_lst, tru_non, tru_bl, tru_int, tru_tup, tru_lst, bin_add_int, bin_add_tup, bin_add_lst, bin_sub, bin_mul, bin_fdiv, bin_mod, bin_pow, ord_int, ordI_lt, ordI_le, ordI_gt, ordI_ge, ix_tup, ix_lst, sl_tup, sl_lst, is_non, is_bl, isi_int, isi_bl, isi_str, isi_tup, isi_lst, isi_non, b_len, len_tup, len_lst, b_abs, b_int, b_int_bl, b_max2, b_min2, b_all, b_any, b_sum, b_tuple_lst, b_list_tup, b_repr, now_tup, now_lst, now_int, now_bl, new_f, new_t, walk_tup, walk_lst, zip_2, zip_3, src_tup, src_lst, rev_tup, rev_lst, bind_lst, enm_tup, enm_lst, put_at, ixN_32, ixN_31, ixN_30, w_is_sum]
theorem w_rest_over (k : Nat) {ws : List Int} {c : Int} (g : Good ws c) (n : Int) (M : Sto) (Q : Q1) : callN T (k + 4) "rest_over" [sum_ ws c, .int n] M Q ↔ Q (.int (n - clamp (sz ws c) n)) M := by
  rw [call_rest_over]
  simp only [b_rest_over, SG.wpSs, SG.wpS, wpE, wpL, wpO, wpC, wpI, startP, fnEnds, bind_nm, bind_tp, binds_nil, binds_nm, binds_tp, Option.bind_some, false_or, or_false, zipL3, zipL, enmL, cmp_eq_int, cmp_ne_int, cmp_eq_str, cmp_ne_str, cmp_lt, cmp_le, cmp_gt, cmp_ge, cmp_is, cmp_isnot, at_0, at_1, at_2, at_3, at_4, List.map_cons, List.map_nil, List.length_cons, List.length_nil, List.replicate, List.cons_append, List.nil_append, List.getElem?_cons_zero, List.getElem?_cons_succ, List.set_cons_zero, List.set_cons_succ, Option.some.injEq, exists_eq_left, exists_eq_left', exists_eq_right, exists_and_left, true_and, and_true, if_true, if_false, Bool.false_eq_true, reduceCtorEq, if_pos, if_neg, PV.int.injEq, PV.bl.injEq, PV.str.injEq, PV.tup.injEq, PV.lst.injEq, PV.ref.injEq, PV.fn.injEq, Nat.reduceAdd, Nat.reduceSub, Bool.not_true, Bool.not_false, and_self, Nat.add_zero, Nat.zero_add, Nat.sub_self, forall_const, cast_0, cast_1, cast_2, cast_3, cast_4, cast_5, cast_6, cast_7, cast_8, cast_9, Int.reduceLT, Int.reduceLE, Int.reduceNeg, decide_true, decide_false, Int.reduceEq, so_tup, so_lst, lo_lst, tru_non, tru_bl, tru_int, tru_tup, tru_lst, bin_add_int, bin_add_tup, bin_add_lst, bin_sub, bin_mul, bin_fdiv, bin_mod, bin_pow, ord_int, ordI_lt, ordI_le, ordI_gt, ordI_ge, ix_tup, ix_lst, sl_tup, sl_lst, is_non, is_bl, isi_int, isi_bl, isi_str, isi_tup, isi_lst, isi_non, b_len, len_tup, len_lst, b_abs, b_int, b_int_bl, b_max2, b_min2, b_all, b_any, b_sum, b_tuple_lst, b_list_tup, b_repr, now_tup, now_lst, now_int, now_bl, new_f, new_t, walk_tup, walk_lst, zip_2, zip_3, src_tup, src_lst, rev_tup, rev_lst, bind_lst, enm_tup, enm_lst, put_at, ixN_32, ixN_31, ixN_30, w_is_sum, w_cut_to k g]
def mm (s c : Int) (l1 l2 : Bool) (v1 v2 : Int) (w1 w2 : Bool) : PV × PV :=
  if l1 = true then (tri true (clamp s (v1 + v2)) (decide (c ≤ clamp s (v1 + v2))), tri false (v1 + v2 - clamp s (v1 + v2)) (decide (c ≤ clamp s (v1 + v2))))
  else if l2 = true then (tri false (v1 + v2 - clamp s (v1 + v2)) (decide (c ≤ clamp s (v1 + v2))), tri true (clamp s (v1 + v2)) (decide (c ≤ clamp s (v1 + v2))))
  else (tri l1 v1 w1, tri l2 v2 w2)
theorem w_members_meet (k : Nat) {ws : List Int} {c : Int} (g : Good ws c) (l1 l2 : Bool) (v1 v2 : Int) (w1 w2 : Bool) (M : Sto) (Q : Q1) : callN T (k + 5) "members_meet" [sum_ ws c, tri l1 v1 w1, tri l2 v2 w2] M Q ↔
    Q (.tup [(mm (sz ws c) c l1 l2 v1 v2 w1 w2).1, (mm (sz ws c) c l1 l2 v1 v2 w1 w2).2]) M := by
  rw [call_members_meet]
  simp only [b_members_meet, SG.wpSs, SG.wpS, wpE, wpL, wpO, wpC, wpI, startP, fnEnds, bind_nm, bind_tp, binds_nil, binds_nm, binds_tp, Option.bind_some, false_or, or_false, zipL3, zipL, enmL, cmp_eq_int, cmp_ne_int, cmp_eq_str, cmp_ne_str, cmp_lt, cmp_le, cmp_gt, cmp_ge, cmp_is, cmp_isnot, at_0, at_1, at_2, at_3, at_4, List.map_cons, List.map_nil, List.length_cons, List.length_nil, List.replicate, List.cons_append, List.nil_append, List.getElem?_cons_zero, List.getElem?_cons_succ, List.set_cons_zero, List.set_cons_succ, Option.some.injEq, exists_eq_left, exists_eq_left', exists_eq_right, exists_and_left, true_and, and_true, if_true, if_false, Bool.false_eq_true, reduceCtorEq, if_pos, if_neg, PV.int.injEq, PV.bl.injEq, PV.str.injEq, PV.tup.injEq, PV.lst.injEq, PV.ref.injEq, PV.fn.injEq, Nat.reduceAdd, Nat.reduceSub, Bool.not_true, Bool.not_false, and_self, Nat.add_zero, Nat.zero_add, Nat.sub_self, forall_const, cast_0, cast_1, cast_2, cast_3, cast_4, cast_5, cast_6, cast_7, cast_8, cast_9, Int.reduceLT, Int.reduceLE, Int.reduceNeg, decide_true, decide_false, Int.reduceEq, so_tup, so_lst, lo_lst, tru_non, tru_bl, tru_int, tru_tup, tru_lst, bin_add_int, bin_add_tup, bin_add_lst, bin_sub, bin_mul, bin_fdiv, bin_mod, bin_pow, ord_int, ordI_lt, ordI_le, ordI_gt, ordI_ge, ix_tup, ix_lst, sl_tup, sl_lst, is_non, is_bl, isi_int, isi_bl, isi_str, isi_tup, isi_lst, isi_non, b_len, len_tup, len_lst, b_abs, b_int, b_int_bl, b_max2, b_min2, b_all, b_any, b_sum, b_tuple_lst, b_list_tup, b_repr, now_tup, now_lst, now_int, now_bl, new_f, new_t, walk_tup, walk_lst, zip_2, zip_3, src_tup, src_lst, rev_tup, rev_lst, bind_lst, enm_tup, enm_lst, put_at, ixN_32, ixN_31, ixN_30, w_cut_to (k + 1) g, w_says, w_rest_over k g]
  cases l1 <;> cases l2 <;> simp [mm]
abbrev mem_ (s : Int) (t : PV) : PV := .tup [.str "member", .int s, .tup [t]]
theorem w_is_note (k : Nat) (s : Int) (t : PV) (M : Sto) (Q : Q1) : callN T (k + 1) "is_note" [mem_ s t] M Q ↔ Q (.bl false) M := by
  rw [call_is_note]
  simp only [b_is_note, SG.wpSs, SG.wpS, wpE, wpL, wpO, wpC, wpI, startP, fnEnds, bind_nm, bind_tp, binds_nil, binds_nm, binds_tp, Option.bind_some, false_or, or_false, zipL3, zipL, enmL, cmp_eq_int, cmp_ne_int, cmp_eq_str, cmp_ne_str, cmp_lt, cmp_le, cmp_gt, cmp_ge, cmp_is, cmp_isnot, at_0, at_1, at_2, at_3, at_4, List.map_cons, List.map_nil, List.length_cons, List.length_nil, List.replicate, List.cons_append, List.nil_append, List.getElem?_cons_zero, List.getElem?_cons_succ, List.set_cons_zero, List.set_cons_succ, Option.some.injEq, exists_eq_left, exists_eq_left', exists_eq_right, exists_and_left, true_and, and_true, if_true, if_false, Bool.false_eq_true, reduceCtorEq, if_pos, if_neg, PV.int.injEq, PV.bl.injEq, PV.str.injEq, PV.tup.injEq, PV.lst.injEq, PV.ref.injEq, PV.fn.injEq, Nat.reduceAdd, Nat.reduceSub, Bool.not_true, Bool.not_false, and_self, Nat.add_zero, Nat.zero_add, Nat.sub_self, forall_const, cast_0, cast_1, cast_2, cast_3, cast_4, cast_5, cast_6, cast_7, cast_8, cast_9, Int.reduceLT, Int.reduceLE, Int.reduceNeg, decide_true, decide_false, Int.reduceEq, so_tup, so_lst, lo_lst, tru_non, tru_bl, tru_int, tru_tup, tru_lst, bin_add_int, bin_add_tup, bin_add_lst, bin_sub, bin_mul, bin_fdiv, bin_mod, bin_pow, ord_int, ordI_lt, ordI_le, ordI_gt, ordI_ge, ix_tup, ix_lst, sl_tup, sl_lst, is_non, is_bl, isi_int, isi_bl, isi_str, isi_tup, isi_lst, isi_non, b_len, len_tup, len_lst, b_abs, b_int, b_int_bl, b_max2, b_min2, b_all, b_any, b_sum, b_tuple_lst, b_list_tup, b_repr, now_tup, now_lst, now_int, now_bl, new_f, new_t, walk_tup, walk_lst, zip_2, zip_3, src_tup, src_lst, rev_tup, rev_lst, bind_lst, enm_tup, enm_lst, put_at, ixN_32, ixN_31, ixN_30, sne2]
theorem w_meet (k : Nat) {ws : List Int} {c : Int} (g : Good ws c) (l1 l2 : Bool) (s1 s2 v1 v2 : Int) (w1 w2 : Bool) (M : Sto) (Q : Q1) : callN T (k + 7) "meet" [sum_ ws c, mem_ s1 (tri l1 v1 w1), mem_ s2 (tri l2 v2 w2)] M Q ↔
    Q (.tup [mem_ s1 (mm (sz ws c) c l1 l2 v1 v2 w1 w2).1, mem_ s2 (mm (sz ws c) c l1 l2 v1 v2 w1 w2).2]) M := by
  rw [call_meet]
  simp only [b_meet, SG.wpSs, SG.wpS, wpE, wpL, wpO, wpC, wpI, startP, fnEnds, bind_nm, bind_tp, binds_nil, binds_nm, binds_tp, Option.bind_some, false_or, or_false, zipL3, zipL, enmL, cmp_eq_int, cmp_ne_int, cmp_eq_str, cmp_ne_str, cmp_lt, cmp_le, cmp_gt, cmp_ge, cmp_is, cmp_isnot, at_0, at_1, at_2, at_3, at_4, List.map_cons, List.map_nil, List.length_cons, List.length_nil, List.replicate, List.cons_append, List.nil_append, List.getElem?_cons_zero, List.getElem?_cons_succ, List.set_cons_zero, List.set_cons_succ, Option.some.injEq, exists_eq_left, exists_eq_left', exists_eq_right, exists_and_left, true_and, and_true, if_true, if_false, Bool.false_eq_true, reduceCtorEq, if_pos, if_neg, PV.int.injEq, PV.bl.injEq, PV.str.injEq, PV.tup.injEq, PV.lst.injEq, PV.ref.injEq, PV.fn.injEq, Nat.reduceAdd, Nat.reduceSub, Bool.not_true, Bool.not_false, and_self, Nat.add_zero, Nat.zero_add, Nat.sub_self, forall_const, cast_0, cast_1, cast_2, cast_3, cast_4, cast_5, cast_6, cast_7, cast_8, cast_9, Int.reduceLT, Int.reduceLE, Int.reduceNeg, decide_true, decide_false, Int.reduceEq, so_tup, so_lst, lo_lst, tru_non, tru_bl, tru_int, tru_tup, tru_lst, bin_add_int, bin_add_tup, bin_add_lst, bin_sub, bin_mul, bin_fdiv, bin_mod, bin_pow, ord_int, ordI_lt, ordI_le, ordI_gt, ordI_ge, ix_tup, ix_lst, sl_tup, sl_lst, is_non, is_bl, isi_int, isi_bl, isi_str, isi_tup, isi_lst, isi_non, b_len, len_tup, len_lst, b_abs, b_int, b_int_bl, b_max2, b_min2, b_all, b_any, b_sum, b_tuple_lst, b_list_tup, b_repr, now_tup, now_lst, now_int, now_bl, new_f, new_t, walk_tup, walk_lst, zip_2, zip_3, src_tup, src_lst, rev_tup, rev_lst, bind_lst, enm_tup, enm_lst, put_at, ixN_32, ixN_31, ixN_30, w_is_note, w_simples k g, compL, w_members_meet (k + 1) g]
  exact ⟨fun h => h.2.2.2, fun h => ⟨by decide, by decide, by decide, h⟩⟩
/-! ### the law's own -/
theorem w_size (k : Nat) {ws : List Int} {c : Int} (g : Good ws c) (M : Sto) (Q : Q1) : callN T (k + 1) "_law_size" [sum_ ws c] M Q ↔ Q (.int (sz ws c)) M := by
  rw [call__law_size]
  simp only [b__law_size, SG.wpSs, SG.wpS, wpE, wpL, wpO, wpC, wpI, startP, fnEnds, bind_nm, bind_tp, binds_nil, binds_nm, binds_tp, Option.bind_some, false_or, or_false, zipL3, zipL, enmL, cmp_eq_int, cmp_ne_int, cmp_eq_str, cmp_ne_str, cmp_lt, cmp_le, cmp_gt, cmp_ge, cmp_is, cmp_isnot, at_0, at_1, at_2, at_3, at_4, List.map_cons, List.map_nil, List.length_cons, List.length_nil, List.replicate, List.cons_append, List.nil_append, List.getElem?_cons_zero, List.getElem?_cons_succ, List.set_cons_zero, List.set_cons_succ, Option.some.injEq, exists_eq_left, exists_eq_left', exists_eq_right, exists_and_left, true_and, and_true, if_true, if_false, Bool.false_eq_true, reduceCtorEq, if_pos, if_neg, PV.int.injEq, PV.bl.injEq, PV.str.injEq, PV.tup.injEq, PV.lst.injEq, PV.ref.injEq, PV.fn.injEq, Nat.reduceAdd, Nat.reduceSub, Bool.not_true, Bool.not_false, and_self, Nat.add_zero, Nat.zero_add, Nat.sub_self, forall_const, cast_0, cast_1, cast_2, cast_3, cast_4, cast_5, cast_6, cast_7, cast_8, cast_9, Int.reduceLT, Int.reduceLE, Int.reduceNeg, decide_true, decide_false, Int.reduceEq, so_tup, so_lst, lo_lst, tru_non, tru_bl, tru_int, tru_tup, tru_lst, bin_add_int, bin_add_tup, bin_add_lst, bin_sub, bin_mul, bin_fdiv, bin_mod, bin_pow, ord_int, ordI_lt, ordI_le, ordI_gt, ordI_ge, ix_tup, ix_lst, sl_tup, sl_lst, is_non, is_bl, isi_int, isi_bl, isi_str, isi_tup, isi_lst, isi_non, b_len, len_tup, len_lst, b_abs, b_int, b_int_bl, b_max2, b_min2, b_all, b_any, b_sum, b_tuple_lst, b_list_tup, b_repr, now_tup, now_lst, now_int, now_bl, new_f, new_t, walk_tup, walk_lst, zip_2, zip_3, src_tup, src_lst, rev_tup, rev_lst, bind_lst, enm_tup, enm_lst, put_at, ixN_32, ixN_31, ixN_30, List.length_map, sne1]
  rw [compL_map (f := PV.int) (g := fun w => .int (ab w)) ws []]
  · have e4 : ws.length ≤ sizeLine := Nat.le_trans g.l6 (by decide)
    have e5 : ws.length + 1 ≤ sizeLine := Nat.le_trans (Nat.succ_le_succ g.l6) (by decide)
    simp only [SG.wpSs, SG.wpS, wpE, wpL, wpO, wpC, wpI, startP, fnEnds, bind_nm, bind_tp, binds_nil, binds_nm, binds_tp, Option.bind_some, false_or, or_false, zipL3, zipL, enmL, cmp_eq_int, cmp_ne_int, cmp_eq_str, cmp_ne_str, cmp_lt, cmp_le, cmp_gt, cmp_ge, cmp_is, cmp_isnot, at_0, at_1, at_2, at_3, at_4, List.map_cons, List.map_nil, List.length_cons, List.length_nil, List.replicate, List.cons_append, List.nil_append, List.getElem?_cons_zero, List.getElem?_cons_succ, List.set_cons_zero, List.set_cons_succ, Option.some.injEq, exists_eq_left, exists_eq_left', exists_eq_right, exists_and_left, true_and, and_true, if_true, if_false, Bool.false_eq_true, reduceCtorEq, if_pos, if_neg, PV.int.injEq, PV.bl.injEq, PV.str.injEq, PV.tup.injEq, PV.lst.injEq, PV.ref.injEq, PV.fn.injEq, Nat.reduceAdd, Nat.reduceSub, Bool.not_true, Bool.not_false, and_self, Nat.add_zero, Nat.zero_add, Nat.sub_self, forall_const, cast_0, cast_1, cast_2, cast_3, cast_4, cast_5, cast_6, cast_7, cast_8, cast_9, Int.reduceLT, Int.reduceLE, Int.reduceNeg, decide_true, decide_false, Int.reduceEq, so_tup, so_lst, lo_lst, tru_non, tru_bl, tru_int, tru_tup, tru_lst, bin_add_int, bin_add_tup, bin_add_lst, bin_sub, bin_mul, bin_fdiv, bin_mod, bin_pow, ord_int, ordI_lt, ordI_le, ordI_gt, ordI_ge, ix_tup, ix_lst, sl_tup, sl_lst, is_non, is_bl, isi_int, isi_bl, isi_str, isi_tup, isi_lst, isi_non, b_len, len_tup, len_lst, b_abs, b_int, b_int_bl, b_max2, b_min2, b_all, b_any, b_sum, b_tuple_lst, b_list_tup, b_repr, now_tup, now_lst, now_int, now_bl, new_f, new_t, walk_tup, walk_lst, zip_2, zip_3, src_tup, src_lst, rev_tup, rev_lst, bind_lst, enm_tup, enm_lst, put_at, ixN_32, ixN_31, ixN_30, e4, e5, b_max1, List.length_map]
    cases ws with
    | nil => exact absurd g.l1 (by simp)
    | cons w r =>
      have e : PV.ints (((w :: r).map fun x => PV.int (ab x)) ++ [PV.int (ab c + 1)]) = some (ab w :: (r.map ab ++ [ab c + 1])) := by
        have q := ints_map id ((w :: r).map ab ++ [ab c + 1])
        simpa [Function.comp_def] using q
      have e' : (if c < 0 then -c else c) = ab c := rfl
      rw [e', e]
      simp only [SG.wpSs, SG.wpS, wpE, wpL, wpO, wpC, wpI, startP, fnEnds, bind_nm, bind_tp, binds_nil, binds_nm, binds_tp, Option.bind_some, false_or, or_false, zipL3, zipL, enmL, cmp_eq_int, cmp_ne_int, cmp_eq_str, cmp_ne_str, cmp_lt, cmp_le, cmp_gt, cmp_ge, cmp_is, cmp_isnot, at_0, at_1, at_2, at_3, at_4, List.map_cons, List.map_nil, List.length_cons, List.length_nil, List.replicate, List.cons_append, List.nil_append, List.getElem?_cons_zero, List.getElem?_cons_succ, List.set_cons_zero, List.set_cons_succ, Option.some.injEq, exists_eq_left, exists_eq_left', exists_eq_right, exists_and_left, true_and, and_true, if_true, if_false, Bool.false_eq_true, reduceCtorEq, if_pos, if_neg, PV.int.injEq, PV.bl.injEq, PV.str.injEq, PV.tup.injEq, PV.lst.injEq, PV.ref.injEq, PV.fn.injEq, Nat.reduceAdd, Nat.reduceSub, Bool.not_true, Bool.not_false, and_self, Nat.add_zero, Nat.zero_add, Nat.sub_self, forall_const, cast_0, cast_1, cast_2, cast_3, cast_4, cast_5, cast_6, cast_7, cast_8, cast_9, Int.reduceLT, Int.reduceLE, Int.reduceNeg, decide_true, decide_false, Int.reduceEq, so_tup, so_lst, lo_lst, tru_non, tru_bl, tru_int, tru_tup, tru_lst, bin_add_int, bin_add_tup, bin_add_lst, bin_sub, bin_mul, bin_fdiv, bin_mod, bin_pow, ord_int, ordI_lt, ordI_le, ordI_gt, ordI_ge, ix_tup, ix_lst, sl_tup, sl_lst, is_non, is_bl, isi_int, isi_bl, isi_str, isi_tup, isi_lst, isi_non, b_len, len_tup, len_lst, b_abs, b_int, b_int_bl, b_max2, b_min2, b_all, b_any, b_sum, b_tuple_lst, b_list_tup, b_repr, now_tup, now_lst, now_int, now_bl, new_f, new_t, walk_tup, walk_lst, zip_2, zip_3, src_tup, src_lst, rev_tup, rev_lst, bind_lst, enm_tup, enm_lst, put_at, ixN_32, ixN_31, ixN_30, List.cons.injEq]
      have ev : maxI (ab w) (r.map ab ++ [ab c + 1]) = sz (w :: r) c := by
        rw [mx_app]
        unfold sz
        dsimp only
        split <;> split <;> omega
      constructor
      · rintro ⟨n, ns, ⟨rfl, rfl⟩, q⟩
        rw [ev] at q
        exact q
      · intro q
        refine ⟨ab w, _, ⟨rfl, rfl⟩, ?_⟩
        rw [ev]
        exact q
  · intro w hw' q
    simp only [SG.wpSs, SG.wpS, wpE, wpL, wpO, wpC, wpI, startP, fnEnds, bind_nm, bind_tp, binds_nil, binds_nm, binds_tp, Option.bind_some, false_or, or_false, zipL3, zipL, enmL, cmp_eq_int, cmp_ne_int, cmp_eq_str, cmp_ne_str, cmp_lt, cmp_le, cmp_gt, cmp_ge, cmp_is, cmp_isnot, at_0, at_1, at_2, at_3, at_4, List.map_cons, List.map_nil, List.length_cons, List.length_nil, List.replicate, List.cons_append, List.nil_append, List.getElem?_cons_zero, List.getElem?_cons_succ, List.set_cons_zero, List.set_cons_succ, Option.some.injEq, exists_eq_left, exists_eq_left', exists_eq_right, exists_and_left, true_and, and_true, if_true, if_false, Bool.false_eq_true, reduceCtorEq, if_pos, if_neg, PV.int.injEq, PV.bl.injEq, PV.str.injEq, PV.tup.injEq, PV.lst.injEq, PV.ref.injEq, PV.fn.injEq, Nat.reduceAdd, Nat.reduceSub, Bool.not_true, Bool.not_false, and_self, Nat.add_zero, Nat.zero_add, Nat.sub_self, forall_const, cast_0, cast_1, cast_2, cast_3, cast_4, cast_5, cast_6, cast_7, cast_8, cast_9, Int.reduceLT, Int.reduceLE, Int.reduceNeg, decide_true, decide_false, Int.reduceEq, so_tup, so_lst, lo_lst, tru_non, tru_bl, tru_int, tru_tup, tru_lst, bin_add_int, bin_add_tup, bin_add_lst, bin_sub, bin_mul, bin_fdiv, bin_mod, bin_pow, ord_int, ordI_lt, ordI_le, ordI_gt, ordI_ge, ix_tup, ix_lst, sl_tup, sl_lst, is_non, is_bl, isi_int, isi_bl, isi_str, isi_tup, isi_lst, isi_non, b_len, len_tup, len_lst, b_abs, b_int, b_int_bl, b_max2, b_min2, b_all, b_any, b_sum, b_tuple_lst, b_list_tup, b_repr, now_tup, now_lst, now_int, now_bl, new_f, new_t, walk_tup, walk_lst, zip_2, zip_3, src_tup, src_lst, rev_tup, rev_lst, bind_lst, enm_tup, enm_lst, put_at, ixN_32, ixN_31, ixN_30]
    rfl
theorem w_lsays (k : Nat) (ws : List Int) (c n : Int) (M : Sto) (Q : Q1) : callN T (k + 1) "_law_says" [sum_ ws c, .int n] M Q ↔ Q (.bl (decide (c ≤ n))) M := by
  rw [call__law_says]
  simp only [b__law_says, SG.wpSs, SG.wpS, wpE, wpL, wpO, wpC, wpI, startP, fnEnds, bind_nm, bind_tp, binds_nil, binds_nm, binds_tp, Option.bind_some, false_or, or_false, zipL3, zipL, enmL, cmp_eq_int, cmp_ne_int, cmp_eq_str, cmp_ne_str, cmp_lt, cmp_le, cmp_gt, cmp_ge, cmp_is, cmp_isnot, at_0, at_1, at_2, at_3, at_4, List.map_cons, List.map_nil, List.length_cons, List.length_nil, List.replicate, List.cons_append, List.nil_append, List.getElem?_cons_zero, List.getElem?_cons_succ, List.set_cons_zero, List.set_cons_succ, Option.some.injEq, exists_eq_left, exists_eq_left', exists_eq_right, exists_and_left, true_and, and_true, if_true, if_false, Bool.false_eq_true, reduceCtorEq, if_pos, if_neg, PV.int.injEq, PV.bl.injEq, PV.str.injEq, PV.tup.injEq, PV.lst.injEq, PV.ref.injEq, PV.fn.injEq, Nat.reduceAdd, Nat.reduceSub, Bool.not_true, Bool.not_false, and_self, Nat.add_zero, Nat.zero_add, Nat.sub_self, forall_const, cast_0, cast_1, cast_2, cast_3, cast_4, cast_5, cast_6, cast_7, cast_8, cast_9, Int.reduceLT, Int.reduceLE, Int.reduceNeg, decide_true, decide_false, Int.reduceEq, so_tup, so_lst, lo_lst, tru_non, tru_bl, tru_int, tru_tup, tru_lst, bin_add_int, bin_add_tup, bin_add_lst, bin_sub, bin_mul, bin_fdiv, bin_mod, bin_pow, ord_int, ordI_lt, ordI_le, ordI_gt, ordI_ge, ix_tup, ix_lst, sl_tup, sl_lst, is_non, is_bl, isi_int, isi_bl, isi_str, isi_tup, isi_lst, isi_non, b_len, len_tup, len_lst, b_abs, b_int, b_int_bl, b_max2, b_min2, b_all, b_any, b_sum, b_tuple_lst, b_list_tup, b_repr, now_tup, now_lst, now_int, now_bl, new_f, new_t, walk_tup, walk_lst, zip_2, zip_3, src_tup, src_lst, rev_tup, rev_lst, bind_lst, enm_tup, enm_lst, put_at, ixN_32, ixN_31, ixN_30, sne1]
theorem w_poured (k : Nat) {ws : List Int} {c : Int} (g : Good ws c) (v1 v2 : Int) (h1 : -sz ws c ≤ v1) (h2 : v1 ≤ sz ws c) {M : Sto} {Q : Q1} (q : Q (.tup [.int (clamp (sz ws c) (v1 + v2)), .int (v1 + v2 - clamp (sz ws c) (v1 + v2))]) M) :
    callN T (k + 2) "_law_poured" [sum_ ws c, .int v1, .int v2] M Q := by
  rw [call__law_poured]
  have hs := sz_bd g
  simp only [b__law_poured, SG.wpSs, SG.wpS, wpE, wpL, wpO, wpC, wpI, startP, fnEnds, bind_nm, bind_tp, binds_nil, binds_nm, binds_tp, Option.bind_some, false_or, or_false, zipL3, zipL, enmL, cmp_eq_int, cmp_ne_int, cmp_eq_str, cmp_ne_str, cmp_lt, cmp_le, cmp_gt, cmp_ge, cmp_is, cmp_isnot, at_0, at_1, at_2, at_3, at_4, List.map_cons, List.map_nil, List.length_cons, List.length_nil, List.replicate, List.cons_append, List.nil_append, List.getElem?_cons_zero, List.getElem?_cons_succ, List.set_cons_zero, List.set_cons_succ, Option.some.injEq, exists_eq_left, exists_eq_left', exists_eq_right, exists_and_left, true_and, and_true, if_true, if_false, Bool.false_eq_true, reduceCtorEq, if_pos, if_neg, PV.int.injEq, PV.bl.injEq, PV.str.injEq, PV.tup.injEq, PV.lst.injEq, PV.ref.injEq, PV.fn.injEq, Nat.reduceAdd, Nat.reduceSub, Bool.not_true, Bool.not_false, and_self, Nat.add_zero, Nat.zero_add, Nat.sub_self, forall_const, cast_0, cast_1, cast_2, cast_3, cast_4, cast_5, cast_6, cast_7, cast_8, cast_9, Int.reduceLT, Int.reduceLE, Int.reduceNeg, decide_true, decide_false, Int.reduceEq, so_tup, so_lst, lo_lst, tru_non, tru_bl, tru_int, tru_tup, tru_lst, bin_add_int, bin_add_tup, bin_add_lst, bin_sub, bin_mul, bin_fdiv, bin_mod, bin_pow, ord_int, ordI_lt, ordI_le, ordI_gt, ordI_ge, ix_tup, ix_lst, sl_tup, sl_lst, is_non, is_bl, isi_int, isi_bl, isi_str, isi_tup, isi_lst, isi_non, b_len, len_tup, len_lst, b_abs, b_int, b_int_bl, b_max2, b_min2, b_all, b_any, b_sum, b_tuple_lst, b_list_tup, b_repr, now_tup, now_lst, now_int, now_bl, new_f, new_t, walk_tup, walk_lst, zip_2, zip_3, src_tup, src_lst, rev_tup, rev_lst, bind_lst, enm_tup, enm_lst, put_at, ixN_32, ixN_31, ixN_30, sne1, w_size k g]
  generalize hS : sz ws c = S at h1 h2 q hs ⊢
  refine while_hoare (fun b : Int × Int => [some (sum_ ws c), some (.int b.1), some (.int b.2), some (.int S)]) (fun b => decide (0 < b.2) && decide (b.1 < S)) (fun b => (b.1 + 1, b.2 - 1)) (fun b => b.1 + b.2 = v1 + v2 ∧ -S ≤ b.1 ∧ b.1 ≤ S ∧ (0 ≤ b.2 ∨ b.2 = v2)) (fun b => b.2.toNat) ?_ ?_ ?_ _ (v1, v2) (Nat.le_refl _) ⟨rfl, h1, h2, .inr rfl⟩
  · rintro ⟨o, t⟩ kk ⟨j1, j2, j3, j4⟩ hc hk
    obtain ⟨c1, c2⟩ := Bool.and_eq_true_iff.mp hc
    simp only [b__law_poured_L4, SG.wpSs, SG.wpS, wpE, wpL, wpO, wpC, wpI, startP, fnEnds, bind_nm, bind_tp, binds_nil, binds_nm, binds_tp, Option.bind_some, false_or, or_false, zipL3, zipL, enmL, cmp_eq_int, cmp_ne_int, cmp_eq_str, cmp_ne_str, cmp_lt, cmp_le, cmp_gt, cmp_ge, cmp_is, cmp_isnot, at_0, at_1, at_2, at_3, at_4, List.map_cons, List.map_nil, List.length_cons, List.length_nil, List.replicate, List.cons_append, List.nil_append, List.getElem?_cons_zero, List.getElem?_cons_succ, List.set_cons_zero, List.set_cons_succ, Option.some.injEq, exists_eq_left, exists_eq_left', exists_eq_right, exists_and_left, true_and, and_true, if_true, if_false, Bool.false_eq_true, reduceCtorEq, if_pos, if_neg, PV.int.injEq, PV.bl.injEq, PV.str.injEq, PV.tup.injEq, PV.lst.injEq, PV.ref.injEq, PV.fn.injEq, Nat.reduceAdd, Nat.reduceSub, Bool.not_true, Bool.not_false, and_self, Nat.add_zero, Nat.zero_add, Nat.sub_self, forall_const, cast_0, cast_1, cast_2, cast_3, cast_4, cast_5, cast_6, cast_7, cast_8, cast_9, Int.reduceLT, Int.reduceLE, Int.reduceNeg, decide_true, decide_false, Int.reduceEq, so_tup, so_lst, lo_lst, tru_non, tru_bl, tru_int, tru_tup, tru_lst, bin_add_int, bin_add_tup, bin_add_lst, bin_sub, bin_mul, bin_fdiv, bin_mod, bin_pow, ord_int, ordI_lt, ordI_le, ordI_gt, ordI_ge, ix_tup, ix_lst, sl_tup, sl_lst, is_non, is_bl, isi_int, isi_bl, isi_str, isi_tup, isi_lst, isi_non, b_len, len_tup, len_lst, b_abs, b_int, b_int_bl, b_max2, b_min2, b_all, b_any, b_sum, b_tuple_lst, b_list_tup, b_repr, now_tup, now_lst, now_int, now_bl, new_f, new_t, walk_tup, walk_lst, zip_2, zip_3, src_tup, src_lst, rev_tup, rev_lst, bind_lst, enm_tup, enm_lst, put_at, ixN_32, ixN_31, ixN_30, c1, c2]
    exact hk
  · rintro ⟨o, t⟩ ⟨j1, j2, j3, j4⟩ hc
    obtain ⟨c1, c2⟩ := Bool.and_eq_true_iff.mp hc
    have c1 := of_decide_eq_true c1
    have c2 := of_decide_eq_true c2
    dsimp only at c1 c2 j1 j2 j3 j4 ⊢
    omega
  · rintro ⟨o, t⟩ kk ⟨j1, j2, j3, j4⟩ hc
    dsimp only at j1 j2 j3 j4 hc
    have second : ∀ turn : Rho → Sto → (Rho → Sto → Prop) → Prop, (∀ (b : Int × Int) (kk : Rho → Sto → Prop), decide (b.2 < 0) = true → decide (-S < b.1) = true → kk [some (sum_ ws c), some (.int (b.1 - 1)), some (.int (b.2 + 1)), some (.int S)] M → turn [some (sum_ ws c), some (.int b.1), some (.int b.2), some (.int S)] M kk) →
        (∀ (b : Int × Int) (kk : Rho → Sto → Prop), (decide (b.2 < 0) = false ∨ (decide (b.2 < 0) = true ∧ decide (-S < b.1) = false)) → Q (.tup [.int b.1, .int b.2]) M → turn [some (sum_ ws c), some (.int b.1), some (.int b.2), some (.int S)] M kk) →
        ∃ n, whileN turn n [some (sum_ ws c), some (.int o), some (.int t), some (.int S)] M := by
      intro turn t1 t2
      have hgt : 0 < t → o = S := fun ht => by
        rcases Bool.and_eq_false_iff.mp hc with z | z
        · have := of_decide_eq_false z; omega
        · have := of_decide_eq_false z; omega
      refine while_hoare (fun b : Int × Int => [some (sum_ ws c), some (.int b.1), some (.int b.2), some (.int S)]) (fun b => decide (b.2 < 0) && decide (-S < b.1)) (fun b => (b.1 - 1, b.2 + 1)) (fun b => b.1 + b.2 = v1 + v2 ∧ -S ≤ b.1 ∧ b.1 ≤ S ∧ (0 < b.2 → b.1 = S)) (fun b => (-b.2).toNat) ?_ ?_ ?_ _ (o, t) (Nat.le_refl _) ⟨j1, j2, j3, hgt⟩
      · rintro ⟨o, t⟩ kk _ hc hk
        obtain ⟨c1, c2⟩ := Bool.and_eq_true_iff.mp hc
        exact t1 (o, t) kk c1 c2 hk
      · rintro ⟨o, t⟩ ⟨j1, j2, j3, j4⟩ hc
        obtain ⟨c1, c2⟩ := Bool.and_eq_true_iff.mp hc
        have c1 := of_decide_eq_true c1
        have c2 := of_decide_eq_true c2
        dsimp only at c1 c2 j1 j2 j3 j4 ⊢
        omega
      · rintro ⟨o, t⟩ kk ⟨j1, j2, j3, j4⟩ hc
        dsimp only at j1 j2 j3 j4 hc
        have e : o = clamp S (v1 + v2) := by
          unfold clamp
          rcases Bool.and_eq_false_iff.mp hc with z | z
          · have := of_decide_eq_false z
            split
            · split <;> omega
            · omega
          · have := of_decide_eq_false z
            split
            · split <;> omega
            · omega
        refine t2 (o, t) kk ?_ ?_
        · cases c1 : decide (t < 0) with
          | false => exact .inl rfl
          | true =>
            refine .inr ⟨rfl, ?_⟩
            rw [c1] at hc
            simpa using hc
        · have e2 : t = v1 + v2 - clamp S (v1 + v2) := by omega
          show Q (.tup [.int o, .int t]) M
          rw [e2, e]
          exact q
    have fin : ∀ kk : Rho → Sto → Prop, True := fun _ => trivial
    cases c1 : decide (0 < t) with
    | false =>
      simp only [SG.wpSs, SG.wpS, wpE, wpL, wpO, wpC, wpI, startP, fnEnds, bind_nm, bind_tp, binds_nil, binds_nm, binds_tp, Option.bind_some, false_or, or_false, zipL3, zipL, enmL, cmp_eq_int, cmp_ne_int, cmp_eq_str, cmp_ne_str, cmp_lt, cmp_le, cmp_gt, cmp_ge, cmp_is, cmp_isnot, at_0, at_1, at_2, at_3, at_4, List.map_cons, List.map_nil, List.length_cons, List.length_nil, List.replicate, List.cons_append, List.nil_append, List.getElem?_cons_zero, List.getElem?_cons_succ, List.set_cons_zero, List.set_cons_succ, Option.some.injEq, exists_eq_left, exists_eq_left', exists_eq_right, exists_and_left, true_and, and_true, if_true, if_false, Bool.false_eq_true, reduceCtorEq, if_pos, if_neg, PV.int.injEq, PV.bl.injEq, PV.str.injEq, PV.tup.injEq, PV.lst.injEq, PV.ref.injEq, PV.fn.injEq, Nat.reduceAdd, Nat.reduceSub, Bool.not_true, Bool.not_false, and_self, Nat.add_zero, Nat.zero_add, Nat.sub_self, forall_const, cast_0, cast_1, cast_2, cast_3, cast_4, cast_5, cast_6, cast_7, cast_8, cast_9, Int.reduceLT, Int.reduceLE, Int.reduceNeg, decide_true, decide_false, Int.reduceEq, so_tup, so_lst, lo_lst, tru_non, tru_bl, tru_int, tru_tup, tru_lst, bin_add_int, bin_add_tup, bin_add_lst, bin_sub, bin_mul, bin_fdiv, bin_mod, bin_pow, ord_int, ordI_lt, ordI_le, ordI_gt, ordI_ge, ix_tup, ix_lst, sl_tup, sl_lst, is_non, is_bl, isi_int, isi_bl, isi_str, isi_tup, isi_lst, isi_non, b_len, len_tup, len_lst, b_abs, b_int, b_int_bl, b_max2, b_min2, b_all, b_any, b_sum, b_tuple_lst, b_list_tup, b_repr, now_tup, now_lst, now_int, now_bl, new_f, new_t, walk_tup, walk_lst, zip_2, zip_3, src_tup, src_lst, rev_tup, rev_lst, bind_lst, enm_tup, enm_lst, put_at, ixN_32, ixN_31, ixN_30, c1]
      refine second _ (fun b kk d1 d2 hk => ?_) (fun b kk d hq => ?_)
      · simp only [b__law_poured_L6, SG.wpSs, SG.wpS, wpE, wpL, wpO, wpC, wpI, startP, fnEnds, bind_nm, bind_tp, binds_nil, binds_nm, binds_tp, Option.bind_some, false_or, or_false, zipL3, zipL, enmL, cmp_eq_int, cmp_ne_int, cmp_eq_str, cmp_ne_str, cmp_lt, cmp_le, cmp_gt, cmp_ge, cmp_is, cmp_isnot, at_0, at_1, at_2, at_3, at_4, List.map_cons, List.map_nil, List.length_cons, List.length_nil, List.replicate, List.cons_append, List.nil_append, List.getElem?_cons_zero, List.getElem?_cons_succ, List.set_cons_zero, List.set_cons_succ, Option.some.injEq, exists_eq_left, exists_eq_left', exists_eq_right, exists_and_left, true_and, and_true, if_true, if_false, Bool.false_eq_true, reduceCtorEq, if_pos, if_neg, PV.int.injEq, PV.bl.injEq, PV.str.injEq, PV.tup.injEq, PV.lst.injEq, PV.ref.injEq, PV.fn.injEq, Nat.reduceAdd, Nat.reduceSub, Bool.not_true, Bool.not_false, and_self, Nat.add_zero, Nat.zero_add, Nat.sub_self, forall_const, cast_0, cast_1, cast_2, cast_3, cast_4, cast_5, cast_6, cast_7, cast_8, cast_9, Int.reduceLT, Int.reduceLE, Int.reduceNeg, decide_true, decide_false, Int.reduceEq, so_tup, so_lst, lo_lst, tru_non, tru_bl, tru_int, tru_tup, tru_lst, bin_add_int, bin_add_tup, bin_add_lst, bin_sub, bin_mul, bin_fdiv, bin_mod, bin_pow, ord_int, ordI_lt, ordI_le, ordI_gt, ordI_ge, ix_tup, ix_lst, sl_tup, sl_lst, is_non, is_bl, isi_int, isi_bl, isi_str, isi_tup, isi_lst, isi_non, b_len, len_tup, len_lst, b_abs, b_int, b_int_bl, b_max2, b_min2, b_all, b_any, b_sum, b_tuple_lst, b_list_tup, b_repr, now_tup, now_lst, now_int, now_bl, new_f, new_t, walk_tup, walk_lst, zip_2, zip_3, src_tup, src_lst, rev_tup, rev_lst, bind_lst, enm_tup, enm_lst, put_at, ixN_32, ixN_31, ixN_30, d1, d2]
        exact hk
      · rcases d with d | ⟨d1, d2⟩
        · simp only [SG.wpSs, SG.wpS, wpE, wpL, wpO, wpC, wpI, startP, fnEnds, bind_nm, bind_tp, binds_nil, binds_nm, binds_tp, Option.bind_some, false_or, or_false, zipL3, zipL, enmL, cmp_eq_int, cmp_ne_int, cmp_eq_str, cmp_ne_str, cmp_lt, cmp_le, cmp_gt, cmp_ge, cmp_is, cmp_isnot, at_0, at_1, at_2, at_3, at_4, List.map_cons, List.map_nil, List.length_cons, List.length_nil, List.replicate, List.cons_append, List.nil_append, List.getElem?_cons_zero, List.getElem?_cons_succ, List.set_cons_zero, List.set_cons_succ, Option.some.injEq, exists_eq_left, exists_eq_left', exists_eq_right, exists_and_left, true_and, and_true, if_true, if_false, Bool.false_eq_true, reduceCtorEq, if_pos, if_neg, PV.int.injEq, PV.bl.injEq, PV.str.injEq, PV.tup.injEq, PV.lst.injEq, PV.ref.injEq, PV.fn.injEq, Nat.reduceAdd, Nat.reduceSub, Bool.not_true, Bool.not_false, and_self, Nat.add_zero, Nat.zero_add, Nat.sub_self, forall_const, cast_0, cast_1, cast_2, cast_3, cast_4, cast_5, cast_6, cast_7, cast_8, cast_9, Int.reduceLT, Int.reduceLE, Int.reduceNeg, decide_true, decide_false, Int.reduceEq, so_tup, so_lst, lo_lst, tru_non, tru_bl, tru_int, tru_tup, tru_lst, bin_add_int, bin_add_tup, bin_add_lst, bin_sub, bin_mul, bin_fdiv, bin_mod, bin_pow, ord_int, ordI_lt, ordI_le, ordI_gt, ordI_ge, ix_tup, ix_lst, sl_tup, sl_lst, is_non, is_bl, isi_int, isi_bl, isi_str, isi_tup, isi_lst, isi_non, b_len, len_tup, len_lst, b_abs, b_int, b_int_bl, b_max2, b_min2, b_all, b_any, b_sum, b_tuple_lst, b_list_tup, b_repr, now_tup, now_lst, now_int, now_bl, new_f, new_t, walk_tup, walk_lst, zip_2, zip_3, src_tup, src_lst, rev_tup, rev_lst, bind_lst, enm_tup, enm_lst, put_at, ixN_32, ixN_31, ixN_30, d]
          exact hq
        · simp only [SG.wpSs, SG.wpS, wpE, wpL, wpO, wpC, wpI, startP, fnEnds, bind_nm, bind_tp, binds_nil, binds_nm, binds_tp, Option.bind_some, false_or, or_false, zipL3, zipL, enmL, cmp_eq_int, cmp_ne_int, cmp_eq_str, cmp_ne_str, cmp_lt, cmp_le, cmp_gt, cmp_ge, cmp_is, cmp_isnot, at_0, at_1, at_2, at_3, at_4, List.map_cons, List.map_nil, List.length_cons, List.length_nil, List.replicate, List.cons_append, List.nil_append, List.getElem?_cons_zero, List.getElem?_cons_succ, List.set_cons_zero, List.set_cons_succ, Option.some.injEq, exists_eq_left, exists_eq_left', exists_eq_right, exists_and_left, true_and, and_true, if_true, if_false, Bool.false_eq_true, reduceCtorEq, if_pos, if_neg, PV.int.injEq, PV.bl.injEq, PV.str.injEq, PV.tup.injEq, PV.lst.injEq, PV.ref.injEq, PV.fn.injEq, Nat.reduceAdd, Nat.reduceSub, Bool.not_true, Bool.not_false, and_self, Nat.add_zero, Nat.zero_add, Nat.sub_self, forall_const, cast_0, cast_1, cast_2, cast_3, cast_4, cast_5, cast_6, cast_7, cast_8, cast_9, Int.reduceLT, Int.reduceLE, Int.reduceNeg, decide_true, decide_false, Int.reduceEq, so_tup, so_lst, lo_lst, tru_non, tru_bl, tru_int, tru_tup, tru_lst, bin_add_int, bin_add_tup, bin_add_lst, bin_sub, bin_mul, bin_fdiv, bin_mod, bin_pow, ord_int, ordI_lt, ordI_le, ordI_gt, ordI_ge, ix_tup, ix_lst, sl_tup, sl_lst, is_non, is_bl, isi_int, isi_bl, isi_str, isi_tup, isi_lst, isi_non, b_len, len_tup, len_lst, b_abs, b_int, b_int_bl, b_max2, b_min2, b_all, b_any, b_sum, b_tuple_lst, b_list_tup, b_repr, now_tup, now_lst, now_int, now_bl, new_f, new_t, walk_tup, walk_lst, zip_2, zip_3, src_tup, src_lst, rev_tup, rev_lst, bind_lst, enm_tup, enm_lst, put_at, ixN_32, ixN_31, ixN_30, d1, d2]
          exact hq
    | true =>
      rw [c1, Bool.true_and] at hc
      simp only [SG.wpSs, SG.wpS, wpE, wpL, wpO, wpC, wpI, startP, fnEnds, bind_nm, bind_tp, binds_nil, binds_nm, binds_tp, Option.bind_some, false_or, or_false, zipL3, zipL, enmL, cmp_eq_int, cmp_ne_int, cmp_eq_str, cmp_ne_str, cmp_lt, cmp_le, cmp_gt, cmp_ge, cmp_is, cmp_isnot, at_0, at_1, at_2, at_3, at_4, List.map_cons, List.map_nil, List.length_cons, List.length_nil, List.replicate, List.cons_append, List.nil_append, List.getElem?_cons_zero, List.getElem?_cons_succ, List.set_cons_zero, List.set_cons_succ, Option.some.injEq, exists_eq_left, exists_eq_left', exists_eq_right, exists_and_left, true_and, and_true, if_true, if_false, Bool.false_eq_true, reduceCtorEq, if_pos, if_neg, PV.int.injEq, PV.bl.injEq, PV.str.injEq, PV.tup.injEq, PV.lst.injEq, PV.ref.injEq, PV.fn.injEq, Nat.reduceAdd, Nat.reduceSub, Bool.not_true, Bool.not_false, and_self, Nat.add_zero, Nat.zero_add, Nat.sub_self, forall_const, cast_0, cast_1, cast_2, cast_3, cast_4, cast_5, cast_6, cast_7, cast_8, cast_9, Int.reduceLT, Int.reduceLE, Int.reduceNeg, decide_true, decide_false, Int.reduceEq, so_tup, so_lst, lo_lst, tru_non, tru_bl, tru_int, tru_tup, tru_lst, bin_add_int, bin_add_tup, bin_add_lst, bin_sub, bin_mul, bin_fdiv, bin_mod, bin_pow, ord_int, ordI_lt, ordI_le, ordI_gt, ordI_ge, ix_tup, ix_lst, sl_tup, sl_lst, is_non, is_bl, isi_int, isi_bl, isi_str, isi_tup, isi_lst, isi_non, b_len, len_tup, len_lst, b_abs, b_int, b_int_bl, b_max2, b_min2, b_all, b_any, b_sum, b_tuple_lst, b_list_tup, b_repr, now_tup, now_lst, now_int, now_bl, new_f, new_t, walk_tup, walk_lst, zip_2, zip_3, src_tup, src_lst, rev_tup, rev_lst, bind_lst, enm_tup, enm_lst, put_at, ixN_32, ixN_31, ixN_30, c1, hc]
      refine second _ (fun b kk d1 d2 hk => ?_) (fun b kk d hq => ?_)
      · simp only [b__law_poured_L6, SG.wpSs, SG.wpS, wpE, wpL, wpO, wpC, wpI, startP, fnEnds, bind_nm, bind_tp, binds_nil, binds_nm, binds_tp, Option.bind_some, false_or, or_false, zipL3, zipL, enmL, cmp_eq_int, cmp_ne_int, cmp_eq_str, cmp_ne_str, cmp_lt, cmp_le, cmp_gt, cmp_ge, cmp_is, cmp_isnot, at_0, at_1, at_2, at_3, at_4, List.map_cons, List.map_nil, List.length_cons, List.length_nil, List.replicate, List.cons_append, List.nil_append, List.getElem?_cons_zero, List.getElem?_cons_succ, List.set_cons_zero, List.set_cons_succ, Option.some.injEq, exists_eq_left, exists_eq_left', exists_eq_right, exists_and_left, true_and, and_true, if_true, if_false, Bool.false_eq_true, reduceCtorEq, if_pos, if_neg, PV.int.injEq, PV.bl.injEq, PV.str.injEq, PV.tup.injEq, PV.lst.injEq, PV.ref.injEq, PV.fn.injEq, Nat.reduceAdd, Nat.reduceSub, Bool.not_true, Bool.not_false, and_self, Nat.add_zero, Nat.zero_add, Nat.sub_self, forall_const, cast_0, cast_1, cast_2, cast_3, cast_4, cast_5, cast_6, cast_7, cast_8, cast_9, Int.reduceLT, Int.reduceLE, Int.reduceNeg, decide_true, decide_false, Int.reduceEq, so_tup, so_lst, lo_lst, tru_non, tru_bl, tru_int, tru_tup, tru_lst, bin_add_int, bin_add_tup, bin_add_lst, bin_sub, bin_mul, bin_fdiv, bin_mod, bin_pow, ord_int, ordI_lt, ordI_le, ordI_gt, ordI_ge, ix_tup, ix_lst, sl_tup, sl_lst, is_non, is_bl, isi_int, isi_bl, isi_str, isi_tup, isi_lst, isi_non, b_len, len_tup, len_lst, b_abs, b_int, b_int_bl, b_max2, b_min2, b_all, b_any, b_sum, b_tuple_lst, b_list_tup, b_repr, now_tup, now_lst, now_int, now_bl, new_f, new_t, walk_tup, walk_lst, zip_2, zip_3, src_tup, src_lst, rev_tup, rev_lst, bind_lst, enm_tup, enm_lst, put_at, ixN_32, ixN_31, ixN_30, d1, d2]
        exact hk
      · rcases d with d | ⟨d1, d2⟩
        · simp only [SG.wpSs, SG.wpS, wpE, wpL, wpO, wpC, wpI, startP, fnEnds, bind_nm, bind_tp, binds_nil, binds_nm, binds_tp, Option.bind_some, false_or, or_false, zipL3, zipL, enmL, cmp_eq_int, cmp_ne_int, cmp_eq_str, cmp_ne_str, cmp_lt, cmp_le, cmp_gt, cmp_ge, cmp_is, cmp_isnot, at_0, at_1, at_2, at_3, at_4, List.map_cons, List.map_nil, List.length_cons, List.length_nil, List.replicate, List.cons_append, List.nil_append, List.getElem?_cons_zero, List.getElem?_cons_succ, List.set_cons_zero, List.set_cons_succ, Option.some.injEq, exists_eq_left, exists_eq_left', exists_eq_right, exists_and_left, true_and, and_true, if_true, if_false, Bool.false_eq_true, reduceCtorEq, if_pos, if_neg, PV.int.injEq, PV.bl.injEq, PV.str.injEq, PV.tup.injEq, PV.lst.injEq, PV.ref.injEq, PV.fn.injEq, Nat.reduceAdd, Nat.reduceSub, Bool.not_true, Bool.not_false, and_self, Nat.add_zero, Nat.zero_add, Nat.sub_self, forall_const, cast_0, cast_1, cast_2, cast_3, cast_4, cast_5, cast_6, cast_7, cast_8, cast_9, Int.reduceLT, Int.reduceLE, Int.reduceNeg, decide_true, decide_false, Int.reduceEq, so_tup, so_lst, lo_lst, tru_non, tru_bl, tru_int, tru_tup, tru_lst, bin_add_int, bin_add_tup, bin_add_lst, bin_sub, bin_mul, bin_fdiv, bin_mod, bin_pow, ord_int, ordI_lt, ordI_le, ordI_gt, ordI_ge, ix_tup, ix_lst, sl_tup, sl_lst, is_non, is_bl, isi_int, isi_bl, isi_str, isi_tup, isi_lst, isi_non, b_len, len_tup, len_lst, b_abs, b_int, b_int_bl, b_max2, b_min2, b_all, b_any, b_sum, b_tuple_lst, b_list_tup, b_repr, now_tup, now_lst, now_int, now_bl, new_f, new_t, walk_tup, walk_lst, zip_2, zip_3, src_tup, src_lst, rev_tup, rev_lst, bind_lst, enm_tup, enm_lst, put_at, ixN_32, ixN_31, ixN_30, d]
          exact hq
        · simp only [SG.wpSs, SG.wpS, wpE, wpL, wpO, wpC, wpI, startP, fnEnds, bind_nm, bind_tp, binds_nil, binds_nm, binds_tp, Option.bind_some, false_or, or_false, zipL3, zipL, enmL, cmp_eq_int, cmp_ne_int, cmp_eq_str, cmp_ne_str, cmp_lt, cmp_le, cmp_gt, cmp_ge, cmp_is, cmp_isnot, at_0, at_1, at_2, at_3, at_4, List.map_cons, List.map_nil, List.length_cons, List.length_nil, List.replicate, List.cons_append, List.nil_append, List.getElem?_cons_zero, List.getElem?_cons_succ, List.set_cons_zero, List.set_cons_succ, Option.some.injEq, exists_eq_left, exists_eq_left', exists_eq_right, exists_and_left, true_and, and_true, if_true, if_false, Bool.false_eq_true, reduceCtorEq, if_pos, if_neg, PV.int.injEq, PV.bl.injEq, PV.str.injEq, PV.tup.injEq, PV.lst.injEq, PV.ref.injEq, PV.fn.injEq, Nat.reduceAdd, Nat.reduceSub, Bool.not_true, Bool.not_false, and_self, Nat.add_zero, Nat.zero_add, Nat.sub_self, forall_const, cast_0, cast_1, cast_2, cast_3, cast_4, cast_5, cast_6, cast_7, cast_8, cast_9, Int.reduceLT, Int.reduceLE, Int.reduceNeg, decide_true, decide_false, Int.reduceEq, so_tup, so_lst, lo_lst, tru_non, tru_bl, tru_int, tru_tup, tru_lst, bin_add_int, bin_add_tup, bin_add_lst, bin_sub, bin_mul, bin_fdiv, bin_mod, bin_pow, ord_int, ordI_lt, ordI_le, ordI_gt, ordI_ge, ix_tup, ix_lst, sl_tup, sl_lst, is_non, is_bl, isi_int, isi_bl, isi_str, isi_tup, isi_lst, isi_non, b_len, len_tup, len_lst, b_abs, b_int, b_int_bl, b_max2, b_min2, b_all, b_any, b_sum, b_tuple_lst, b_list_tup, b_repr, now_tup, now_lst, now_int, now_bl, new_f, new_t, walk_tup, walk_lst, zip_2, zip_3, src_tup, src_lst, rev_tup, rev_lst, bind_lst, enm_tup, enm_lst, put_at, ixN_32, ixN_31, ixN_30, d1, d2]
          exact hq
end Zk17
namespace Zk17
open PySem SG
abbrev hand (a b c : Int) : SO := .lst [.int a, .int b, .int c]
theorem log_lt {n : Int} {k : Nat} (h : n.natAbs < 2 ^ k) (hk : 0 < k) : n.natAbs.log2 < k := by
  by_cases z : n.natAbs = 0
  · rw [z]; simpa using hk
  · exact (Nat.log2_lt z).mpr h
theorem w_take (k : Nat) {h : Addr} {a b c many : Int} {M : Sto} {Q : Q1} (hm : M h = some (hand a b c)) (h1 : 0 < many) (h2 : many < 2 ^ 62) (h3 : 0 ≤ c) (h4 : c < 2 ^ 50)
    (q : ∀ d a' c', 0 ≤ d → d < many → 0 ≤ c' → c' ≤ c + 1 → Q (.int d) (M.put h (hand a' b c'))) : callN T (k + 1) "_law_take" [.ref h, .int many] M Q := by
  rw [call__law_take]
  have n1 : many.natAbs.log2 < 9000 := Nat.lt_trans (log_lt (k := 62) (by omega) (by decide)) (by decide)
  have n2 : (15485863 : Int).natAbs.log2 < 64 := by decide
  have n3 : (32452843 : Int).natAbs.log2 < 64 := by decide
  have n4 : (7919 : Int).natAbs.log2 < 64 := by decide
  have n5 : (c + 1).natAbs.log2 < 64 := log_lt (by omega) (by decide)
  have n6 : (4099 : Int).natAbs.log2 < 9000 := by decide
  have n7 : (1000033 : Int).natAbs.log2 < 9000 := by decide
  have hm2 := put_at M h (hand a b (c + 1))
  simp only [b__law_take, SG.wpSs, SG.wpS, wpE, wpL, wpO, wpC, wpI, startP, fnEnds, bind_nm, bind_tp, binds_nil, binds_nm, binds_tp, Option.bind_some, false_or, or_false, zipL3, zipL, enmL, cmp_eq_int, cmp_ne_int, cmp_eq_str, cmp_ne_str, cmp_lt, cmp_le, cmp_gt, cmp_ge, cmp_is, cmp_isnot, at_0, at_1, at_2, at_3, at_4, List.map_cons, List.map_nil, List.length_cons, List.length_nil, List.replicate, List.cons_append, List.nil_append, List.getElem?_cons_zero, List.getElem?_cons_succ, List.set_cons_zero, List.set_cons_succ, Option.some.injEq, exists_eq_left, exists_eq_left', exists_eq_right, exists_and_left, true_and, and_true, if_true, if_false, Bool.false_eq_true, reduceCtorEq, if_pos, if_neg, PV.int.injEq, PV.bl.injEq, PV.str.injEq, PV.tup.injEq, PV.lst.injEq, PV.ref.injEq, PV.fn.injEq, Nat.reduceAdd, Nat.reduceSub, Bool.not_true, Bool.not_false, and_self, Nat.add_zero, Nat.zero_add, Nat.sub_self, forall_const, cast_0, cast_1, cast_2, cast_3, cast_4, cast_5, cast_6, cast_7, cast_8, cast_9, Int.reduceLT, Int.reduceLE, Int.reduceNeg, decide_true, decide_false, Int.reduceEq, so_tup, so_lst, lo_lst, tru_non, tru_bl, tru_int, tru_tup, tru_lst, bin_add_int, bin_add_tup, bin_add_lst, bin_sub, bin_mul, bin_fdiv, bin_mod, bin_pow, ord_int, ordI_lt, ordI_le, ordI_gt, ordI_ge, ix_tup, ix_lst, sl_tup, sl_lst, is_non, is_bl, isi_int, isi_bl, isi_str, isi_tup, isi_lst, isi_non, b_len, len_tup, len_lst, b_abs, b_int, b_int_bl, b_max2, b_min2, b_all, b_any, b_sum, b_tuple_lst, b_list_tup, b_repr, now_tup, now_lst, now_int, now_bl, new_f, new_t, walk_tup, walk_lst, zip_2, zip_3, src_tup, src_lst, rev_tup, rev_lst, bind_lst, enm_tup, enm_lst, put_at, ixN_32, ixN_31, ixN_30, ix_ref hm, six_ref hm, ix_ref hm2, h1, n1, n2, n3, n4, n5, n6, n7, true_or, or_true]
  by_cases pa : 0 < a
  · simp only [pa, SG.wpSs, SG.wpS, wpE, wpL, wpO, wpC, wpI, startP, fnEnds, bind_nm, bind_tp, binds_nil, binds_nm, binds_tp, Option.bind_some, false_or, or_false, zipL3, zipL, enmL, cmp_eq_int, cmp_ne_int, cmp_eq_str, cmp_ne_str, cmp_lt, cmp_le, cmp_gt, cmp_ge, cmp_is, cmp_isnot, at_0, at_1, at_2, at_3, at_4, List.map_cons, List.map_nil, List.length_cons, List.length_nil, List.replicate, List.cons_append, List.nil_append, List.getElem?_cons_zero, List.getElem?_cons_succ, List.set_cons_zero, List.set_cons_succ, Option.some.injEq, exists_eq_left, exists_eq_left', exists_eq_right, exists_and_left, true_and, and_true, if_true, if_false, Bool.false_eq_true, reduceCtorEq, if_pos, if_neg, PV.int.injEq, PV.bl.injEq, PV.str.injEq, PV.tup.injEq, PV.lst.injEq, PV.ref.injEq, PV.fn.injEq, Nat.reduceAdd, Nat.reduceSub, Bool.not_true, Bool.not_false, and_self, Nat.add_zero, Nat.zero_add, Nat.sub_self, forall_const, cast_0, cast_1, cast_2, cast_3, cast_4, cast_5, cast_6, cast_7, cast_8, cast_9, Int.reduceLT, Int.reduceLE, Int.reduceNeg, decide_true, decide_false, Int.reduceEq, so_tup, so_lst, lo_lst, tru_non, tru_bl, tru_int, tru_tup, tru_lst, bin_add_int, bin_add_tup, bin_add_lst, bin_sub, bin_mul, bin_fdiv, bin_mod, bin_pow, ord_int, ordI_lt, ordI_le, ordI_gt, ordI_ge, ix_tup, ix_lst, sl_tup, sl_lst, is_non, is_bl, isi_int, isi_bl, isi_str, isi_tup, isi_lst, isi_non, b_len, len_tup, len_lst, b_abs, b_int, b_int_bl, b_max2, b_min2, b_all, b_any, b_sum, b_tuple_lst, b_list_tup, b_repr, now_tup, now_lst, now_int, now_bl, new_f, new_t, walk_tup, walk_lst, zip_2, zip_3, src_tup, src_lst, rev_tup, rev_lst, bind_lst, enm_tup, enm_lst, put_at, ixN_32, ixN_31, ixN_30, ixN_30]
    exact q _ _ _ (Int.emod_nonneg _ (by omega)) (Int.emod_lt_of_pos _ h1) h3 (by omega)
  · simp only [pa, SG.wpSs, SG.wpS, wpE, wpL, wpO, wpC, wpI, startP, fnEnds, bind_nm, bind_tp, binds_nil, binds_nm, binds_tp, Option.bind_some, false_or, or_false, zipL3, zipL, enmL, cmp_eq_int, cmp_ne_int, cmp_eq_str, cmp_ne_str, cmp_lt, cmp_le, cmp_gt, cmp_ge, cmp_is, cmp_isnot, at_0, at_1, at_2, at_3, at_4, List.map_cons, List.map_nil, List.length_cons, List.length_nil, List.replicate, List.cons_append, List.nil_append, List.getElem?_cons_zero, List.getElem?_cons_succ, List.set_cons_zero, List.set_cons_succ, Option.some.injEq, exists_eq_left, exists_eq_left', exists_eq_right, exists_and_left, true_and, and_true, if_true, if_false, Bool.false_eq_true, reduceCtorEq, if_pos, if_neg, PV.int.injEq, PV.bl.injEq, PV.str.injEq, PV.tup.injEq, PV.lst.injEq, PV.ref.injEq, PV.fn.injEq, Nat.reduceAdd, Nat.reduceSub, Bool.not_true, Bool.not_false, and_self, Nat.add_zero, Nat.zero_add, Nat.sub_self, forall_const, cast_0, cast_1, cast_2, cast_3, cast_4, cast_5, cast_6, cast_7, cast_8, cast_9, Int.reduceLT, Int.reduceLE, Int.reduceNeg, decide_true, decide_false, Int.reduceEq, so_tup, so_lst, lo_lst, tru_non, tru_bl, tru_int, tru_tup, tru_lst, bin_add_int, bin_add_tup, bin_add_lst, bin_sub, bin_mul, bin_fdiv, bin_mod, bin_pow, ord_int, ordI_lt, ordI_le, ordI_gt, ordI_ge, ix_tup, ix_lst, sl_tup, sl_lst, is_non, is_bl, isi_int, isi_bl, isi_str, isi_tup, isi_lst, isi_non, b_len, len_tup, len_lst, b_abs, b_int, b_int_bl, b_max2, b_min2, b_all, b_any, b_sum, b_tuple_lst, b_list_tup, b_repr, now_tup, now_lst, now_int, now_bl, new_f, new_t, walk_tup, walk_lst, zip_2, zip_3, src_tup, src_lst, rev_tup, rev_lst, bind_lst, enm_tup, enm_lst, put_at, ixN_32, ixN_31, ixN_30, ixN_32]
    have key : ∀ p : Int, 0 < p → p < 2 ^ 62 → (((b + 15485863 * (c + 1) * (c + 1) + 32452843 * (c + 1)) % p).natAbs.log2 < 64) := fun p h5 h6 => by
      have z1 := Int.emod_nonneg (b + 15485863 * (c + 1) * (c + 1) + 32452843 * (c + 1)) (show p ≠ 0 by omega)
      have z2 := Int.emod_lt_of_pos (b + 15485863 * (c + 1) * (c + 1) + 32452843 * (c + 1)) h5
      exact log_lt (by omega) (by decide)
    obtain ⟨x, hx, e⟩ := at_some [PV.int 2305843009213693921, PV.int 999999999989, PV.int 2305843009213693907, PV.int 67280421310721] ((c + 1) % 4) (Int.emod_nonneg _ (by decide)) (Int.emod_lt_of_pos _ (by decide))
    have hp : ∃ p : Int, x = .int p ∧ 0 < p ∧ p < 2 ^ 62 := by
      simp only [List.mem_cons, List.not_mem_nil, or_false] at hx
      rcases hx with rfl | rfl | rfl | rfl <;> exact ⟨_, rfl, by decide, by decide⟩
    obtain ⟨p, rfl, p0, p1⟩ := hp
    refine ⟨_, e, ?_⟩
    simp only [SG.wpSs, SG.wpS, wpE, wpL, wpO, wpC, wpI, startP, fnEnds, bind_nm, bind_tp, binds_nil, binds_nm, binds_tp, Option.bind_some, false_or, or_false, zipL3, zipL, enmL, cmp_eq_int, cmp_ne_int, cmp_eq_str, cmp_ne_str, cmp_lt, cmp_le, cmp_gt, cmp_ge, cmp_is, cmp_isnot, at_0, at_1, at_2, at_3, at_4, List.map_cons, List.map_nil, List.length_cons, List.length_nil, List.replicate, List.cons_append, List.nil_append, List.getElem?_cons_zero, List.getElem?_cons_succ, List.set_cons_zero, List.set_cons_succ, Option.some.injEq, exists_eq_left, exists_eq_left', exists_eq_right, exists_and_left, true_and, and_true, if_true, if_false, Bool.false_eq_true, reduceCtorEq, if_pos, if_neg, PV.int.injEq, PV.bl.injEq, PV.str.injEq, PV.tup.injEq, PV.lst.injEq, PV.ref.injEq, PV.fn.injEq, Nat.reduceAdd, Nat.reduceSub, Bool.not_true, Bool.not_false, and_self, Nat.add_zero, Nat.zero_add, Nat.sub_self, forall_const, cast_0, cast_1, cast_2, cast_3, cast_4, cast_5, cast_6, cast_7, cast_8, cast_9, Int.reduceLT, Int.reduceLE, Int.reduceNeg, decide_true, decide_false, Int.reduceEq, so_tup, so_lst, lo_lst, tru_non, tru_bl, tru_int, tru_tup, tru_lst, bin_add_int, bin_add_tup, bin_add_lst, bin_sub, bin_mul, bin_fdiv, bin_mod, bin_pow, ord_int, ordI_lt, ordI_le, ordI_gt, ordI_ge, ix_tup, ix_lst, sl_tup, sl_lst, is_non, is_bl, isi_int, isi_bl, isi_str, isi_tup, isi_lst, isi_non, b_len, len_tup, len_lst, b_abs, b_int, b_int_bl, b_max2, b_min2, b_all, b_any, b_sum, b_tuple_lst, b_list_tup, b_repr, now_tup, now_lst, now_int, now_bl, new_f, new_t, walk_tup, walk_lst, zip_2, zip_3, src_tup, src_lst, rev_tup, rev_lst, bind_lst, enm_tup, enm_lst, put_at, ixN_32, ixN_31, ixN_30, ix_ref hm2, p0, key p p0 p1, n4, n6, n7, h1, true_or, or_true]
    exact q _ _ _ (Int.emod_nonneg _ (by omega)) (Int.emod_lt_of_pos _ h1) (by omega) (by omega)
/-- the hand at h has given at most n times -/
def Hand (M : Sto) (h : Addr) (n : Int) : Prop := ∃ a b c, M h = some (hand a b c) ∧ 0 ≤ c ∧ c ≤ n
structure Stp (h : Addr) (M M' : Sto) (n : Int) : Prop where
  hd : Hand M' h n
  fr : ∀ t, t ≠ h → M' t = M t
theorem w_takeH (k : Nat) {h : Addr} {n many : Int} {M : Sto} {Q : Q1} (hm : Hand M h n) (h1 : 0 < many) (h2 : many < 2 ^ 62) (h4 : n < 2 ^ 50)
    (q : ∀ d M', 0 ≤ d → d < many → Stp h M M' (n + 1) → Q (.int d) M') : callN T (k + 1) "_law_take" [.ref h, .int many] M Q := by
  obtain ⟨a, b, c, e, c0, cn⟩ := hm
  exact w_take k e h1 h2 c0 (by omega) fun d a' c' d0 d1 z0 z1 => q d _ d0 d1 ⟨⟨a', b, c', put_at _ _ _, z0, by omega⟩, fun t ht => Sto.put_ne ht⟩
theorem Stp.trans {h : Addr} {M M' M'' : Sto} {n n' : Int} (a : Stp h M M' n) (b : Stp h M' M'' n') : Stp h M M'' n' := ⟨b.hd, fun t ht => (b.fr t ht).trans (a.fr t ht)⟩
theorem w_of (k : Nat) {h : Addr} {n : Int} {xs : List PV} {M : Sto} {Q : Q1} (hm : Hand M h n) (h0 : xs ≠ []) (h1 : xs.length < 1000) (h4 : n < 2 ^ 50)
    (q : ∀ x M', x ∈ xs → Stp h M M' (n + 1) → Q x M') : callN T (k + 2) "_law_of" [.ref h, .lst xs] M Q := by
  rw [call__law_of]
  simp only [b__law_of, SG.wpSs, SG.wpS, wpE, wpL, wpO, wpC, wpI, startP, fnEnds, bind_nm, bind_tp, binds_nil, binds_nm, binds_tp, Option.bind_some, false_or, or_false, zipL3, zipL, enmL, cmp_eq_int, cmp_ne_int, cmp_eq_str, cmp_ne_str, cmp_lt, cmp_le, cmp_gt, cmp_ge, cmp_is, cmp_isnot, at_0, at_1, at_2, at_3, at_4, List.map_cons, List.map_nil, List.length_cons, List.length_nil, List.replicate, List.cons_append, List.nil_append, List.getElem?_cons_zero, List.getElem?_cons_succ, List.set_cons_zero, List.set_cons_succ, Option.some.injEq, exists_eq_left, exists_eq_left', exists_eq_right, exists_and_left, true_and, and_true, if_true, if_false, Bool.false_eq_true, reduceCtorEq, if_pos, if_neg, PV.int.injEq, PV.bl.injEq, PV.str.injEq, PV.tup.injEq, PV.lst.injEq, PV.ref.injEq, PV.fn.injEq, Nat.reduceAdd, Nat.reduceSub, Bool.not_true, Bool.not_false, and_self, Nat.add_zero, Nat.zero_add, Nat.sub_self, forall_const, cast_0, cast_1, cast_2, cast_3, cast_4, cast_5, cast_6, cast_7, cast_8, cast_9, Int.reduceLT, Int.reduceLE, Int.reduceNeg, decide_true, decide_false, Int.reduceEq, so_tup, so_lst, lo_lst, tru_non, tru_bl, tru_int, tru_tup, tru_lst, bin_add_int, bin_add_tup, bin_add_lst, bin_sub, bin_mul, bin_fdiv, bin_mod, bin_pow, ord_int, ordI_lt, ordI_le, ordI_gt, ordI_ge, ix_tup, ix_lst, sl_tup, sl_lst, is_non, is_bl, isi_int, isi_bl, isi_str, isi_tup, isi_lst, isi_non, b_len, len_tup, len_lst, b_abs, b_int, b_int_bl, b_max2, b_min2, b_all, b_any, b_sum, b_tuple_lst, b_list_tup, b_repr, now_tup, now_lst, now_int, now_bl, new_f, new_t, walk_tup, walk_lst, zip_2, zip_3, src_tup, src_lst, rev_tup, rev_lst, bind_lst, enm_tup, enm_lst, put_at, ixN_32, ixN_31, ixN_30]
  have hl : 0 < xs.length := by cases xs with | nil => exact absurd rfl h0 | cons _ _ => simp
  refine w_takeH k hm (by omega) (by omega) h4 fun d M' d0 d1 st => ?_
  simp only [SG.wpSs, SG.wpS, wpE, wpL, wpO, wpC, wpI, startP, fnEnds, bind_nm, bind_tp, binds_nil, binds_nm, binds_tp, Option.bind_some, false_or, or_false, zipL3, zipL, enmL, cmp_eq_int, cmp_ne_int, cmp_eq_str, cmp_ne_str, cmp_lt, cmp_le, cmp_gt, cmp_ge, cmp_is, cmp_isnot, at_0, at_1, at_2, at_3, at_4, List.map_cons, List.map_nil, List.length_cons, List.length_nil, List.replicate, List.cons_append, List.nil_append, List.getElem?_cons_zero, List.getElem?_cons_succ, List.set_cons_zero, List.set_cons_succ, Option.some.injEq, exists_eq_left, exists_eq_left', exists_eq_right, exists_and_left, true_and, and_true, if_true, if_false, Bool.false_eq_true, reduceCtorEq, if_pos, if_neg, PV.int.injEq, PV.bl.injEq, PV.str.injEq, PV.tup.injEq, PV.lst.injEq, PV.ref.injEq, PV.fn.injEq, Nat.reduceAdd, Nat.reduceSub, Bool.not_true, Bool.not_false, and_self, Nat.add_zero, Nat.zero_add, Nat.sub_self, forall_const, cast_0, cast_1, cast_2, cast_3, cast_4, cast_5, cast_6, cast_7, cast_8, cast_9, Int.reduceLT, Int.reduceLE, Int.reduceNeg, decide_true, decide_false, Int.reduceEq, so_tup, so_lst, lo_lst, tru_non, tru_bl, tru_int, tru_tup, tru_lst, bin_add_int, bin_add_tup, bin_add_lst, bin_sub, bin_mul, bin_fdiv, bin_mod, bin_pow, ord_int, ordI_lt, ordI_le, ordI_gt, ordI_ge, ix_tup, ix_lst, sl_tup, sl_lst, is_non, is_bl, isi_int, isi_bl, isi_str, isi_tup, isi_lst, isi_non, b_len, len_tup, len_lst, b_abs, b_int, b_int_bl, b_max2, b_min2, b_all, b_any, b_sum, b_tuple_lst, b_list_tup, b_repr, now_tup, now_lst, now_int, now_bl, new_f, new_t, walk_tup, walk_lst, zip_2, zip_3, src_tup, src_lst, rev_tup, rev_lst, bind_lst, enm_tup, enm_lst, put_at, ixN_32, ixN_31, ixN_30]
  obtain ⟨x, hx, e⟩ := at_some xs d d0 d1
  exact ⟨x, e, q x M' hx st⟩
theorem w_hand (k : Nat) (ns : List Int) (idx : Int) (h0 : 0 ≤ idx) {M : Sto} {Q : Q1} (q : ∀ p a b, M p = none → Q (.ref p) (M.put p (hand a b 0))) : callN T (k + 1) "_law_hand" [.lst (ns.map .int), .int idx] M Q := by
  rw [call__law_hand]
  have n1 : (104729 : Int).natAbs.log2 < 64 := by decide
  have n2 : (69621 : Int).natAbs.log2 < 64 := by decide
  have n3 : (2 : Int).natAbs.log2 < 64 := by decide
  have n4 : Int.natAbs 10 < 2 ^ 64 := by decide
  have st := fun (cell : Int) (turn : PV → Rho → Sto → (Rho → Sto → Prop) → Prop) (done : Rho → Sto → Prop) => forL_st (turn := turn) (done := done) (f := PV.int) (M := M) (fun (b : Int × Option PV) => [some (PV.lst (ns.map .int)), some (PV.int idx), some (PV.int cell), some (PV.int b.1), b.2])
    (fun (b : Int × Option PV) (x : Int) => ((b.1 * 69621 + 2 * (if x < 0 then -x else x) + (if decide (x < 0) = true then 1 else 0)) % 2305843009213693951, some (PV.int x))) (cutP ns none (some 60)) (700001 + 104729 * idx, none)
  have go : ∀ (cell : Int) (done : Rho → Sto → Prop), (∀ b : Int × Option PV, done [some (PV.lst (ns.map .int)), some (PV.int idx), some (PV.int cell), some (PV.int b.1), b.2] M) →
      forL (fun x ρ1 M' c => wpSs (callN T k) b__law_hand_L3 (ρ1.set 4 (some x)) M' ⟨c, Q, done, c⟩) (fun _ => True) done ((cutP ns none (some 60)).map PV.int) [some (PV.lst (ns.map .int)), some (PV.int idx), some (PV.int cell), some (PV.int (700001 + 104729 * idx)), none] M := by
    intro cell done hd
    refine (st cell _ _ fun x _ b c => ?_).mpr (hd _)
    simp only [b__law_hand_L3, SG.wpSs, SG.wpS, wpE, wpL, wpO, wpC, wpI, startP, fnEnds, bind_nm, bind_tp, binds_nil, binds_nm, binds_tp, Option.bind_some, false_or, or_false, zipL3, zipL, enmL, cmp_eq_int, cmp_ne_int, cmp_eq_str, cmp_ne_str, cmp_lt, cmp_le, cmp_gt, cmp_ge, cmp_is, cmp_isnot, at_0, at_1, at_2, at_3, at_4, List.map_cons, List.map_nil, List.length_cons, List.length_nil, List.replicate, List.cons_append, List.nil_append, List.getElem?_cons_zero, List.getElem?_cons_succ, List.set_cons_zero, List.set_cons_succ, Option.some.injEq, exists_eq_left, exists_eq_left', exists_eq_right, exists_and_left, true_and, and_true, if_true, if_false, Bool.false_eq_true, reduceCtorEq, if_pos, if_neg, PV.int.injEq, PV.bl.injEq, PV.str.injEq, PV.tup.injEq, PV.lst.injEq, PV.ref.injEq, PV.fn.injEq, Nat.reduceAdd, Nat.reduceSub, Bool.not_true, Bool.not_false, and_self, Nat.add_zero, Nat.zero_add, Nat.sub_self, forall_const, cast_0, cast_1, cast_2, cast_3, cast_4, cast_5, cast_6, cast_7, cast_8, cast_9, Int.reduceLT, Int.reduceLE, Int.reduceNeg, decide_true, decide_false, Int.reduceEq, so_tup, so_lst, lo_lst, tru_non, tru_bl, tru_int, tru_tup, tru_lst, bin_add_int, bin_add_tup, bin_add_lst, bin_sub, bin_mul, bin_fdiv, bin_mod, bin_pow, ord_int, ordI_lt, ordI_le, ordI_gt, ordI_ge, ix_tup, ix_lst, sl_tup, sl_lst, is_non, is_bl, isi_int, isi_bl, isi_str, isi_tup, isi_lst, isi_non, b_len, len_tup, len_lst, b_abs, b_int, b_int_bl, b_max2, b_min2, b_all, b_any, b_sum, b_tuple_lst, b_list_tup, b_repr, now_tup, now_lst, now_int, now_bl, new_f, new_t, walk_tup, walk_lst, zip_2, zip_3, src_tup, src_lst, rev_tup, rev_lst, bind_lst, enm_tup, enm_lst, put_at, ixN_32, ixN_31, ixN_30, n2, n3, true_or, or_true]
  simp only [b__law_hand, SG.wpSs, SG.wpS, wpE, wpL, wpO, wpC, wpI, startP, fnEnds, bind_nm, bind_tp, binds_nil, binds_nm, binds_tp, Option.bind_some, false_or, or_false, zipL3, zipL, enmL, cmp_eq_int, cmp_ne_int, cmp_eq_str, cmp_ne_str, cmp_lt, cmp_le, cmp_gt, cmp_ge, cmp_is, cmp_isnot, at_0, at_1, at_2, at_3, at_4, List.map_cons, List.map_nil, List.length_cons, List.length_nil, List.replicate, List.cons_append, List.nil_append, List.getElem?_cons_zero, List.getElem?_cons_succ, List.set_cons_zero, List.set_cons_succ, Option.some.injEq, exists_eq_left, exists_eq_left', exists_eq_right, exists_and_left, true_and, and_true, if_true, if_false, Bool.false_eq_true, reduceCtorEq, if_pos, if_neg, PV.int.injEq, PV.bl.injEq, PV.str.injEq, PV.tup.injEq, PV.lst.injEq, PV.ref.injEq, PV.fn.injEq, Nat.reduceAdd, Nat.reduceSub, Bool.not_true, Bool.not_false, and_self, Nat.add_zero, Nat.zero_add, Nat.sub_self, forall_const, cast_0, cast_1, cast_2, cast_3, cast_4, cast_5, cast_6, cast_7, cast_8, cast_9, Int.reduceLT, Int.reduceLE, Int.reduceNeg, decide_true, decide_false, Int.reduceEq, so_tup, so_lst, lo_lst, tru_non, tru_bl, tru_int, tru_tup, tru_lst, bin_add_int, bin_add_tup, bin_add_lst, bin_sub, bin_mul, bin_fdiv, bin_mod, bin_pow, ord_int, ordI_lt, ordI_le, ordI_gt, ordI_ge, ix_tup, ix_lst, sl_tup, sl_lst, is_non, is_bl, isi_int, isi_bl, isi_str, isi_tup, isi_lst, isi_non, b_len, len_tup, len_lst, b_abs, b_int, b_int_bl, b_max2, b_min2, b_all, b_any, b_sum, b_tuple_lst, b_list_tup, b_repr, now_tup, now_lst, now_int, now_bl, new_f, new_t, walk_tup, walk_lst, zip_2, zip_3, src_tup, src_lst, rev_tup, rev_lst, bind_lst, enm_tup, enm_lst, put_at, ixN_32, ixN_31, ixN_30, List.length_map, cut_map, n1, true_or]
  have fin : ∀ (cell b : Int), if decide (10 ^ Int.toNat 18 ≤ cell) = true then ∀ (p : Addr), M p = none → Q (PV.ref p) (M.put p (SO.lst [PV.int cell, PV.int b, PV.int 0])) else ∀ (p : Addr), M p = none → Q (PV.ref p) (M.put p (SO.lst [PV.int 0, PV.int b, PV.int 0])) := by
    intro cell b
    split
    · exact fun p hp => q p _ _ hp
    · exact fun p hp => q p _ _ hp
  by_cases c : idx < ns.length
  · obtain ⟨x, hx, e⟩ := at_some (ns.map PV.int) idx h0 (by rw [List.length_map]; exact c)
    obtain ⟨cell, _, rfl⟩ := List.mem_map.mp hx
    rw [if_pos (decide_eq_true c)]
    refine ⟨_, e, go cell _ fun b => ?_⟩
    simp only [SG.wpSs, SG.wpS, wpE, wpL, wpO, wpC, wpI, startP, fnEnds, bind_nm, bind_tp, binds_nil, binds_nm, binds_tp, Option.bind_some, false_or, or_false, zipL3, zipL, enmL, cmp_eq_int, cmp_ne_int, cmp_eq_str, cmp_ne_str, cmp_lt, cmp_le, cmp_gt, cmp_ge, cmp_is, cmp_isnot, at_0, at_1, at_2, at_3, at_4, List.map_cons, List.map_nil, List.length_cons, List.length_nil, List.replicate, List.cons_append, List.nil_append, List.getElem?_cons_zero, List.getElem?_cons_succ, List.set_cons_zero, List.set_cons_succ, Option.some.injEq, exists_eq_left, exists_eq_left', exists_eq_right, exists_and_left, true_and, and_true, if_true, if_false, Bool.false_eq_true, reduceCtorEq, if_pos, if_neg, PV.int.injEq, PV.bl.injEq, PV.str.injEq, PV.tup.injEq, PV.lst.injEq, PV.ref.injEq, PV.fn.injEq, Nat.reduceAdd, Nat.reduceSub, Bool.not_true, Bool.not_false, and_self, Nat.add_zero, Nat.zero_add, Nat.sub_self, forall_const, cast_0, cast_1, cast_2, cast_3, cast_4, cast_5, cast_6, cast_7, cast_8, cast_9, Int.reduceLT, Int.reduceLE, Int.reduceNeg, decide_true, decide_false, Int.reduceEq, so_tup, so_lst, lo_lst, tru_non, tru_bl, tru_int, tru_tup, tru_lst, bin_add_int, bin_add_tup, bin_add_lst, bin_sub, bin_mul, bin_fdiv, bin_mod, bin_pow, ord_int, ordI_lt, ordI_le, ordI_gt, ordI_ge, ix_tup, ix_lst, sl_tup, sl_lst, is_non, is_bl, isi_int, isi_bl, isi_str, isi_tup, isi_lst, isi_non, b_len, len_tup, len_lst, b_abs, b_int, b_int_bl, b_max2, b_min2, b_all, b_any, b_sum, b_tuple_lst, b_list_tup, b_repr, now_tup, now_lst, now_int, now_bl, new_f, new_t, walk_tup, walk_lst, zip_2, zip_3, src_tup, src_lst, rev_tup, rev_lst, bind_lst, enm_tup, enm_lst, put_at, ixN_32, ixN_31, ixN_30, n4]
    exact fin _ _
  · rw [if_neg (by simp [c])]
    refine go 0 _ fun b => ?_
    simp only [SG.wpSs, SG.wpS, wpE, wpL, wpO, wpC, wpI, startP, fnEnds, bind_nm, bind_tp, binds_nil, binds_nm, binds_tp, Option.bind_some, false_or, or_false, zipL3, zipL, enmL, cmp_eq_int, cmp_ne_int, cmp_eq_str, cmp_ne_str, cmp_lt, cmp_le, cmp_gt, cmp_ge, cmp_is, cmp_isnot, at_0, at_1, at_2, at_3, at_4, List.map_cons, List.map_nil, List.length_cons, List.length_nil, List.replicate, List.cons_append, List.nil_append, List.getElem?_cons_zero, List.getElem?_cons_succ, List.set_cons_zero, List.set_cons_succ, Option.some.injEq, exists_eq_left, exists_eq_left', exists_eq_right, exists_and_left, true_and, and_true, if_true, if_false, Bool.false_eq_true, reduceCtorEq, if_pos, if_neg, PV.int.injEq, PV.bl.injEq, PV.str.injEq, PV.tup.injEq, PV.lst.injEq, PV.ref.injEq, PV.fn.injEq, Nat.reduceAdd, Nat.reduceSub, Bool.not_true, Bool.not_false, and_self, Nat.add_zero, Nat.zero_add, Nat.sub_self, forall_const, cast_0, cast_1, cast_2, cast_3, cast_4, cast_5, cast_6, cast_7, cast_8, cast_9, Int.reduceLT, Int.reduceLE, Int.reduceNeg, decide_true, decide_false, Int.reduceEq, so_tup, so_lst, lo_lst, tru_non, tru_bl, tru_int, tru_tup, tru_lst, bin_add_int, bin_add_tup, bin_add_lst, bin_sub, bin_mul, bin_fdiv, bin_mod, bin_pow, ord_int, ordI_lt, ordI_le, ordI_gt, ordI_ge, ix_tup, ix_lst, sl_tup, sl_lst, is_non, is_bl, isi_int, isi_bl, isi_str, isi_tup, isi_lst, isi_non, b_len, len_tup, len_lst, b_abs, b_int, b_int_bl, b_max2, b_min2, b_all, b_any, b_sum, b_tuple_lst, b_list_tup, b_repr, now_tup, now_lst, now_int, now_bl, new_f, new_t, walk_tup, walk_lst, zip_2, zip_3, src_tup, src_lst, rev_tup, rev_lst, bind_lst, enm_tup, enm_lst, put_at, ixN_32, ixN_31, ixN_30, n4]
    exact fin _ _
theorem Hand.up {M : Sto} {h : Addr} {n n' : Int} (x : Hand M h n) (e : n ≤ n') : Hand M h n' := by
  obtain ⟨a, b, c, e1, e2, e3⟩ := x
  exact ⟨a, b, c, e1, e2, by omega⟩
theorem at_m1_3 {α : Type} (x y z : α) : L2.atI [x, y, z] (-1) = some z := rfl
theorem w_worth (k : Nat) {h : Addr} {n : Int} {M : Sto} {Q : Q1} (hm : Hand M h n) (h4 : n < 2 ^ 49) (q : ∀ w M', -9 ≤ w → w ≤ 9 → Stp h M M' (n + 2) → Q (.int w) M') : callN T (k + 3) "_law_worth" [.ref h] M Q := by
  rw [call__law_worth]
  simp only [b__law_worth, SG.wpSs, SG.wpS, wpE, wpL, wpO, wpC, wpI, startP, fnEnds, bind_nm, bind_tp, binds_nil, binds_nm, binds_tp, Option.bind_some, false_or, or_false, zipL3, zipL, enmL, cmp_eq_int, cmp_ne_int, cmp_eq_str, cmp_ne_str, cmp_lt, cmp_le, cmp_gt, cmp_ge, cmp_is, cmp_isnot, at_0, at_1, at_2, at_3, at_4, List.map_cons, List.map_nil, List.length_cons, List.length_nil, List.replicate, List.cons_append, List.nil_append, List.getElem?_cons_zero, List.getElem?_cons_succ, List.set_cons_zero, List.set_cons_succ, Option.some.injEq, exists_eq_left, exists_eq_left', exists_eq_right, exists_and_left, true_and, and_true, if_true, if_false, Bool.false_eq_true, reduceCtorEq, if_pos, if_neg, PV.int.injEq, PV.bl.injEq, PV.str.injEq, PV.tup.injEq, PV.lst.injEq, PV.ref.injEq, PV.fn.injEq, Nat.reduceAdd, Nat.reduceSub, Bool.not_true, Bool.not_false, and_self, Nat.add_zero, Nat.zero_add, Nat.sub_self, forall_const, cast_0, cast_1, cast_2, cast_3, cast_4, cast_5, cast_6, cast_7, cast_8, cast_9, Int.reduceLT, Int.reduceLE, Int.reduceNeg, decide_true, decide_false, Int.reduceEq, so_tup, so_lst, lo_lst, tru_non, tru_bl, tru_int, tru_tup, tru_lst, bin_add_int, bin_add_tup, bin_add_lst, bin_sub, bin_mul, bin_fdiv, bin_mod, bin_pow, ord_int, ordI_lt, ordI_le, ordI_gt, ordI_ge, ix_tup, ix_lst, sl_tup, sl_lst, is_non, is_bl, isi_int, isi_bl, isi_str, isi_tup, isi_lst, isi_non, b_len, len_tup, len_lst, b_abs, b_int, b_int_bl, b_max2, b_min2, b_all, b_any, b_sum, b_tuple_lst, b_list_tup, b_repr, now_tup, now_lst, now_int, now_bl, new_f, new_t, walk_tup, walk_lst, zip_2, zip_3, src_tup, src_lst, rev_tup, rev_lst, bind_lst, enm_tup, enm_lst, put_at, ixN_32, ixN_31, ixN_30]
  refine w_takeH (k + 1) hm (by decide) (by decide) (by omega) fun d M1 d0 d1 s1 => ?_
  simp only [SG.wpSs, SG.wpS, wpE, wpL, wpO, wpC, wpI, startP, fnEnds, bind_nm, bind_tp, binds_nil, binds_nm, binds_tp, Option.bind_some, false_or, or_false, zipL3, zipL, enmL, cmp_eq_int, cmp_ne_int, cmp_eq_str, cmp_ne_str, cmp_lt, cmp_le, cmp_gt, cmp_ge, cmp_is, cmp_isnot, at_0, at_1, at_2, at_3, at_4, List.map_cons, List.map_nil, List.length_cons, List.length_nil, List.replicate, List.cons_append, List.nil_append, List.getElem?_cons_zero, List.getElem?_cons_succ, List.set_cons_zero, List.set_cons_succ, Option.some.injEq, exists_eq_left, exists_eq_left', exists_eq_right, exists_and_left, true_and, and_true, if_true, if_false, Bool.false_eq_true, reduceCtorEq, if_pos, if_neg, PV.int.injEq, PV.bl.injEq, PV.str.injEq, PV.tup.injEq, PV.lst.injEq, PV.ref.injEq, PV.fn.injEq, Nat.reduceAdd, Nat.reduceSub, Bool.not_true, Bool.not_false, and_self, Nat.add_zero, Nat.zero_add, Nat.sub_self, forall_const, cast_0, cast_1, cast_2, cast_3, cast_4, cast_5, cast_6, cast_7, cast_8, cast_9, Int.reduceLT, Int.reduceLE, Int.reduceNeg, decide_true, decide_false, Int.reduceEq, so_tup, so_lst, lo_lst, tru_non, tru_bl, tru_int, tru_tup, tru_lst, bin_add_int, bin_add_tup, bin_add_lst, bin_sub, bin_mul, bin_fdiv, bin_mod, bin_pow, ord_int, ordI_lt, ordI_le, ordI_gt, ordI_ge, ix_tup, ix_lst, sl_tup, sl_lst, is_non, is_bl, isi_int, isi_bl, isi_str, isi_tup, isi_lst, isi_non, b_len, len_tup, len_lst, b_abs, b_int, b_int_bl, b_max2, b_min2, b_all, b_any, b_sum, b_tuple_lst, b_list_tup, b_repr, now_tup, now_lst, now_int, now_bl, new_f, new_t, walk_tup, walk_lst, zip_2, zip_3, src_tup, src_lst, rev_tup, rev_lst, bind_lst, enm_tup, enm_lst, put_at, ixN_32, ixN_31, ixN_30]
  refine w_of k s1.hd (by simp) (by simp) (by omega) fun y M2 hy s2 => ?_
  have hy' : ∃ w : Int, y = .int w ∧ -9 ≤ w ∧ w ≤ 9 := by
    simp only [List.mem_cons, List.not_mem_nil, or_false] at hy
    rcases hy with rfl | rfl | rfl | rfl | rfl | rfl | rfl | rfl <;> exact ⟨_, rfl, by omega, by omega⟩
  obtain ⟨w, rfl, w0, w1⟩ := hy'
  have s3 := s1.trans s2
  exact q w M2 w0 w1 ⟨s3.hd.up (by omega), s3.fr⟩
theorem w_sum (k : Nat) {h : Addr} {n sorts : Int} {M : Sto} {Q : Q1} (hm : Hand M h n) (h1 : 1 ≤ sorts) (h6 : sorts ≤ 6) (h4 : n < 1000)
    (q : ∀ ws c M', Good ws c → Stp h M M' (n + 20) → Q (sum_ ws c) M') : callN T (k + 4) "_law_sum" [.ref h, .int sorts] M Q := by
  rw [call__law_sum]
  simp only [b__law_sum, SG.wpSs, SG.wpS, wpE, wpL, wpO, wpC, wpI, startP, fnEnds, bind_nm, bind_tp, binds_nil, binds_nm, binds_tp, Option.bind_some, false_or, or_false, zipL3, zipL, enmL, cmp_eq_int, cmp_ne_int, cmp_eq_str, cmp_ne_str, cmp_lt, cmp_le, cmp_gt, cmp_ge, cmp_is, cmp_isnot, at_0, at_1, at_2, at_3, at_4, List.map_cons, List.map_nil, List.length_cons, List.length_nil, List.replicate, List.cons_append, List.nil_append, List.getElem?_cons_zero, List.getElem?_cons_succ, List.set_cons_zero, List.set_cons_succ, Option.some.injEq, exists_eq_left, exists_eq_left', exists_eq_right, exists_and_left, true_and, and_true, if_true, if_false, Bool.false_eq_true, reduceCtorEq, if_pos, if_neg, PV.int.injEq, PV.bl.injEq, PV.str.injEq, PV.tup.injEq, PV.lst.injEq, PV.ref.injEq, PV.fn.injEq, Nat.reduceAdd, Nat.reduceSub, Bool.not_true, Bool.not_false, and_self, Nat.add_zero, Nat.zero_add, Nat.sub_self, forall_const, cast_0, cast_1, cast_2, cast_3, cast_4, cast_5, cast_6, cast_7, cast_8, cast_9, Int.reduceLT, Int.reduceLE, Int.reduceNeg, decide_true, decide_false, Int.reduceEq, so_tup, so_lst, lo_lst, tru_non, tru_bl, tru_int, tru_tup, tru_lst, bin_add_int, bin_add_tup, bin_add_lst, bin_sub, bin_mul, bin_fdiv, bin_mod, bin_pow, ord_int, ordI_lt, ordI_le, ordI_gt, ordI_ge, ix_tup, ix_lst, sl_tup, sl_lst, is_non, is_bl, isi_int, isi_bl, isi_str, isi_tup, isi_lst, isi_non, b_len, len_tup, len_lst, b_abs, b_int, b_int_bl, b_max2, b_min2, b_all, b_any, b_sum, b_tuple_lst, b_list_tup, b_repr, now_tup, now_lst, now_int, now_bl, new_f, new_t, walk_tup, walk_lst, zip_2, zip_3, src_tup, src_lst, rev_tup, rev_lst, bind_lst, enm_tup, enm_lst, put_at, ixN_32, ixN_31, ixN_30, rng_len]
  refine ⟨by omega, by omega, Nat.le_trans (show sorts.toNat ≤ 6 by omega) (by decide), ?_⟩
  refine compL_cps (fun i acc M' => ∃ ws : List Int, acc = ws.map .int ∧ ws.length = i ∧ i ≤ 6 ∧ (∀ w ∈ ws, -9 ≤ w ∧ w ≤ 9) ∧ Stp h M M' (n + 2 * i)) _ [] 0 M ⟨[], rfl, rfl, by decide, fun w hw => (by cases hw), ⟨by simpa using hm, fun _ _ => rfl⟩⟩ ?_ (fun _ _ _ _ => trivial) ?_
  · rintro i x acc M2 c hx ⟨ws, rfl, hl, hi, hw, st⟩ hc
    obtain ⟨rfl, hlt⟩ := rng0_get hx
    simp only [SG.wpSs, SG.wpS, wpE, wpL, wpO, wpC, wpI, startP, fnEnds, bind_nm, bind_tp, binds_nil, binds_nm, binds_tp, Option.bind_some, false_or, or_false, zipL3, zipL, enmL, cmp_eq_int, cmp_ne_int, cmp_eq_str, cmp_ne_str, cmp_lt, cmp_le, cmp_gt, cmp_ge, cmp_is, cmp_isnot, at_0, at_1, at_2, at_3, at_4, List.map_cons, List.map_nil, List.length_cons, List.length_nil, List.replicate, List.cons_append, List.nil_append, List.getElem?_cons_zero, List.getElem?_cons_succ, List.set_cons_zero, List.set_cons_succ, Option.some.injEq, exists_eq_left, exists_eq_left', exists_eq_right, exists_and_left, true_and, and_true, if_true, if_false, Bool.false_eq_true, reduceCtorEq, if_pos, if_neg, PV.int.injEq, PV.bl.injEq, PV.str.injEq, PV.tup.injEq, PV.lst.injEq, PV.ref.injEq, PV.fn.injEq, Nat.reduceAdd, Nat.reduceSub, Bool.not_true, Bool.not_false, and_self, Nat.add_zero, Nat.zero_add, Nat.sub_self, forall_const, cast_0, cast_1, cast_2, cast_3, cast_4, cast_5, cast_6, cast_7, cast_8, cast_9, Int.reduceLT, Int.reduceLE, Int.reduceNeg, decide_true, decide_false, Int.reduceEq, so_tup, so_lst, lo_lst, tru_non, tru_bl, tru_int, tru_tup, tru_lst, bin_add_int, bin_add_tup, bin_add_lst, bin_sub, bin_mul, bin_fdiv, bin_mod, bin_pow, ord_int, ordI_lt, ordI_le, ordI_gt, ordI_ge, ix_tup, ix_lst, sl_tup, sl_lst, is_non, is_bl, isi_int, isi_bl, isi_str, isi_tup, isi_lst, isi_non, b_len, len_tup, len_lst, b_abs, b_int, b_int_bl, b_max2, b_min2, b_all, b_any, b_sum, b_tuple_lst, b_list_tup, b_repr, now_tup, now_lst, now_int, now_bl, new_f, new_t, walk_tup, walk_lst, zip_2, zip_3, src_tup, src_lst, rev_tup, rev_lst, bind_lst, enm_tup, enm_lst, put_at, ixN_32, ixN_31, ixN_30] at hl hi hw st hc ⊢
    refine w_worth k st.hd (by omega) fun w M3 w0 w1 s3 => ?_
    refine hc (some (.int w)) M3 ⟨ws ++ [w], by simp, by simp [hl], by omega, fun v hv => ?_, ?_⟩
    · rcases List.mem_append.mp hv with q | q
      · exact hw v q
      · rw [List.mem_singleton.mp q]; exact ⟨w0, w1⟩
    · have s5 := st.trans s3
      exact ⟨s5.hd.up (by omega), s5.fr⟩
  · rintro acc M2 ⟨ws, rfl, hl, hi, hw, st⟩
    simp only [SG.wpSs, SG.wpS, wpE, wpL, wpO, wpC, wpI, startP, fnEnds, bind_nm, bind_tp, binds_nil, binds_nm, binds_tp, Option.bind_some, false_or, or_false, zipL3, zipL, enmL, cmp_eq_int, cmp_ne_int, cmp_eq_str, cmp_ne_str, cmp_lt, cmp_le, cmp_gt, cmp_ge, cmp_is, cmp_isnot, at_0, at_1, at_2, at_3, at_4, List.map_cons, List.map_nil, List.length_cons, List.length_nil, List.replicate, List.cons_append, List.nil_append, List.getElem?_cons_zero, List.getElem?_cons_succ, List.set_cons_zero, List.set_cons_succ, Option.some.injEq, exists_eq_left, exists_eq_left', exists_eq_right, exists_and_left, true_and, and_true, if_true, if_false, Bool.false_eq_true, reduceCtorEq, if_pos, if_neg, PV.int.injEq, PV.bl.injEq, PV.str.injEq, PV.tup.injEq, PV.lst.injEq, PV.ref.injEq, PV.fn.injEq, Nat.reduceAdd, Nat.reduceSub, Bool.not_true, Bool.not_false, and_self, Nat.add_zero, Nat.zero_add, Nat.sub_self, forall_const, cast_0, cast_1, cast_2, cast_3, cast_4, cast_5, cast_6, cast_7, cast_8, cast_9, Int.reduceLT, Int.reduceLE, Int.reduceNeg, decide_true, decide_false, Int.reduceEq, so_tup, so_lst, lo_lst, tru_non, tru_bl, tru_int, tru_tup, tru_lst, bin_add_int, bin_add_tup, bin_add_lst, bin_sub, bin_mul, bin_fdiv, bin_mod, bin_pow, ord_int, ordI_lt, ordI_le, ordI_gt, ordI_ge, ix_tup, ix_lst, sl_tup, sl_lst, is_non, is_bl, isi_int, isi_bl, isi_str, isi_tup, isi_lst, isi_non, b_len, len_tup, len_lst, b_abs, b_int, b_int_bl, b_max2, b_min2, b_all, b_any, b_sum, b_tuple_lst, b_list_tup, b_repr, now_tup, now_lst, now_int, now_bl, new_f, new_t, walk_tup, walk_lst, zip_2, zip_3, src_tup, src_lst, rev_tup, rev_lst, bind_lst, enm_tup, enm_lst, put_at, ixN_32, ixN_31, ixN_30, rng_len] at hl hi st ⊢
    refine w_takeH (k + 2) st.hd (by decide) (by decide) (by omega) fun d M3 d0 d1 s3 => ?_
    simp only [SG.wpSs, SG.wpS, wpE, wpL, wpO, wpC, wpI, startP, fnEnds, bind_nm, bind_tp, binds_nil, binds_nm, binds_tp, Option.bind_some, false_or, or_false, zipL3, zipL, enmL, cmp_eq_int, cmp_ne_int, cmp_eq_str, cmp_ne_str, cmp_lt, cmp_le, cmp_gt, cmp_ge, cmp_is, cmp_isnot, at_0, at_1, at_2, at_3, at_4, List.map_cons, List.map_nil, List.length_cons, List.length_nil, List.replicate, List.cons_append, List.nil_append, List.getElem?_cons_zero, List.getElem?_cons_succ, List.set_cons_zero, List.set_cons_succ, Option.some.injEq, exists_eq_left, exists_eq_left', exists_eq_right, exists_and_left, true_and, and_true, if_true, if_false, Bool.false_eq_true, reduceCtorEq, if_pos, if_neg, PV.int.injEq, PV.bl.injEq, PV.str.injEq, PV.tup.injEq, PV.lst.injEq, PV.ref.injEq, PV.fn.injEq, Nat.reduceAdd, Nat.reduceSub, Bool.not_true, Bool.not_false, and_self, Nat.add_zero, Nat.zero_add, Nat.sub_self, forall_const, cast_0, cast_1, cast_2, cast_3, cast_4, cast_5, cast_6, cast_7, cast_8, cast_9, Int.reduceLT, Int.reduceLE, Int.reduceNeg, decide_true, decide_false, Int.reduceEq, so_tup, so_lst, lo_lst, tru_non, tru_bl, tru_int, tru_tup, tru_lst, bin_add_int, bin_add_tup, bin_add_lst, bin_sub, bin_mul, bin_fdiv, bin_mod, bin_pow, ord_int, ordI_lt, ordI_le, ordI_gt, ordI_ge, ix_tup, ix_lst, sl_tup, sl_lst, is_non, is_bl, isi_int, isi_bl, isi_str, isi_tup, isi_lst, isi_non, b_len, len_tup, len_lst, b_abs, b_int, b_int_bl, b_max2, b_min2, b_all, b_any, b_sum, b_tuple_lst, b_list_tup, b_repr, now_tup, now_lst, now_int, now_bl, new_f, new_t, walk_tup, walk_lst, zip_2, zip_3, src_tup, src_lst, rev_tup, rev_lst, bind_lst, enm_tup, enm_lst, put_at, ixN_32, ixN_31, ixN_30]
    refine w_of (k + 1) s3.hd (by simp) (by simp) (by omega) fun y M4 hy s4 => ?_
    have hy' : ∃ w : Int, y = .int w ∧ -20 ≤ w ∧ w ≤ 20 := by
      simp only [List.mem_cons, List.not_mem_nil, or_false] at hy
      rcases hy with rfl | rfl | rfl | rfl | rfl | rfl | rfl | rfl | rfl <;> exact ⟨_, rfl, by omega, by omega⟩
    obtain ⟨w, rfl, w0, w1⟩ := hy'
    have s5 := (st.trans s3).trans s4
    exact q ws w M4 ⟨by omega, by omega, hw, w0, w1⟩ ⟨s5.hd.up (by omega), s5.fr⟩
theorem w_pair (k : Nat) {ws : List Int} {c : Int} (g : Good ws c) (l1 l2 : Bool) (v1 v2 : Int) (w1 w2 : Bool) (a0 : -sz ws c ≤ v1) (a1 : v1 ≤ sz ws c) (b0 : -sz ws c ≤ v2) (b1 : v2 ≤ sz ws c) {M : Sto} {Q : Q1}
    (q : Q (.tup [(mm (sz ws c) c l1 l2 v1 v2 w1 w2).1, (mm (sz ws c) c l1 l2 v1 v2 w1 w2).2]) M) : callN T (k + 3) "_law_pair" [sum_ ws c, tri l1 v1 w1, tri l2 v2 w2] M Q := by
  rw [call__law_pair]
  cases l1 <;> cases l2 <;> simp only [b__law_pair, SG.wpSs, SG.wpS, wpE, wpL, wpO, wpC, wpI, startP, fnEnds, bind_nm, bind_tp, binds_nil, binds_nm, binds_tp, Option.bind_some, false_or, or_false, zipL3, zipL, enmL, cmp_eq_int, cmp_ne_int, cmp_eq_str, cmp_ne_str, cmp_lt, cmp_le, cmp_gt, cmp_ge, cmp_is, cmp_isnot, at_0, at_1, at_2, at_3, at_4, List.map_cons, List.map_nil, List.length_cons, List.length_nil, List.replicate, List.cons_append, List.nil_append, List.getElem?_cons_zero, List.getElem?_cons_succ, List.set_cons_zero, List.set_cons_succ, Option.some.injEq, exists_eq_left, exists_eq_left', exists_eq_right, exists_and_left, true_and, and_true, if_true, if_false, Bool.false_eq_true, reduceCtorEq, if_pos, if_neg, PV.int.injEq, PV.bl.injEq, PV.str.injEq, PV.tup.injEq, PV.lst.injEq, PV.ref.injEq, PV.fn.injEq, Nat.reduceAdd, Nat.reduceSub, Bool.not_true, Bool.not_false, and_self, Nat.add_zero, Nat.zero_add, Nat.sub_self, forall_const, cast_0, cast_1, cast_2, cast_3, cast_4, cast_5, cast_6, cast_7, cast_8, cast_9, Int.reduceLT, Int.reduceLE, Int.reduceNeg, decide_true, decide_false, Int.reduceEq, so_tup, so_lst, lo_lst, tru_non, tru_bl, tru_int, tru_tup, tru_lst, bin_add_int, bin_add_tup, bin_add_lst, bin_sub, bin_mul, bin_fdiv, bin_mod, bin_pow, ord_int, ordI_lt, ordI_le, ordI_gt, ordI_ge, ix_tup, ix_lst, sl_tup, sl_lst, is_non, is_bl, isi_int, isi_bl, isi_str, isi_tup, isi_lst, isi_non, b_len, len_tup, len_lst, b_abs, b_int, b_int_bl, b_max2, b_min2, b_all, b_any, b_sum, b_tuple_lst, b_list_tup, b_repr, now_tup, now_lst, now_int, now_bl, new_f, new_t, walk_tup, walk_lst, zip_2, zip_3, src_tup, src_lst, rev_tup, rev_lst, bind_lst, enm_tup, enm_lst, put_at, ixN_32, ixN_31, ixN_30]
  · simpa [mm] using q
  · refine w_poured k g v2 v1 b0 b1 ?_
    simp only [SG.wpSs, SG.wpS, wpE, wpL, wpO, wpC, wpI, startP, fnEnds, bind_nm, bind_tp, binds_nil, binds_nm, binds_tp, Option.bind_some, false_or, or_false, zipL3, zipL, enmL, cmp_eq_int, cmp_ne_int, cmp_eq_str, cmp_ne_str, cmp_lt, cmp_le, cmp_gt, cmp_ge, cmp_is, cmp_isnot, at_0, at_1, at_2, at_3, at_4, List.map_cons, List.map_nil, List.length_cons, List.length_nil, List.replicate, List.cons_append, List.nil_append, List.getElem?_cons_zero, List.getElem?_cons_succ, List.set_cons_zero, List.set_cons_succ, Option.some.injEq, exists_eq_left, exists_eq_left', exists_eq_right, exists_and_left, true_and, and_true, if_true, if_false, Bool.false_eq_true, reduceCtorEq, if_pos, if_neg, PV.int.injEq, PV.bl.injEq, PV.str.injEq, PV.tup.injEq, PV.lst.injEq, PV.ref.injEq, PV.fn.injEq, Nat.reduceAdd, Nat.reduceSub, Bool.not_true, Bool.not_false, and_self, Nat.add_zero, Nat.zero_add, Nat.sub_self, forall_const, cast_0, cast_1, cast_2, cast_3, cast_4, cast_5, cast_6, cast_7, cast_8, cast_9, Int.reduceLT, Int.reduceLE, Int.reduceNeg, decide_true, decide_false, Int.reduceEq, so_tup, so_lst, lo_lst, tru_non, tru_bl, tru_int, tru_tup, tru_lst, bin_add_int, bin_add_tup, bin_add_lst, bin_sub, bin_mul, bin_fdiv, bin_mod, bin_pow, ord_int, ordI_lt, ordI_le, ordI_gt, ordI_ge, ix_tup, ix_lst, sl_tup, sl_lst, is_non, is_bl, isi_int, isi_bl, isi_str, isi_tup, isi_lst, isi_non, b_len, len_tup, len_lst, b_abs, b_int, b_int_bl, b_max2, b_min2, b_all, b_any, b_sum, b_tuple_lst, b_list_tup, b_repr, now_tup, now_lst, now_int, now_bl, new_f, new_t, walk_tup, walk_lst, zip_2, zip_3, src_tup, src_lst, rev_tup, rev_lst, bind_lst, enm_tup, enm_lst, put_at, ixN_32, ixN_31, ixN_30, w_lsays, List.reverse_cons, List.reverse_nil, List.nil_append, List.cons_append]
    rw [Int.add_comm v2 v1]
    simpa [mm] using q
  · refine w_poured k g v1 v2 a0 a1 ?_
    simp only [SG.wpSs, SG.wpS, wpE, wpL, wpO, wpC, wpI, startP, fnEnds, bind_nm, bind_tp, binds_nil, binds_nm, binds_tp, Option.bind_some, false_or, or_false, zipL3, zipL, enmL, cmp_eq_int, cmp_ne_int, cmp_eq_str, cmp_ne_str, cmp_lt, cmp_le, cmp_gt, cmp_ge, cmp_is, cmp_isnot, at_0, at_1, at_2, at_3, at_4, List.map_cons, List.map_nil, List.length_cons, List.length_nil, List.replicate, List.cons_append, List.nil_append, List.getElem?_cons_zero, List.getElem?_cons_succ, List.set_cons_zero, List.set_cons_succ, Option.some.injEq, exists_eq_left, exists_eq_left', exists_eq_right, exists_and_left, true_and, and_true, if_true, if_false, Bool.false_eq_true, reduceCtorEq, if_pos, if_neg, PV.int.injEq, PV.bl.injEq, PV.str.injEq, PV.tup.injEq, PV.lst.injEq, PV.ref.injEq, PV.fn.injEq, Nat.reduceAdd, Nat.reduceSub, Bool.not_true, Bool.not_false, and_self, Nat.add_zero, Nat.zero_add, Nat.sub_self, forall_const, cast_0, cast_1, cast_2, cast_3, cast_4, cast_5, cast_6, cast_7, cast_8, cast_9, Int.reduceLT, Int.reduceLE, Int.reduceNeg, decide_true, decide_false, Int.reduceEq, so_tup, so_lst, lo_lst, tru_non, tru_bl, tru_int, tru_tup, tru_lst, bin_add_int, bin_add_tup, bin_add_lst, bin_sub, bin_mul, bin_fdiv, bin_mod, bin_pow, ord_int, ordI_lt, ordI_le, ordI_gt, ordI_ge, ix_tup, ix_lst, sl_tup, sl_lst, is_non, is_bl, isi_int, isi_bl, isi_str, isi_tup, isi_lst, isi_non, b_len, len_tup, len_lst, b_abs, b_int, b_int_bl, b_max2, b_min2, b_all, b_any, b_sum, b_tuple_lst, b_list_tup, b_repr, now_tup, now_lst, now_int, now_bl, new_f, new_t, walk_tup, walk_lst, zip_2, zip_3, src_tup, src_lst, rev_tup, rev_lst, bind_lst, enm_tup, enm_lst, put_at, ixN_32, ixN_31, ixN_30, w_lsays]
    simpa [mm] using q
  · refine w_poured k g v1 v2 a0 a1 ?_
    simp only [SG.wpSs, SG.wpS, wpE, wpL, wpO, wpC, wpI, startP, fnEnds, bind_nm, bind_tp, binds_nil, binds_nm, binds_tp, Option.bind_some, false_or, or_false, zipL3, zipL, enmL, cmp_eq_int, cmp_ne_int, cmp_eq_str, cmp_ne_str, cmp_lt, cmp_le, cmp_gt, cmp_ge, cmp_is, cmp_isnot, at_0, at_1, at_2, at_3, at_4, List.map_cons, List.map_nil, List.length_cons, List.length_nil, List.replicate, List.cons_append, List.nil_append, List.getElem?_cons_zero, List.getElem?_cons_succ, List.set_cons_zero, List.set_cons_succ, Option.some.injEq, exists_eq_left, exists_eq_left', exists_eq_right, exists_and_left, true_and, and_true, if_true, if_false, Bool.false_eq_true, reduceCtorEq, if_pos, if_neg, PV.int.injEq, PV.bl.injEq, PV.str.injEq, PV.tup.injEq, PV.lst.injEq, PV.ref.injEq, PV.fn.injEq, Nat.reduceAdd, Nat.reduceSub, Bool.not_true, Bool.not_false, and_self, Nat.add_zero, Nat.zero_add, Nat.sub_self, forall_const, cast_0, cast_1, cast_2, cast_3, cast_4, cast_5, cast_6, cast_7, cast_8, cast_9, Int.reduceLT, Int.reduceLE, Int.reduceNeg, decide_true, decide_false, Int.reduceEq, so_tup, so_lst, lo_lst, tru_non, tru_bl, tru_int, tru_tup, tru_lst, bin_add_int, bin_add_tup, bin_add_lst, bin_sub, bin_mul, bin_fdiv, bin_mod, bin_pow, ord_int, ordI_lt, ordI_le, ordI_gt, ordI_ge, ix_tup, ix_lst, sl_tup, sl_lst, is_non, is_bl, isi_int, isi_bl, isi_str, isi_tup, isi_lst, isi_non, b_len, len_tup, len_lst, b_abs, b_int, b_int_bl, b_max2, b_min2, b_all, b_any, b_sum, b_tuple_lst, b_list_tup, b_repr, now_tup, now_lst, now_int, now_bl, new_f, new_t, walk_tup, walk_lst, zip_2, zip_3, src_tup, src_lst, rev_tup, rev_lst, bind_lst, enm_tup, enm_lst, put_at, ixN_32, ixN_31, ixN_30, w_lsays]
    simpa [mm] using q
/-- nothing that stood is changed -/
def Grow (M M' : Sto) : Prop := ∀ t, M t ≠ none → M' t = M t
theorem Grow.hand {M M' : Sto} {h : Addr} {n : Int} (g : Grow M M') (x : Hand M h n) : Hand M' h n := by
  obtain ⟨a, b, c, e1, e2⟩ := x
  exact ⟨a, b, c, (g h (by rw [e1]; simp)).trans e1, e2⟩
theorem w_met (k : Nat) {ws : List Int} {c : Int} (g : Good ws c) (l1 l2 : Bool) (s1 s2 v1 v2 : Int) (w1 w2 : Bool) (a0 : -sz ws c ≤ v1) (a1 : v1 ≤ sz ws c) (b0 : -sz ws c ≤ v2) (b1 : v2 ≤ sz ws c) {M : Sto} {Q : Q1}
    (q : ∀ M', Grow M M' → Q (.tup [mem_ s1 (mm (sz ws c) c l1 l2 v1 v2 w1 w2).1, mem_ s2 (mm (sz ws c) c l1 l2 v1 v2 w1 w2).2]) M') :
    callN T (k + 4) "_law_met" [.lst [sum_ ws c], mem_ s1 (tri l1 v1 w1), mem_ s2 (tri l2 v2 w2)] M Q := by
  rw [call__law_met]
  simp only [b__law_met, SG.wpSs, SG.wpS, wpE, wpL, wpO, wpC, wpI, startP, fnEnds, bind_nm, bind_tp, binds_nil, binds_nm, binds_tp, Option.bind_some, false_or, or_false, zipL3, zipL, enmL, cmp_eq_int, cmp_ne_int, cmp_eq_str, cmp_ne_str, cmp_lt, cmp_le, cmp_gt, cmp_ge, cmp_is, cmp_isnot, at_0, at_1, at_2, at_3, at_4, List.map_cons, List.map_nil, List.length_cons, List.length_nil, List.replicate, List.cons_append, List.nil_append, List.getElem?_cons_zero, List.getElem?_cons_succ, List.set_cons_zero, List.set_cons_succ, Option.some.injEq, exists_eq_left, exists_eq_left', exists_eq_right, exists_and_left, true_and, and_true, if_true, if_false, Bool.false_eq_true, reduceCtorEq, if_pos, if_neg, PV.int.injEq, PV.bl.injEq, PV.str.injEq, PV.tup.injEq, PV.lst.injEq, PV.ref.injEq, PV.fn.injEq, Nat.reduceAdd, Nat.reduceSub, Bool.not_true, Bool.not_false, and_self, Nat.add_zero, Nat.zero_add, Nat.sub_self, forall_const, cast_0, cast_1, cast_2, cast_3, cast_4, cast_5, cast_6, cast_7, cast_8, cast_9, Int.reduceLT, Int.reduceLE, Int.reduceNeg, decide_true, decide_false, Int.reduceEq, so_tup, so_lst, lo_lst, tru_non, tru_bl, tru_int, tru_tup, tru_lst, bin_add_int, bin_add_tup, bin_add_lst, bin_sub, bin_mul, bin_fdiv, bin_mod, bin_pow, ord_int, ordI_lt, ordI_le, ordI_gt, ordI_ge, ix_tup, ix_lst, sl_tup, sl_lst, is_non, is_bl, isi_int, isi_bl, isi_str, isi_tup, isi_lst, isi_non, b_len, len_tup, len_lst, b_abs, b_int, b_int_bl, b_max2, b_min2, b_all, b_any, b_sum, b_tuple_lst, b_list_tup, b_repr, now_tup, now_lst, now_int, now_bl, new_f, new_t, walk_tup, walk_lst, zip_2, zip_3, src_tup, src_lst, rev_tup, rev_lst, bind_lst, enm_tup, enm_lst, put_at, ixN_32, ixN_31, ixN_30, sne2, forL, at_m1_3]
  intro p hp p2 hp2
  have ne : p2 ≠ p := fun e => by rw [e, put_at] at hp2; cases hp2
  have e1 : ((M.put p (.lst [])).put p2 (.lst [])) p = some (.lst []) := (Sto.put_ne (Ne.symm ne)).trans (put_at _ _ _)
  have e2 := put_at (M.put p (.lst [])) p2 (.lst [])
  have hp2' : M p2 = none := by rw [← Sto.put_ne ne (M := M) (o := .lst [])]; exact hp2
  simp only [b__law_met_L6, SG.wpSs, SG.wpS, wpE, wpL, wpO, wpC, wpI, startP, fnEnds, bind_nm, bind_tp, binds_nil, binds_nm, binds_tp, Option.bind_some, false_or, or_false, zipL3, zipL, enmL, cmp_eq_int, cmp_ne_int, cmp_eq_str, cmp_ne_str, cmp_lt, cmp_le, cmp_gt, cmp_ge, cmp_is, cmp_isnot, at_0, at_1, at_2, at_3, at_4, List.map_cons, List.map_nil, List.length_cons, List.length_nil, List.replicate, List.cons_append, List.nil_append, List.getElem?_cons_zero, List.getElem?_cons_succ, List.set_cons_zero, List.set_cons_succ, Option.some.injEq, exists_eq_left, exists_eq_left', exists_eq_right, exists_and_left, true_and, and_true, if_true, if_false, Bool.false_eq_true, reduceCtorEq, if_pos, if_neg, PV.int.injEq, PV.bl.injEq, PV.str.injEq, PV.tup.injEq, PV.lst.injEq, PV.ref.injEq, PV.fn.injEq, Nat.reduceAdd, Nat.reduceSub, Bool.not_true, Bool.not_false, and_self, Nat.add_zero, Nat.zero_add, Nat.sub_self, forall_const, cast_0, cast_1, cast_2, cast_3, cast_4, cast_5, cast_6, cast_7, cast_8, cast_9, Int.reduceLT, Int.reduceLE, Int.reduceNeg, decide_true, decide_false, Int.reduceEq, so_tup, so_lst, lo_lst, tru_non, tru_bl, tru_int, tru_tup, tru_lst, bin_add_int, bin_add_tup, bin_add_lst, bin_sub, bin_mul, bin_fdiv, bin_mod, bin_pow, ord_int, ordI_lt, ordI_le, ordI_gt, ordI_ge, ix_tup, ix_lst, sl_tup, sl_lst, is_non, is_bl, isi_int, isi_bl, isi_str, isi_tup, isi_lst, isi_non, b_len, len_tup, len_lst, b_abs, b_int, b_int_bl, b_max2, b_min2, b_all, b_any, b_sum, b_tuple_lst, b_list_tup, b_repr, now_tup, now_lst, now_int, now_bl, new_f, new_t, walk_tup, walk_lst, zip_2, zip_3, src_tup, src_lst, rev_tup, rev_lst, bind_lst, enm_tup, enm_lst, put_at, ixN_32, ixN_31, ixN_30]
  refine w_pair k g l1 l2 v1 v2 w1 w2 a0 a1 b0 b1 ?_
  generalize (mm (sz ws c) c l1 l2 v1 v2 w1 w2).1 = r1 at q ⊢
  generalize (mm (sz ws c) c l1 l2 v1 v2 w1 w2).2 = r2 at q ⊢
  have sl : 0 < sizeLine := by decide
  generalize hM2 : (M.put p (.lst [])).put p2 (.lst []) = M2 at e1 e2 ⊢
  simp only [SG.wpSs, SG.wpS, wpE, wpL, wpO, wpC, wpI, startP, fnEnds, bind_nm, bind_tp, binds_nil, binds_nm, binds_tp, Option.bind_some, false_or, or_false, zipL3, zipL, enmL, cmp_eq_int, cmp_ne_int, cmp_eq_str, cmp_ne_str, cmp_lt, cmp_le, cmp_gt, cmp_ge, cmp_is, cmp_isnot, at_0, at_1, at_2, at_3, at_4, List.map_cons, List.map_nil, List.length_cons, List.length_nil, List.replicate, List.cons_append, List.nil_append, List.getElem?_cons_zero, List.getElem?_cons_succ, List.set_cons_zero, List.set_cons_succ, Option.some.injEq, exists_eq_left, exists_eq_left', exists_eq_right, exists_and_left, true_and, and_true, if_true, if_false, Bool.false_eq_true, reduceCtorEq, if_pos, if_neg, PV.int.injEq, PV.bl.injEq, PV.str.injEq, PV.tup.injEq, PV.lst.injEq, PV.ref.injEq, PV.fn.injEq, Nat.reduceAdd, Nat.reduceSub, Bool.not_true, Bool.not_false, and_self, Nat.add_zero, Nat.zero_add, Nat.sub_self, forall_const, cast_0, cast_1, cast_2, cast_3, cast_4, cast_5, cast_6, cast_7, cast_8, cast_9, Int.reduceLT, Int.reduceLE, Int.reduceNeg, decide_true, decide_false, Int.reduceEq, so_tup, so_lst, lo_lst, tru_non, tru_bl, tru_int, tru_tup, tru_lst, bin_add_int, bin_add_tup, bin_add_lst, bin_sub, bin_mul, bin_fdiv, bin_mod, bin_pow, ord_int, ordI_lt, ordI_le, ordI_gt, ordI_ge, ix_tup, ix_lst, sl_tup, sl_lst, is_non, is_bl, isi_int, isi_bl, isi_str, isi_tup, isi_lst, isi_non, b_len, len_tup, len_lst, b_abs, b_int, b_int_bl, b_max2, b_min2, b_all, b_any, b_sum, b_tuple_lst, b_list_tup, b_repr, now_tup, now_lst, now_int, now_bl, new_f, new_t, walk_tup, walk_lst, zip_2, zip_3, src_tup, src_lst, rev_tup, rev_lst, bind_lst, enm_tup, enm_lst, put_at, ixN_32, ixN_31, ixN_30, rcv_ref e1, app_ref e1, sl]
  have e3 : (M2.put p (.lst [r1])) p2 = some (.lst []) := (Sto.put_ne ne).trans e2
  simp only [SG.wpSs, SG.wpS, wpE, wpL, wpO, wpC, wpI, startP, fnEnds, bind_nm, bind_tp, binds_nil, binds_nm, binds_tp, Option.bind_some, false_or, or_false, zipL3, zipL, enmL, cmp_eq_int, cmp_ne_int, cmp_eq_str, cmp_ne_str, cmp_lt, cmp_le, cmp_gt, cmp_ge, cmp_is, cmp_isnot, at_0, at_1, at_2, at_3, at_4, List.map_cons, List.map_nil, List.length_cons, List.length_nil, List.replicate, List.cons_append, List.nil_append, List.getElem?_cons_zero, List.getElem?_cons_succ, List.set_cons_zero, List.set_cons_succ, Option.some.injEq, exists_eq_left, exists_eq_left', exists_eq_right, exists_and_left, true_and, and_true, if_true, if_false, Bool.false_eq_true, reduceCtorEq, if_pos, if_neg, PV.int.injEq, PV.bl.injEq, PV.str.injEq, PV.tup.injEq, PV.lst.injEq, PV.ref.injEq, PV.fn.injEq, Nat.reduceAdd, Nat.reduceSub, Bool.not_true, Bool.not_false, and_self, Nat.add_zero, Nat.zero_add, Nat.sub_self, forall_const, cast_0, cast_1, cast_2, cast_3, cast_4, cast_5, cast_6, cast_7, cast_8, cast_9, Int.reduceLT, Int.reduceLE, Int.reduceNeg, decide_true, decide_false, Int.reduceEq, so_tup, so_lst, lo_lst, tru_non, tru_bl, tru_int, tru_tup, tru_lst, bin_add_int, bin_add_tup, bin_add_lst, bin_sub, bin_mul, bin_fdiv, bin_mod, bin_pow, ord_int, ordI_lt, ordI_le, ordI_gt, ordI_ge, ix_tup, ix_lst, sl_tup, sl_lst, is_non, is_bl, isi_int, isi_bl, isi_str, isi_tup, isi_lst, isi_non, b_len, len_tup, len_lst, b_abs, b_int, b_int_bl, b_max2, b_min2, b_all, b_any, b_sum, b_tuple_lst, b_list_tup, b_repr, now_tup, now_lst, now_int, now_bl, new_f, new_t, walk_tup, walk_lst, zip_2, zip_3, src_tup, src_lst, rev_tup, rev_lst, bind_lst, enm_tup, enm_lst, put_at, ixN_32, ixN_31, ixN_30, rcv_ref e3, app_ref e3, sl]
  have e4 : ((M2.put p (.lst [r1])).put p2 (.lst [r2])) p = some (.lst [r1]) := (Sto.put_ne (Ne.symm ne)).trans (put_at _ _ _)
  have e5 := put_at (M2.put p (.lst [r1])) p2 (.lst [r2])
  simp only [SG.wpSs, SG.wpS, wpE, wpL, wpO, wpC, wpI, startP, fnEnds, bind_nm, bind_tp, binds_nil, binds_nm, binds_tp, Option.bind_some, false_or, or_false, zipL3, zipL, enmL, cmp_eq_int, cmp_ne_int, cmp_eq_str, cmp_ne_str, cmp_lt, cmp_le, cmp_gt, cmp_ge, cmp_is, cmp_isnot, at_0, at_1, at_2, at_3, at_4, List.map_cons, List.map_nil, List.length_cons, List.length_nil, List.replicate, List.cons_append, List.nil_append, List.getElem?_cons_zero, List.getElem?_cons_succ, List.set_cons_zero, List.set_cons_succ, Option.some.injEq, exists_eq_left, exists_eq_left', exists_eq_right, exists_and_left, true_and, and_true, if_true, if_false, Bool.false_eq_true, reduceCtorEq, if_pos, if_neg, PV.int.injEq, PV.bl.injEq, PV.str.injEq, PV.tup.injEq, PV.lst.injEq, PV.ref.injEq, PV.fn.injEq, Nat.reduceAdd, Nat.reduceSub, Bool.not_true, Bool.not_false, and_self, Nat.add_zero, Nat.zero_add, Nat.sub_self, forall_const, cast_0, cast_1, cast_2, cast_3, cast_4, cast_5, cast_6, cast_7, cast_8, cast_9, Int.reduceLT, Int.reduceLE, Int.reduceNeg, decide_true, decide_false, Int.reduceEq, so_tup, so_lst, lo_lst, tru_non, tru_bl, tru_int, tru_tup, tru_lst, bin_add_int, bin_add_tup, bin_add_lst, bin_sub, bin_mul, bin_fdiv, bin_mod, bin_pow, ord_int, ordI_lt, ordI_le, ordI_gt, ordI_ge, ix_tup, ix_lst, sl_tup, sl_lst, is_non, is_bl, isi_int, isi_bl, isi_str, isi_tup, isi_lst, isi_non, b_len, len_tup, len_lst, b_abs, b_int, b_int_bl, b_max2, b_min2, b_all, b_any, b_sum, b_tuple_lst, b_list_tup, b_repr, now_tup, now_lst, now_int, now_bl, new_f, new_t, walk_tup, walk_lst, zip_2, zip_3, src_tup, src_lst, rev_tup, rev_lst, bind_lst, enm_tup, enm_lst, put_at, ixN_32, ixN_31, ixN_30, b_tuple_ref e4, b_tuple_ref e5]
  refine q _ fun t ht => ?_
  have n1 : t ≠ p := fun e => ht (by rw [e]; exact hp)
  have n2 : t ≠ p2 := fun e => ht (by rw [e]; exact hp2')
  rw [Sto.put_ne n2, Sto.put_ne n1, ← hM2, Sto.put_ne n2, Sto.put_ne n1]
theorem w_member (k : Nat) {h : Addr} {n sort : Int} {ws : List Int} {c : Int} (g : Good ws c) {M : Sto} {Q : Q1} (hm : Hand M h n) (h4 : n < 5000)
    (q : ∀ l v w M', -sz ws c ≤ v → v ≤ sz ws c → Hand M' h (n + 4) → Q (mem_ sort (tri l v w)) M') : callN T (k + 3) "_law_member" [.ref h, .lst [sum_ ws c], .int sort] M Q := by
  have hs := sz_bd g
  rw [call__law_member]
  simp only [b__law_member, SG.wpSs, SG.wpS, wpE, wpL, wpO, wpC, wpI, startP, fnEnds, bind_nm, bind_tp, binds_nil, binds_nm, binds_tp, Option.bind_some, false_or, or_false, zipL3, zipL, enmL, cmp_eq_int, cmp_ne_int, cmp_eq_str, cmp_ne_str, cmp_lt, cmp_le, cmp_gt, cmp_ge, cmp_is, cmp_isnot, at_0, at_1, at_2, at_3, at_4, List.map_cons, List.map_nil, List.length_cons, List.length_nil, List.replicate, List.cons_append, List.nil_append, List.getElem?_cons_zero, List.getElem?_cons_succ, List.set_cons_zero, List.set_cons_succ, Option.some.injEq, exists_eq_left, exists_eq_left', exists_eq_right, exists_and_left, true_and, and_true, if_true, if_false, Bool.false_eq_true, reduceCtorEq, if_pos, if_neg, PV.int.injEq, PV.bl.injEq, PV.str.injEq, PV.tup.injEq, PV.lst.injEq, PV.ref.injEq, PV.fn.injEq, Nat.reduceAdd, Nat.reduceSub, Bool.not_true, Bool.not_false, and_self, Nat.add_zero, Nat.zero_add, Nat.sub_self, forall_const, cast_0, cast_1, cast_2, cast_3, cast_4, cast_5, cast_6, cast_7, cast_8, cast_9, Int.reduceLT, Int.reduceLE, Int.reduceNeg, decide_true, decide_false, Int.reduceEq, so_tup, so_lst, lo_lst, tru_non, tru_bl, tru_int, tru_tup, tru_lst, bin_add_int, bin_add_tup, bin_add_lst, bin_sub, bin_mul, bin_fdiv, bin_mod, bin_pow, ord_int, ordI_lt, ordI_le, ordI_gt, ordI_ge, ix_tup, ix_lst, sl_tup, sl_lst, is_non, is_bl, isi_int, isi_bl, isi_str, isi_tup, isi_lst, isi_non, b_len, len_tup, len_lst, b_abs, b_int, b_int_bl, b_max2, b_min2, b_all, b_any, b_sum, b_tuple_lst, b_list_tup, b_repr, now_tup, now_lst, now_int, now_bl, new_f, new_t, walk_tup, walk_lst, zip_2, zip_3, src_tup, src_lst, rev_tup, rev_lst, bind_lst, enm_tup, enm_lst, put_at, ixN_32, ixN_31, ixN_30, forL]
  intro p hp
  have ne : p ≠ h := fun e => by
    obtain ⟨a, b, c', e2, _⟩ := hm
    rw [e, e2] at hp
    cases hp
  have hh1 : Hand (M.put p (.lst [])) h n := by
    obtain ⟨a, b, c', e, r1⟩ := hm
    exact ⟨a, b, c', (Sto.put_ne (Ne.symm ne)).trans e, r1⟩
  have ep := put_at M p (.lst [])
  simp only [b__law_member_L2, SG.wpSs, SG.wpS, wpE, wpL, wpO, wpC, wpI, startP, fnEnds, bind_nm, bind_tp, binds_nil, binds_nm, binds_tp, Option.bind_some, false_or, or_false, zipL3, zipL, enmL, cmp_eq_int, cmp_ne_int, cmp_eq_str, cmp_ne_str, cmp_lt, cmp_le, cmp_gt, cmp_ge, cmp_is, cmp_isnot, at_0, at_1, at_2, at_3, at_4, List.map_cons, List.map_nil, List.length_cons, List.length_nil, List.replicate, List.cons_append, List.nil_append, List.getElem?_cons_zero, List.getElem?_cons_succ, List.set_cons_zero, List.set_cons_succ, Option.some.injEq, exists_eq_left, exists_eq_left', exists_eq_right, exists_and_left, true_and, and_true, if_true, if_false, Bool.false_eq_true, reduceCtorEq, if_pos, if_neg, PV.int.injEq, PV.bl.injEq, PV.str.injEq, PV.tup.injEq, PV.lst.injEq, PV.ref.injEq, PV.fn.injEq, Nat.reduceAdd, Nat.reduceSub, Bool.not_true, Bool.not_false, and_self, Nat.add_zero, Nat.zero_add, Nat.sub_self, forall_const, cast_0, cast_1, cast_2, cast_3, cast_4, cast_5, cast_6, cast_7, cast_8, cast_9, Int.reduceLT, Int.reduceLE, Int.reduceNeg, decide_true, decide_false, Int.reduceEq, so_tup, so_lst, lo_lst, tru_non, tru_bl, tru_int, tru_tup, tru_lst, bin_add_int, bin_add_tup, bin_add_lst, bin_sub, bin_mul, bin_fdiv, bin_mod, bin_pow, ord_int, ordI_lt, ordI_le, ordI_gt, ordI_ge, ix_tup, ix_lst, sl_tup, sl_lst, is_non, is_bl, isi_int, isi_bl, isi_str, isi_tup, isi_lst, isi_non, b_len, len_tup, len_lst, b_abs, b_int, b_int_bl, b_max2, b_min2, b_all, b_any, b_sum, b_tuple_lst, b_list_tup, b_repr, now_tup, now_lst, now_int, now_bl, new_f, new_t, walk_tup, walk_lst, zip_2, zip_3, src_tup, src_lst, rev_tup, rev_lst, bind_lst, enm_tup, enm_lst, put_at, ixN_32, ixN_31, ixN_30, w_size (k + 1) g, sne1]
  generalize hS : sz ws c = S at q hs ⊢
  refine w_takeH (k + 1) hh1 (by decide) (by decide) (by omega) fun d1 M1 d10 d11 s1 => ?_
  simp only [SG.wpSs, SG.wpS, wpE, wpL, wpO, wpC, wpI, startP, fnEnds, bind_nm, bind_tp, binds_nil, binds_nm, binds_tp, Option.bind_some, false_or, or_false, zipL3, zipL, enmL, cmp_eq_int, cmp_ne_int, cmp_eq_str, cmp_ne_str, cmp_lt, cmp_le, cmp_gt, cmp_ge, cmp_is, cmp_isnot, at_0, at_1, at_2, at_3, at_4, List.map_cons, List.map_nil, List.length_cons, List.length_nil, List.replicate, List.cons_append, List.nil_append, List.getElem?_cons_zero, List.getElem?_cons_succ, List.set_cons_zero, List.set_cons_succ, Option.some.injEq, exists_eq_left, exists_eq_left', exists_eq_right, exists_and_left, true_and, and_true, if_true, if_false, Bool.false_eq_true, reduceCtorEq, if_pos, if_neg, PV.int.injEq, PV.bl.injEq, PV.str.injEq, PV.tup.injEq, PV.lst.injEq, PV.ref.injEq, PV.fn.injEq, Nat.reduceAdd, Nat.reduceSub, Bool.not_true, Bool.not_false, and_self, Nat.add_zero, Nat.zero_add, Nat.sub_self, forall_const, cast_0, cast_1, cast_2, cast_3, cast_4, cast_5, cast_6, cast_7, cast_8, cast_9, Int.reduceLT, Int.reduceLE, Int.reduceNeg, decide_true, decide_false, Int.reduceEq, so_tup, so_lst, lo_lst, tru_non, tru_bl, tru_int, tru_tup, tru_lst, bin_add_int, bin_add_tup, bin_add_lst, bin_sub, bin_mul, bin_fdiv, bin_mod, bin_pow, ord_int, ordI_lt, ordI_le, ordI_gt, ordI_ge, ix_tup, ix_lst, sl_tup, sl_lst, is_non, is_bl, isi_int, isi_bl, isi_str, isi_tup, isi_lst, isi_non, b_len, len_tup, len_lst, b_abs, b_int, b_int_bl, b_max2, b_min2, b_all, b_any, b_sum, b_tuple_lst, b_list_tup, b_repr, now_tup, now_lst, now_int, now_bl, new_f, new_t, walk_tup, walk_lst, zip_2, zip_3, src_tup, src_lst, rev_tup, rev_lst, bind_lst, enm_tup, enm_lst, put_at, ixN_32, ixN_31, ixN_30]
  refine w_takeH (k + 1) s1.hd (by omega) (by omega) (by omega) fun d2 M2 d20 d21 s2 => ?_
  simp only [SG.wpSs, SG.wpS, wpE, wpL, wpO, wpC, wpI, startP, fnEnds, bind_nm, bind_tp, binds_nil, binds_nm, binds_tp, Option.bind_some, false_or, or_false, zipL3, zipL, enmL, cmp_eq_int, cmp_ne_int, cmp_eq_str, cmp_ne_str, cmp_lt, cmp_le, cmp_gt, cmp_ge, cmp_is, cmp_isnot, at_0, at_1, at_2, at_3, at_4, List.map_cons, List.map_nil, List.length_cons, List.length_nil, List.replicate, List.cons_append, List.nil_append, List.getElem?_cons_zero, List.getElem?_cons_succ, List.set_cons_zero, List.set_cons_succ, Option.some.injEq, exists_eq_left, exists_eq_left', exists_eq_right, exists_and_left, true_and, and_true, if_true, if_false, Bool.false_eq_true, reduceCtorEq, if_pos, if_neg, PV.int.injEq, PV.bl.injEq, PV.str.injEq, PV.tup.injEq, PV.lst.injEq, PV.ref.injEq, PV.fn.injEq, Nat.reduceAdd, Nat.reduceSub, Bool.not_true, Bool.not_false, and_self, Nat.add_zero, Nat.zero_add, Nat.sub_self, forall_const, cast_0, cast_1, cast_2, cast_3, cast_4, cast_5, cast_6, cast_7, cast_8, cast_9, Int.reduceLT, Int.reduceLE, Int.reduceNeg, decide_true, decide_false, Int.reduceEq, so_tup, so_lst, lo_lst, tru_non, tru_bl, tru_int, tru_tup, tru_lst, bin_add_int, bin_add_tup, bin_add_lst, bin_sub, bin_mul, bin_fdiv, bin_mod, bin_pow, ord_int, ordI_lt, ordI_le, ordI_gt, ordI_ge, ix_tup, ix_lst, sl_tup, sl_lst, is_non, is_bl, isi_int, isi_bl, isi_str, isi_tup, isi_lst, isi_non, b_len, len_tup, len_lst, b_abs, b_int, b_int_bl, b_max2, b_min2, b_all, b_any, b_sum, b_tuple_lst, b_list_tup, b_repr, now_tup, now_lst, now_int, now_bl, new_f, new_t, walk_tup, walk_lst, zip_2, zip_3, src_tup, src_lst, rev_tup, rev_lst, bind_lst, enm_tup, enm_lst, put_at, ixN_32, ixN_31, ixN_30]
  refine w_of k s2.hd (by simp) (by simp) (by omega) fun y M3 hy s3 => ?_
  have hy' : ∃ w : Int, y = .int w ∧ -S ≤ w ∧ w ≤ S := by
    simp only [List.mem_cons, List.not_mem_nil, or_false] at hy
    rcases hy with rfl | rfl | rfl | rfl | rfl <;> exact ⟨_, rfl, by omega, by omega⟩
  obtain ⟨v, rfl, v0, v1⟩ := hy'
  refine w_takeH (k + 1) s3.hd (by decide) (by decide) (by omega) fun d3 M4 d30 d31 s4 => ?_
  have ep4 : M4 p = some (.lst []) := ((((s4.fr p ne).trans (s3.fr p ne)).trans (s2.fr p ne)).trans (s1.fr p ne)).trans ep
  have fin : ∀ l w, Q (mem_ sort (tri l v w)) (M4.put p (.lst [tri l v w])) := fun l w => by
    refine q l v w _ v0 v1 ?_
    obtain ⟨a, b, c', e, c0, cn⟩ := s4.hd
    exact ⟨a, b, c', (Sto.put_ne (Ne.symm ne)).trans e, c0, by omega⟩
  have sl : 0 < sizeLine := by decide
  by_cases e : d1 = 0
  · simp only [SG.wpSs, SG.wpS, wpE, wpL, wpO, wpC, wpI, startP, fnEnds, bind_nm, bind_tp, binds_nil, binds_nm, binds_tp, Option.bind_some, false_or, or_false, zipL3, zipL, enmL, cmp_eq_int, cmp_ne_int, cmp_eq_str, cmp_ne_str, cmp_lt, cmp_le, cmp_gt, cmp_ge, cmp_is, cmp_isnot, at_0, at_1, at_2, at_3, at_4, List.map_cons, List.map_nil, List.length_cons, List.length_nil, List.replicate, List.cons_append, List.nil_append, List.getElem?_cons_zero, List.getElem?_cons_succ, List.set_cons_zero, List.set_cons_succ, Option.some.injEq, exists_eq_left, exists_eq_left', exists_eq_right, exists_and_left, true_and, and_true, if_true, if_false, Bool.false_eq_true, reduceCtorEq, if_pos, if_neg, PV.int.injEq, PV.bl.injEq, PV.str.injEq, PV.tup.injEq, PV.lst.injEq, PV.ref.injEq, PV.fn.injEq, Nat.reduceAdd, Nat.reduceSub, Bool.not_true, Bool.not_false, and_self, Nat.add_zero, Nat.zero_add, Nat.sub_self, forall_const, cast_0, cast_1, cast_2, cast_3, cast_4, cast_5, cast_6, cast_7, cast_8, cast_9, Int.reduceLT, Int.reduceLE, Int.reduceNeg, decide_true, decide_false, Int.reduceEq, so_tup, so_lst, lo_lst, tru_non, tru_bl, tru_int, tru_tup, tru_lst, bin_add_int, bin_add_tup, bin_add_lst, bin_sub, bin_mul, bin_fdiv, bin_mod, bin_pow, ord_int, ordI_lt, ordI_le, ordI_gt, ordI_ge, ix_tup, ix_lst, sl_tup, sl_lst, is_non, is_bl, isi_int, isi_bl, isi_str, isi_tup, isi_lst, isi_non, b_len, len_tup, len_lst, b_abs, b_int, b_int_bl, b_max2, b_min2, b_all, b_any, b_sum, b_tuple_lst, b_list_tup, b_repr, now_tup, now_lst, now_int, now_bl, new_f, new_t, walk_tup, walk_lst, zip_2, zip_3, src_tup, src_lst, rev_tup, rev_lst, bind_lst, enm_tup, enm_lst, put_at, ixN_32, ixN_31, ixN_30, e, w_lsays, rcv_ref ep4, app_ref ep4, sl]
    simp only [SG.wpSs, SG.wpS, wpE, wpL, wpO, wpC, wpI, startP, fnEnds, bind_nm, bind_tp, binds_nil, binds_nm, binds_tp, Option.bind_some, false_or, or_false, zipL3, zipL, enmL, cmp_eq_int, cmp_ne_int, cmp_eq_str, cmp_ne_str, cmp_lt, cmp_le, cmp_gt, cmp_ge, cmp_is, cmp_isnot, at_0, at_1, at_2, at_3, at_4, List.map_cons, List.map_nil, List.length_cons, List.length_nil, List.replicate, List.cons_append, List.nil_append, List.getElem?_cons_zero, List.getElem?_cons_succ, List.set_cons_zero, List.set_cons_succ, Option.some.injEq, exists_eq_left, exists_eq_left', exists_eq_right, exists_and_left, true_and, and_true, if_true, if_false, Bool.false_eq_true, reduceCtorEq, if_pos, if_neg, PV.int.injEq, PV.bl.injEq, PV.str.injEq, PV.tup.injEq, PV.lst.injEq, PV.ref.injEq, PV.fn.injEq, Nat.reduceAdd, Nat.reduceSub, Bool.not_true, Bool.not_false, and_self, Nat.add_zero, Nat.zero_add, Nat.sub_self, forall_const, cast_0, cast_1, cast_2, cast_3, cast_4, cast_5, cast_6, cast_7, cast_8, cast_9, Int.reduceLT, Int.reduceLE, Int.reduceNeg, decide_true, decide_false, Int.reduceEq, so_tup, so_lst, lo_lst, tru_non, tru_bl, tru_int, tru_tup, tru_lst, bin_add_int, bin_add_tup, bin_add_lst, bin_sub, bin_mul, bin_fdiv, bin_mod, bin_pow, ord_int, ordI_lt, ordI_le, ordI_gt, ordI_ge, ix_tup, ix_lst, sl_tup, sl_lst, is_non, is_bl, isi_int, isi_bl, isi_str, isi_tup, isi_lst, isi_non, b_len, len_tup, len_lst, b_abs, b_int, b_int_bl, b_max2, b_min2, b_all, b_any, b_sum, b_tuple_lst, b_list_tup, b_repr, now_tup, now_lst, now_int, now_bl, new_f, new_t, walk_tup, walk_lst, zip_2, zip_3, src_tup, src_lst, rev_tup, rev_lst, bind_lst, enm_tup, enm_lst, put_at, ixN_32, ixN_31, ixN_30, b_tuple_ref (put_at M4 p (.lst [tri true v (decide (c ≤ v))]))]
    exact fin _ _
  · simp only [SG.wpSs, SG.wpS, wpE, wpL, wpO, wpC, wpI, startP, fnEnds, bind_nm, bind_tp, binds_nil, binds_nm, binds_tp, Option.bind_some, false_or, or_false, zipL3, zipL, enmL, cmp_eq_int, cmp_ne_int, cmp_eq_str, cmp_ne_str, cmp_lt, cmp_le, cmp_gt, cmp_ge, cmp_is, cmp_isnot, at_0, at_1, at_2, at_3, at_4, List.map_cons, List.map_nil, List.length_cons, List.length_nil, List.replicate, List.cons_append, List.nil_append, List.getElem?_cons_zero, List.getElem?_cons_succ, List.set_cons_zero, List.set_cons_succ, Option.some.injEq, exists_eq_left, exists_eq_left', exists_eq_right, exists_and_left, true_and, and_true, if_true, if_false, Bool.false_eq_true, reduceCtorEq, if_pos, if_neg, PV.int.injEq, PV.bl.injEq, PV.str.injEq, PV.tup.injEq, PV.lst.injEq, PV.ref.injEq, PV.fn.injEq, Nat.reduceAdd, Nat.reduceSub, Bool.not_true, Bool.not_false, and_self, Nat.add_zero, Nat.zero_add, Nat.sub_self, forall_const, cast_0, cast_1, cast_2, cast_3, cast_4, cast_5, cast_6, cast_7, cast_8, cast_9, Int.reduceLT, Int.reduceLE, Int.reduceNeg, decide_true, decide_false, Int.reduceEq, so_tup, so_lst, lo_lst, tru_non, tru_bl, tru_int, tru_tup, tru_lst, bin_add_int, bin_add_tup, bin_add_lst, bin_sub, bin_mul, bin_fdiv, bin_mod, bin_pow, ord_int, ordI_lt, ordI_le, ordI_gt, ordI_ge, ix_tup, ix_lst, sl_tup, sl_lst, is_non, is_bl, isi_int, isi_bl, isi_str, isi_tup, isi_lst, isi_non, b_len, len_tup, len_lst, b_abs, b_int, b_int_bl, b_max2, b_min2, b_all, b_any, b_sum, b_tuple_lst, b_list_tup, b_repr, now_tup, now_lst, now_int, now_bl, new_f, new_t, walk_tup, walk_lst, zip_2, zip_3, src_tup, src_lst, rev_tup, rev_lst, bind_lst, enm_tup, enm_lst, put_at, ixN_32, ixN_31, ixN_30, e, rcv_ref ep4, app_ref ep4, sl]
    simp only [SG.wpSs, SG.wpS, wpE, wpL, wpO, wpC, wpI, startP, fnEnds, bind_nm, bind_tp, binds_nil, binds_nm, binds_tp, Option.bind_some, false_or, or_false, zipL3, zipL, enmL, cmp_eq_int, cmp_ne_int, cmp_eq_str, cmp_ne_str, cmp_lt, cmp_le, cmp_gt, cmp_ge, cmp_is, cmp_isnot, at_0, at_1, at_2, at_3, at_4, List.map_cons, List.map_nil, List.length_cons, List.length_nil, List.replicate, List.cons_append, List.nil_append, List.getElem?_cons_zero, List.getElem?_cons_succ, List.set_cons_zero, List.set_cons_succ, Option.some.injEq, exists_eq_left, exists_eq_left', exists_eq_right, exists_and_left, true_and, and_true, if_true, if_false, Bool.false_eq_true, reduceCtorEq, if_pos, if_neg, PV.int.injEq, PV.bl.injEq, PV.str.injEq, PV.tup.injEq, PV.lst.injEq, PV.ref.injEq, PV.fn.injEq, Nat.reduceAdd, Nat.reduceSub, Bool.not_true, Bool.not_false, and_self, Nat.add_zero, Nat.zero_add, Nat.sub_self, forall_const, cast_0, cast_1, cast_2, cast_3, cast_4, cast_5, cast_6, cast_7, cast_8, cast_9, Int.reduceLT, Int.reduceLE, Int.reduceNeg, decide_true, decide_false, Int.reduceEq, so_tup, so_lst, lo_lst, tru_non, tru_bl, tru_int, tru_tup, tru_lst, bin_add_int, bin_add_tup, bin_add_lst, bin_sub, bin_mul, bin_fdiv, bin_mod, bin_pow, ord_int, ordI_lt, ordI_le, ordI_gt, ordI_ge, ix_tup, ix_lst, sl_tup, sl_lst, is_non, is_bl, isi_int, isi_bl, isi_str, isi_tup, isi_lst, isi_non, b_len, len_tup, len_lst, b_abs, b_int, b_int_bl, b_max2, b_min2, b_all, b_any, b_sum, b_tuple_lst, b_list_tup, b_repr, now_tup, now_lst, now_int, now_bl, new_f, new_t, walk_tup, walk_lst, zip_2, zip_3, src_tup, src_lst, rev_tup, rev_lst, bind_lst, enm_tup, enm_lst, put_at, ixN_32, ixN_31, ixN_30, b_tuple_ref (put_at M4 p (.lst [tri false v (decide (d3 = 0))]))]
    exact fin _ _
end Zk17
namespace Zk17
open PySem SG
theorem rep_two {s1 s2 v1 v2 : Int} {l1 l2 w1 w2 : Bool} (h1 : -100 < v1) (h2 : v1 < 100) (h3 : -100 < v2) (h4 : v2 < 100) (h7 : 0 ≤ s1) (h8 : s1 < 100) (h9 : 0 ≤ s2) (h10 : s2 < 100) : repOk (.tup [mem_ s1 (tri l1 v1 w1), mem_ s2 (tri l2 v2 w2)]) := by
  have e0 : PyData.strOk (Str.ofString "member") = true := by decide +kernel
  have e1 : (Str.ofString "member").cps.size = 6 := by decide +kernel
  refine repOk_of ?_ ?_ ?_
  · simp [PV.sm, PV.sms, e0]
    omega
  · simp [PV.dep, PV.deps]
  · simp [PV.wt, PV.wts, e1]
theorem mm_rep {s c : Int} {l1 l2 : Bool} {s1 s2 v1 v2 : Int} {w1 w2 : Bool} (hs : 1 ≤ s) (hs2 : s ≤ 21) (h1 : -s ≤ v1) (h2 : v1 ≤ s) (h3 : -s ≤ v2) (h4 : v2 ≤ s) (h7 : 0 ≤ s1) (h8 : s1 < 100) (h9 : 0 ≤ s2) (h10 : s2 < 100) :
    repOk (.tup [mem_ s1 (mm s c l1 l2 v1 v2 w1 w2).1, mem_ s2 (mm s c l1 l2 v1 v2 w1 w2).2]) := by
  have z1 : -s ≤ clamp s (v1 + v2) ∧ clamp s (v1 + v2) ≤ s ∧ -s ≤ v1 + v2 - clamp s (v1 + v2) ∧ v1 + v2 - clamp s (v1 + v2) ≤ s := by
    unfold clamp
    split
    · split <;> omega
    · omega
  cases l1 <;> cases l2 <;> simp only [mm, if_true, if_false, Bool.false_eq_true] <;> exact rep_two (by omega) (by omega) (by omega) (by omega) h7 h8 h9 h10
theorem w_right (k : Nat) {ws : List Int} {c : Int} (g : Good ws c) (l1 l2 : Bool) (s1 s2 v1 v2 : Int) (w1 w2 : Bool) (a0 : -sz ws c ≤ v1) (a1 : v1 ≤ sz ws c) (b0 : -sz ws c ≤ v2) (b1 : v2 ≤ sz ws c) (p0 : 0 ≤ s1) (p1 : s1 < 100) (q0 : 0 ≤ s2) (q1 : s2 < 100) {M : Sto} {Q : Q1}
    (q : ∀ M', Grow M M' → Q (.bl true) M') : callN T (k + 8) "_law_is_right" [sum_ ws c, mem_ s1 (tri l1 v1 w1), mem_ s2 (tri l2 v2 w2)] M Q := by
  have hs := sz_bd g
  have r1 : repOk (.tup [mem_ s1 (tri l1 v1 w1), mem_ s2 (tri l2 v2 w2)]) := rep_two (by omega) (by omega) (by omega) (by omega) p0 p1 q0 q1
  have r2 : repOk (.tup [mem_ s1 (mm (sz ws c) c l1 l2 v1 v2 w1 w2).1, mem_ s2 (mm (sz ws c) c l1 l2 v1 v2 w1 w2).2]) := mm_rep hs.1 hs.2 a0 a1 b0 b1 p0 p1 q0 q1
  rw [call__law_is_right]
  simp only [b__law_is_right, SG.wpSs, SG.wpS, wpE, wpL, wpO, wpC, wpI, startP, fnEnds, bind_nm, bind_tp, binds_nil, binds_nm, binds_tp, Option.bind_some, false_or, or_false, zipL3, zipL, enmL, cmp_eq_int, cmp_ne_int, cmp_eq_str, cmp_ne_str, cmp_lt, cmp_le, cmp_gt, cmp_ge, cmp_is, cmp_isnot, at_0, at_1, at_2, at_3, at_4, List.map_cons, List.map_nil, List.length_cons, List.length_nil, List.replicate, List.cons_append, List.nil_append, List.getElem?_cons_zero, List.getElem?_cons_succ, List.set_cons_zero, List.set_cons_succ, Option.some.injEq, exists_eq_left, exists_eq_left', exists_eq_right, exists_and_left, true_and, and_true, if_true, if_false, Bool.false_eq_true, reduceCtorEq, if_pos, if_neg, PV.int.injEq, PV.bl.injEq, PV.str.injEq, PV.tup.injEq, PV.lst.injEq, PV.ref.injEq, PV.fn.injEq, Nat.reduceAdd, Nat.reduceSub, Bool.not_true, Bool.not_false, and_self, Nat.add_zero, Nat.zero_add, Nat.sub_self, forall_const, cast_0, cast_1, cast_2, cast_3, cast_4, cast_5, cast_6, cast_7, cast_8, cast_9, Int.reduceLT, Int.reduceLE, Int.reduceNeg, decide_true, decide_false, Int.reduceEq, so_tup, so_lst, lo_lst, tru_non, tru_bl, tru_int, tru_tup, tru_lst, bin_add_int, bin_add_tup, bin_add_lst, bin_sub, bin_mul, bin_fdiv, bin_mod, bin_pow, ord_int, ordI_lt, ordI_le, ordI_gt, ordI_ge, ix_tup, ix_lst, sl_tup, sl_lst, is_non, is_bl, isi_int, isi_bl, isi_str, isi_tup, isi_lst, isi_non, b_len, len_tup, len_lst, b_abs, b_int, b_int_bl, b_max2, b_min2, b_all, b_any, b_sum, b_tuple_lst, b_list_tup, b_repr, now_tup, now_lst, now_int, now_bl, new_f, new_t, walk_tup, walk_lst, zip_2, zip_3, src_tup, src_lst, rev_tup, rev_lst, bind_lst, enm_tup, enm_lst, put_at, ixN_32, ixN_31, ixN_30, r1]
  refine w_met (k + 3) g l1 l2 s1 s2 v1 v2 w1 w2 a0 a1 b0 b1 fun M' gr => ?_
  simp only [SG.wpSs, SG.wpS, wpE, wpL, wpO, wpC, wpI, startP, fnEnds, bind_nm, bind_tp, binds_nil, binds_nm, binds_tp, Option.bind_some, false_or, or_false, zipL3, zipL, enmL, cmp_eq_int, cmp_ne_int, cmp_eq_str, cmp_ne_str, cmp_lt, cmp_le, cmp_gt, cmp_ge, cmp_is, cmp_isnot, at_0, at_1, at_2, at_3, at_4, List.map_cons, List.map_nil, List.length_cons, List.length_nil, List.replicate, List.cons_append, List.nil_append, List.getElem?_cons_zero, List.getElem?_cons_succ, List.set_cons_zero, List.set_cons_succ, Option.some.injEq, exists_eq_left, exists_eq_left', exists_eq_right, exists_and_left, true_and, and_true, if_true, if_false, Bool.false_eq_true, reduceCtorEq, if_pos, if_neg, PV.int.injEq, PV.bl.injEq, PV.str.injEq, PV.tup.injEq, PV.lst.injEq, PV.ref.injEq, PV.fn.injEq, Nat.reduceAdd, Nat.reduceSub, Bool.not_true, Bool.not_false, and_self, Nat.add_zero, Nat.zero_add, Nat.sub_self, forall_const, cast_0, cast_1, cast_2, cast_3, cast_4, cast_5, cast_6, cast_7, cast_8, cast_9, Int.reduceLT, Int.reduceLE, Int.reduceNeg, decide_true, decide_false, Int.reduceEq, so_tup, so_lst, lo_lst, tru_non, tru_bl, tru_int, tru_tup, tru_lst, bin_add_int, bin_add_tup, bin_add_lst, bin_sub, bin_mul, bin_fdiv, bin_mod, bin_pow, ord_int, ordI_lt, ordI_le, ordI_gt, ordI_ge, ix_tup, ix_lst, sl_tup, sl_lst, is_non, is_bl, isi_int, isi_bl, isi_str, isi_tup, isi_lst, isi_non, b_len, len_tup, len_lst, b_abs, b_int, b_int_bl, b_max2, b_min2, b_all, b_any, b_sum, b_tuple_lst, b_list_tup, b_repr, now_tup, now_lst, now_int, now_bl, new_f, new_t, walk_tup, walk_lst, zip_2, zip_3, src_tup, src_lst, rev_tup, rev_lst, bind_lst, enm_tup, enm_lst, put_at, ixN_32, ixN_31, ixN_30, r2, w_meet k g, r1]
  exact q M' gr
structure Mem (ws : List Int) (c sorts : Int) (x : PV) : Prop where
  ex : ∃ s l v w, x = mem_ s (tri l v w) ∧ 0 ≤ s ∧ s < sorts ∧ -sz ws c ≤ v ∧ v ≤ sz ws c
theorem w_rightM (k : Nat) {ws : List Int} {c sorts : Int} (g : Good ws c) (hs : sorts ≤ 6) {x y : PV} (mx : Mem ws c sorts x) (my : Mem ws c sorts y) {M : Sto} {Q : Q1} (q : ∀ M', Grow M M' → Q (.bl true) M') : callN T (k + 8) "_law_is_right" [sum_ ws c, x, y] M Q := by
  obtain ⟨s1, l1, v1, w1, rfl, a0, a1, a2, a3⟩ := mx.ex
  obtain ⟨s2, l2, v2, w2, rfl, b0, b1, b2, b3⟩ := my.ex
  exact w_right k g l1 l2 s1 s2 v1 v2 w1 w2 a2 a3 b2 b3 a0 (by omega) b0 (by omega) q
theorem w_memberM (k : Nat) {h : Addr} {n sorts : Int} {ws : List Int} {c : Int} (g : Good ws c) {M : Sto} {Q : Q1} (hm : Hand M h n) (h4 : n < 4000) (hs1 : 1 ≤ sorts) (hs6 : sorts ≤ 6) (q : ∀ x M', Mem ws c sorts x → Hand M' h (n + 5) → Q x M') :
    callN T (k + 3) "_law_take" [.ref h, .int sorts] M fun v M1 => callN T (k + 3) "_law_member" [.ref h, .lst [sum_ ws c], v] M1 Q := by
  refine w_takeH (k + 2) hm (by omega) (by omega) (by omega) fun d M1 d0 d1 s1 => ?_
  exact w_member k g s1.hd (by omega) fun l v w M' v0 v1 hd => q _ M' ⟨d, l, v, w, rfl, d0, d1, v0, v1⟩ (hd.up (by omega))
theorem t6 (k : Nat) {h : Addr} {n sorts S : Int} {ws : List Int} {c : Int} {x0 x1 x6 x7 x8 x9 x10 x11 x12 x13 : Option PV} {M : Sto} {D : SG.Ends} (g : Good ws c) (hh : Hand M h n) (hn : n < 3000) (hs : 1 ≤ sorts) (hs6 : sorts ≤ 6)
    (q : ∀ x7 x8 M', Hand M' h (n + 10) → D.nx [x0, x1, some (.ref h), some (.int sorts), some (sum_ ws c), some (.int S), x6, x7, x8, x9, x10, x11, x12, x13] M') :
    SG.wpSs (callN T (k + 8)) b_law_L6 [x0, x1, some (.ref h), some (.int sorts), some (sum_ ws c), some (.int S), x6, x7, x8, x9, x10, x11, x12, x13] M D := by
  simp only [b_law_L6, SG.wpSs, SG.wpS, wpE, wpL, wpO, wpC, wpI, startP, fnEnds, bind_nm, bind_tp, binds_nil, binds_nm, binds_tp, Option.bind_some, false_or, or_false, zipL3, zipL, enmL, cmp_eq_int, cmp_ne_int, cmp_eq_str, cmp_ne_str, cmp_lt, cmp_le, cmp_gt, cmp_ge, cmp_is, cmp_isnot, at_0, at_1, at_2, at_3, at_4, List.map_cons, List.map_nil, List.length_cons, List.length_nil, List.replicate, List.cons_append, List.nil_append, List.getElem?_cons_zero, List.getElem?_cons_succ, List.set_cons_zero, List.set_cons_succ, Option.some.injEq, exists_eq_left, exists_eq_left', exists_eq_right, exists_and_left, true_and, and_true, if_true, if_false, Bool.false_eq_true, reduceCtorEq, if_pos, if_neg, PV.int.injEq, PV.bl.injEq, PV.str.injEq, PV.tup.injEq, PV.lst.injEq, PV.ref.injEq, PV.fn.injEq, Nat.reduceAdd, Nat.reduceSub, Bool.not_true, Bool.not_false, and_self, Nat.add_zero, Nat.zero_add, Nat.sub_self, forall_const, cast_0, cast_1, cast_2, cast_3, cast_4, cast_5, cast_6, cast_7, cast_8, cast_9, Int.reduceLT, Int.reduceLE, Int.reduceNeg, decide_true, decide_false, Int.reduceEq, so_tup, so_lst, lo_lst, tru_non, tru_bl, tru_int, tru_tup, tru_lst, bin_add_int, bin_add_tup, bin_add_lst, bin_sub, bin_mul, bin_fdiv, bin_mod, bin_pow, ord_int, ordI_lt, ordI_le, ordI_gt, ordI_ge, ix_tup, ix_lst, sl_tup, sl_lst, is_non, is_bl, isi_int, isi_bl, isi_str, isi_tup, isi_lst, isi_non, b_len, len_tup, len_lst, b_abs, b_int, b_int_bl, b_max2, b_min2, b_all, b_any, b_sum, b_tuple_lst, b_list_tup, b_repr, now_tup, now_lst, now_int, now_bl, new_f, new_t, walk_tup, walk_lst, zip_2, zip_3, src_tup, src_lst, rev_tup, rev_lst, bind_lst, enm_tup, enm_lst, put_at, ixN_32, ixN_31, ixN_30, rng_len]
  refine ⟨by decide, by decide, by decide, ?_⟩
  refine compL_cps (fun i acc M' => acc.length = i ∧ (∀ x ∈ acc, Mem ws c sorts x) ∧ i ≤ 2 ∧ Hand M' h (n + 5 * i)) _ [] 0 M ⟨rfl, fun x hx => (by cases hx), by decide, by simpa using hh⟩ ?_ (fun _ _ _ _ => trivial) ?_
  · rintro i x acc M2 cc hx ⟨hl, hm, hi, hd⟩ hc
    obtain ⟨rfl, hlt⟩ := rng0_get hx
    simp only [SG.wpSs, SG.wpS, wpE, wpL, wpO, wpC, wpI, startP, fnEnds, bind_nm, bind_tp, binds_nil, binds_nm, binds_tp, Option.bind_some, false_or, or_false, zipL3, zipL, enmL, cmp_eq_int, cmp_ne_int, cmp_eq_str, cmp_ne_str, cmp_lt, cmp_le, cmp_gt, cmp_ge, cmp_is, cmp_isnot, at_0, at_1, at_2, at_3, at_4, List.map_cons, List.map_nil, List.length_cons, List.length_nil, List.replicate, List.cons_append, List.nil_append, List.getElem?_cons_zero, List.getElem?_cons_succ, List.set_cons_zero, List.set_cons_succ, Option.some.injEq, exists_eq_left, exists_eq_left', exists_eq_right, exists_and_left, true_and, and_true, if_true, if_false, Bool.false_eq_true, reduceCtorEq, if_pos, if_neg, PV.int.injEq, PV.bl.injEq, PV.str.injEq, PV.tup.injEq, PV.lst.injEq, PV.ref.injEq, PV.fn.injEq, Nat.reduceAdd, Nat.reduceSub, Bool.not_true, Bool.not_false, and_self, Nat.add_zero, Nat.zero_add, Nat.sub_self, forall_const, cast_0, cast_1, cast_2, cast_3, cast_4, cast_5, cast_6, cast_7, cast_8, cast_9, Int.reduceLT, Int.reduceLE, Int.reduceNeg, decide_true, decide_false, Int.reduceEq, so_tup, so_lst, lo_lst, tru_non, tru_bl, tru_int, tru_tup, tru_lst, bin_add_int, bin_add_tup, bin_add_lst, bin_sub, bin_mul, bin_fdiv, bin_mod, bin_pow, ord_int, ordI_lt, ordI_le, ordI_gt, ordI_ge, ix_tup, ix_lst, sl_tup, sl_lst, is_non, is_bl, isi_int, isi_bl, isi_str, isi_tup, isi_lst, isi_non, b_len, len_tup, len_lst, b_abs, b_int, b_int_bl, b_max2, b_min2, b_all, b_any, b_sum, b_tuple_lst, b_list_tup, b_repr, now_tup, now_lst, now_int, now_bl, new_f, new_t, walk_tup, walk_lst, zip_2, zip_3, src_tup, src_lst, rev_tup, rev_lst, bind_lst, enm_tup, enm_lst, put_at, ixN_32, ixN_31, ixN_30] at hl hi hd hc ⊢
    refine w_memberM (k + 5) g hd (by omega) hs hs6 fun y M3 my hd3 => ?_
    refine hc (some y) M3 ⟨by simp [hl], fun z hz => ?_, by omega, hd3.up (by omega)⟩
    rcases List.mem_append.mp hz with e | e
    · exact hm z e
    · rw [List.mem_singleton.mp e]; exact my
  · rintro acc M2 ⟨hl, hm, hi, hd⟩
    rw [rng_len] at hl hd
    have hl2 : acc.length = 2 := hl
    match acc, hl2, hm with
    | [y, z], _, hm =>
      have my := hm y (by simp)
      have mz := hm z (by simp)
      simp only [SG.wpSs, SG.wpS, wpE, wpL, wpO, wpC, wpI, startP, fnEnds, bind_nm, bind_tp, binds_nil, binds_nm, binds_tp, Option.bind_some, false_or, or_false, zipL3, zipL, enmL, cmp_eq_int, cmp_ne_int, cmp_eq_str, cmp_ne_str, cmp_lt, cmp_le, cmp_gt, cmp_ge, cmp_is, cmp_isnot, at_0, at_1, at_2, at_3, at_4, List.map_cons, List.map_nil, List.length_cons, List.length_nil, List.replicate, List.cons_append, List.nil_append, List.getElem?_cons_zero, List.getElem?_cons_succ, List.set_cons_zero, List.set_cons_succ, Option.some.injEq, exists_eq_left, exists_eq_left', exists_eq_right, exists_and_left, true_and, and_true, if_true, if_false, Bool.false_eq_true, reduceCtorEq, if_pos, if_neg, PV.int.injEq, PV.bl.injEq, PV.str.injEq, PV.tup.injEq, PV.lst.injEq, PV.ref.injEq, PV.fn.injEq, Nat.reduceAdd, Nat.reduceSub, Bool.not_true, Bool.not_false, and_self, Nat.add_zero, Nat.zero_add, Nat.sub_self, forall_const, cast_0, cast_1, cast_2, cast_3, cast_4, cast_5, cast_6, cast_7, cast_8, cast_9, Int.reduceLT, Int.reduceLE, Int.reduceNeg, decide_true, decide_false, Int.reduceEq, so_tup, so_lst, lo_lst, tru_non, tru_bl, tru_int, tru_tup, tru_lst, bin_add_int, bin_add_tup, bin_add_lst, bin_sub, bin_mul, bin_fdiv, bin_mod, bin_pow, ord_int, ordI_lt, ordI_le, ordI_gt, ordI_ge, ix_tup, ix_lst, sl_tup, sl_lst, is_non, is_bl, isi_int, isi_bl, isi_str, isi_tup, isi_lst, isi_non, b_len, len_tup, len_lst, b_abs, b_int, b_int_bl, b_max2, b_min2, b_all, b_any, b_sum, b_tuple_lst, b_list_tup, b_repr, now_tup, now_lst, now_int, now_bl, new_f, new_t, walk_tup, walk_lst, zip_2, zip_3, src_tup, src_lst, rev_tup, rev_lst, bind_lst, enm_tup, enm_lst, put_at, ixN_32, ixN_31, ixN_30]
      refine w_rightM k g hs6 my mz fun M3 g3 => ?_
      simp only [SG.wpSs, SG.wpS, wpE, wpL, wpO, wpC, wpI, startP, fnEnds, bind_nm, bind_tp, binds_nil, binds_nm, binds_tp, Option.bind_some, false_or, or_false, zipL3, zipL, enmL, cmp_eq_int, cmp_ne_int, cmp_eq_str, cmp_ne_str, cmp_lt, cmp_le, cmp_gt, cmp_ge, cmp_is, cmp_isnot, at_0, at_1, at_2, at_3, at_4, List.map_cons, List.map_nil, List.length_cons, List.length_nil, List.replicate, List.cons_append, List.nil_append, List.getElem?_cons_zero, List.getElem?_cons_succ, List.set_cons_zero, List.set_cons_succ, Option.some.injEq, exists_eq_left, exists_eq_left', exists_eq_right, exists_and_left, true_and, and_true, if_true, if_false, Bool.false_eq_true, reduceCtorEq, if_pos, if_neg, PV.int.injEq, PV.bl.injEq, PV.str.injEq, PV.tup.injEq, PV.lst.injEq, PV.ref.injEq, PV.fn.injEq, Nat.reduceAdd, Nat.reduceSub, Bool.not_true, Bool.not_false, and_self, Nat.add_zero, Nat.zero_add, Nat.sub_self, forall_const, cast_0, cast_1, cast_2, cast_3, cast_4, cast_5, cast_6, cast_7, cast_8, cast_9, Int.reduceLT, Int.reduceLE, Int.reduceNeg, decide_true, decide_false, Int.reduceEq, so_tup, so_lst, lo_lst, tru_non, tru_bl, tru_int, tru_tup, tru_lst, bin_add_int, bin_add_tup, bin_add_lst, bin_sub, bin_mul, bin_fdiv, bin_mod, bin_pow, ord_int, ordI_lt, ordI_le, ordI_gt, ordI_ge, ix_tup, ix_lst, sl_tup, sl_lst, is_non, is_bl, isi_int, isi_bl, isi_str, isi_tup, isi_lst, isi_non, b_len, len_tup, len_lst, b_abs, b_int, b_int_bl, b_max2, b_min2, b_all, b_any, b_sum, b_tuple_lst, b_list_tup, b_repr, now_tup, now_lst, now_int, now_bl, new_f, new_t, walk_tup, walk_lst, zip_2, zip_3, src_tup, src_lst, rev_tup, rev_lst, bind_lst, enm_tup, enm_lst, put_at, ixN_32, ixN_31, ixN_30]
      refine w_rightM k g hs6 mz my fun M4 g4 => ?_
      simp only [SG.wpSs, SG.wpS, wpE, wpL, wpO, wpC, wpI, startP, fnEnds, bind_nm, bind_tp, binds_nil, binds_nm, binds_tp, Option.bind_some, false_or, or_false, zipL3, zipL, enmL, cmp_eq_int, cmp_ne_int, cmp_eq_str, cmp_ne_str, cmp_lt, cmp_le, cmp_gt, cmp_ge, cmp_is, cmp_isnot, at_0, at_1, at_2, at_3, at_4, List.map_cons, List.map_nil, List.length_cons, List.length_nil, List.replicate, List.cons_append, List.nil_append, List.getElem?_cons_zero, List.getElem?_cons_succ, List.set_cons_zero, List.set_cons_succ, Option.some.injEq, exists_eq_left, exists_eq_left', exists_eq_right, exists_and_left, true_and, and_true, if_true, if_false, Bool.false_eq_true, reduceCtorEq, if_pos, if_neg, PV.int.injEq, PV.bl.injEq, PV.str.injEq, PV.tup.injEq, PV.lst.injEq, PV.ref.injEq, PV.fn.injEq, Nat.reduceAdd, Nat.reduceSub, Bool.not_true, Bool.not_false, and_self, Nat.add_zero, Nat.zero_add, Nat.sub_self, forall_const, cast_0, cast_1, cast_2, cast_3, cast_4, cast_5, cast_6, cast_7, cast_8, cast_9, Int.reduceLT, Int.reduceLE, Int.reduceNeg, decide_true, decide_false, Int.reduceEq, so_tup, so_lst, lo_lst, tru_non, tru_bl, tru_int, tru_tup, tru_lst, bin_add_int, bin_add_tup, bin_add_lst, bin_sub, bin_mul, bin_fdiv, bin_mod, bin_pow, ord_int, ordI_lt, ordI_le, ordI_gt, ordI_ge, ix_tup, ix_lst, sl_tup, sl_lst, is_non, is_bl, isi_int, isi_bl, isi_str, isi_tup, isi_lst, isi_non, b_len, len_tup, len_lst, b_abs, b_int, b_int_bl, b_max2, b_min2, b_all, b_any, b_sum, b_tuple_lst, b_list_tup, b_repr, now_tup, now_lst, now_int, now_bl, new_f, new_t, walk_tup, walk_lst, zip_2, zip_3, src_tup, src_lst, rev_tup, rev_lst, bind_lst, enm_tup, enm_lst, put_at, ixN_32, ixN_31, ixN_30]
      exact q _ _ M4 (g4.hand (g3.hand (hd.up (by omega))))
end Zk17
namespace Zk17
open PySem SG
theorem rng2_get {lo hi : Int} {i : Nat} {x : PV} (h : (rngL lo hi)[i]? = some x) : x = .int (lo + (i : Int)) ∧ lo + (i : Int) < hi := by
  obtain ⟨h1, h2⟩ := SG.rng_get h
  exact ⟨h2, by omega⟩
theorem rng2_len (lo hi : Int) : (rngL lo hi).length = (hi - lo).toNat := by
  unfold rngL
  simp
theorem t14 (k : Nat) {sorts S : Int} {ws : List Int} {c : Int} {m o : PV} {x0 x1 x2 x6 x7 x9 x11 x12 x13 : Option PV} {M : Sto} {D : SG.Ends} (g : Good ws c) (hs6 : sorts ≤ 6) (hm : Mem ws c sorts m) (ho : Mem ws c sorts o)
    (q : ∀ M', Grow M M' → D.nx [x0, x1, x2, some (.int sorts), some (sum_ ws c), some (.int S), x6, x7, some o, x9, some m, x11, x12, x13] M') :
    SG.wpSs (callN T (k + 8)) b_law_L14 [x0, x1, x2, some (.int sorts), some (sum_ ws c), some (.int S), x6, x7, some o, x9, some m, x11, x12, x13] M D := by
  simp only [b_law_L14, SG.wpSs, SG.wpS, wpE, wpL, wpO, wpC, wpI, startP, fnEnds, bind_nm, bind_tp, binds_nil, binds_nm, binds_tp, Option.bind_some, false_or, or_false, zipL3, zipL, enmL, cmp_eq_int, cmp_ne_int, cmp_eq_str, cmp_ne_str, cmp_lt, cmp_le, cmp_gt, cmp_ge, cmp_is, cmp_isnot, at_0, at_1, at_2, at_3, at_4, List.map_cons, List.map_nil, List.length_cons, List.length_nil, List.replicate, List.cons_append, List.nil_append, List.getElem?_cons_zero, List.getElem?_cons_succ, List.set_cons_zero, List.set_cons_succ, Option.some.injEq, exists_eq_left, exists_eq_left', exists_eq_right, exists_and_left, true_and, and_true, if_true, if_false, Bool.false_eq_true, reduceCtorEq, if_pos, if_neg, PV.int.injEq, PV.bl.injEq, PV.str.injEq, PV.tup.injEq, PV.lst.injEq, PV.ref.injEq, PV.fn.injEq, Nat.reduceAdd, Nat.reduceSub, Bool.not_true, Bool.not_false, and_self, Nat.add_zero, Nat.zero_add, Nat.sub_self, forall_const, cast_0, cast_1, cast_2, cast_3, cast_4, cast_5, cast_6, cast_7, cast_8, cast_9, Int.reduceLT, Int.reduceLE, Int.reduceNeg, decide_true, decide_false, Int.reduceEq, so_tup, so_lst, lo_lst, tru_non, tru_bl, tru_int, tru_tup, tru_lst, bin_add_int, bin_add_tup, bin_add_lst, bin_sub, bin_mul, bin_fdiv, bin_mod, bin_pow, ord_int, ordI_lt, ordI_le, ordI_gt, ordI_ge, ix_tup, ix_lst, sl_tup, sl_lst, is_non, is_bl, isi_int, isi_bl, isi_str, isi_tup, isi_lst, isi_non, b_len, len_tup, len_lst, b_abs, b_int, b_int_bl, b_max2, b_min2, b_all, b_any, b_sum, b_tuple_lst, b_list_tup, b_repr, now_tup, now_lst, now_int, now_bl, new_f, new_t, walk_tup, walk_lst, zip_2, zip_3, src_tup, src_lst, rev_tup, rev_lst, bind_lst, enm_tup, enm_lst, put_at, ixN_32, ixN_31, ixN_30]
  refine w_rightM k g hs6 hm ho fun M3 g3 => ?_
  simp only [SG.wpSs, SG.wpS, wpE, wpL, wpO, wpC, wpI, startP, fnEnds, bind_nm, bind_tp, binds_nil, binds_nm, binds_tp, Option.bind_some, false_or, or_false, zipL3, zipL, enmL, cmp_eq_int, cmp_ne_int, cmp_eq_str, cmp_ne_str, cmp_lt, cmp_le, cmp_gt, cmp_ge, cmp_is, cmp_isnot, at_0, at_1, at_2, at_3, at_4, List.map_cons, List.map_nil, List.length_cons, List.length_nil, List.replicate, List.cons_append, List.nil_append, List.getElem?_cons_zero, List.getElem?_cons_succ, List.set_cons_zero, List.set_cons_succ, Option.some.injEq, exists_eq_left, exists_eq_left', exists_eq_right, exists_and_left, true_and, and_true, if_true, if_false, Bool.false_eq_true, reduceCtorEq, if_pos, if_neg, PV.int.injEq, PV.bl.injEq, PV.str.injEq, PV.tup.injEq, PV.lst.injEq, PV.ref.injEq, PV.fn.injEq, Nat.reduceAdd, Nat.reduceSub, Bool.not_true, Bool.not_false, and_self, Nat.add_zero, Nat.zero_add, Nat.sub_self, forall_const, cast_0, cast_1, cast_2, cast_3, cast_4, cast_5, cast_6, cast_7, cast_8, cast_9, Int.reduceLT, Int.reduceLE, Int.reduceNeg, decide_true, decide_false, Int.reduceEq, so_tup, so_lst, lo_lst, tru_non, tru_bl, tru_int, tru_tup, tru_lst, bin_add_int, bin_add_tup, bin_add_lst, bin_sub, bin_mul, bin_fdiv, bin_mod, bin_pow, ord_int, ordI_lt, ordI_le, ordI_gt, ordI_ge, ix_tup, ix_lst, sl_tup, sl_lst, is_non, is_bl, isi_int, isi_bl, isi_str, isi_tup, isi_lst, isi_non, b_len, len_tup, len_lst, b_abs, b_int, b_int_bl, b_max2, b_min2, b_all, b_any, b_sum, b_tuple_lst, b_list_tup, b_repr, now_tup, now_lst, now_int, now_bl, new_f, new_t, walk_tup, walk_lst, zip_2, zip_3, src_tup, src_lst, rev_tup, rev_lst, bind_lst, enm_tup, enm_lst, put_at, ixN_32, ixN_31, ixN_30]
  refine w_rightM k g hs6 ho hm fun M4 g4 => ?_
  simp only [SG.wpSs, SG.wpS, wpE, wpL, wpO, wpC, wpI, startP, fnEnds, bind_nm, bind_tp, binds_nil, binds_nm, binds_tp, Option.bind_some, false_or, or_false, zipL3, zipL, enmL, cmp_eq_int, cmp_ne_int, cmp_eq_str, cmp_ne_str, cmp_lt, cmp_le, cmp_gt, cmp_ge, cmp_is, cmp_isnot, at_0, at_1, at_2, at_3, at_4, List.map_cons, List.map_nil, List.length_cons, List.length_nil, List.replicate, List.cons_append, List.nil_append, List.getElem?_cons_zero, List.getElem?_cons_succ, List.set_cons_zero, List.set_cons_succ, Option.some.injEq, exists_eq_left, exists_eq_left', exists_eq_right, exists_and_left, true_and, and_true, if_true, if_false, Bool.false_eq_true, reduceCtorEq, if_pos, if_neg, PV.int.injEq, PV.bl.injEq, PV.str.injEq, PV.tup.injEq, PV.lst.injEq, PV.ref.injEq, PV.fn.injEq, Nat.reduceAdd, Nat.reduceSub, Bool.not_true, Bool.not_false, and_self, Nat.add_zero, Nat.zero_add, Nat.sub_self, forall_const, cast_0, cast_1, cast_2, cast_3, cast_4, cast_5, cast_6, cast_7, cast_8, cast_9, Int.reduceLT, Int.reduceLE, Int.reduceNeg, decide_true, decide_false, Int.reduceEq, so_tup, so_lst, lo_lst, tru_non, tru_bl, tru_int, tru_tup, tru_lst, bin_add_int, bin_add_tup, bin_add_lst, bin_sub, bin_mul, bin_fdiv, bin_mod, bin_pow, ord_int, ordI_lt, ordI_le, ordI_gt, ordI_ge, ix_tup, ix_lst, sl_tup, sl_lst, is_non, is_bl, isi_int, isi_bl, isi_str, isi_tup, isi_lst, isi_non, b_len, len_tup, len_lst, b_abs, b_int, b_int_bl, b_max2, b_min2, b_all, b_any, b_sum, b_tuple_lst, b_list_tup, b_repr, now_tup, now_lst, now_int, now_bl, new_f, new_t, walk_tup, walk_lst, zip_2, zip_3, src_tup, src_lst, rev_tup, rev_lst, bind_lst, enm_tup, enm_lst, put_at, ixN_32, ixN_31, ixN_30]
  refine q M4 fun t ht => ?_
  have e3 := g3 t ht
  exact (g4 t (by rw [e3]; exact ht)).trans e3
theorem t11 (k : Nat) {h : Addr} {n sorts v S : Int} {ws : List Int} {c : Int} {m : PV} {x0 x1 x6 x7 x8 x9 x12 x13 : Option PV} {M : Sto} {D : SG.Ends} (g : Good ws c) (hh : Hand M h n) (hn : n < 3000) (hs : 1 ≤ sorts) (hs6 : sorts ≤ 6) (hm : Mem ws c sorts m) (v0 : -sz ws c ≤ v) (v1 : v ≤ sz ws c)
    (q : ∀ x8 x12 x13 M', Hand M' h (n + 3) → D.nx [x0, x1, some (.ref h), some (.int sorts), some (sum_ ws c), some (.int S), x6, x7, x8, x9, some m, some (.int v), x12, x13] M') :
    SG.wpSs (callN T (k + 8)) b_law_L11 [x0, x1, some (.ref h), some (.int sorts), some (sum_ ws c), some (.int S), x6, x7, x8, x9, some m, some (.int v), x12, x13] M D := by
  simp only [b_law_L11, SG.wpSs, SG.wpS, wpE, wpL, wpO, wpC, wpI, startP, fnEnds, bind_nm, bind_tp, binds_nil, binds_nm, binds_tp, Option.bind_some, false_or, or_false, zipL3, zipL, enmL, cmp_eq_int, cmp_ne_int, cmp_eq_str, cmp_ne_str, cmp_lt, cmp_le, cmp_gt, cmp_ge, cmp_is, cmp_isnot, at_0, at_1, at_2, at_3, at_4, List.map_cons, List.map_nil, List.length_cons, List.length_nil, List.replicate, List.cons_append, List.nil_append, List.getElem?_cons_zero, List.getElem?_cons_succ, List.set_cons_zero, List.set_cons_succ, Option.some.injEq, exists_eq_left, exists_eq_left', exists_eq_right, exists_and_left, true_and, and_true, if_true, if_false, Bool.false_eq_true, reduceCtorEq, if_pos, if_neg, PV.int.injEq, PV.bl.injEq, PV.str.injEq, PV.tup.injEq, PV.lst.injEq, PV.ref.injEq, PV.fn.injEq, Nat.reduceAdd, Nat.reduceSub, Bool.not_true, Bool.not_false, and_self, Nat.add_zero, Nat.zero_add, Nat.sub_self, forall_const, cast_0, cast_1, cast_2, cast_3, cast_4, cast_5, cast_6, cast_7, cast_8, cast_9, Int.reduceLT, Int.reduceLE, Int.reduceNeg, decide_true, decide_false, Int.reduceEq, so_tup, so_lst, lo_lst, tru_non, tru_bl, tru_int, tru_tup, tru_lst, bin_add_int, bin_add_tup, bin_add_lst, bin_sub, bin_mul, bin_fdiv, bin_mod, bin_pow, ord_int, ordI_lt, ordI_le, ordI_gt, ordI_ge, ix_tup, ix_lst, sl_tup, sl_lst, is_non, is_bl, isi_int, isi_bl, isi_str, isi_tup, isi_lst, isi_non, b_len, len_tup, len_lst, b_abs, b_int, b_int_bl, b_max2, b_min2, b_all, b_any, b_sum, b_tuple_lst, b_list_tup, b_repr, now_tup, now_lst, now_int, now_bl, new_f, new_t, walk_tup, walk_lst, zip_2, zip_3, src_tup, src_lst, rev_tup, rev_lst, bind_lst, enm_tup, enm_lst, put_at, ixN_32, ixN_31, ixN_30, forL, w_lsays]
  refine w_takeH (k + 7) hh (by omega) (by omega) (by omega) fun d M1 d0 d1 s1 => ?_
  refine w_takeH (k + 7) s1.hd (by omega) (by omega) (by omega) fun e M2 e0 e1 s2 => ?_
  refine w_takeH (k + 7) s2.hd (by omega) (by omega) (by omega) fun f M3 f0 f1 s3 => ?_
  simp only [SG.wpSs, SG.wpS, wpE, wpL, wpO, wpC, wpI, startP, fnEnds, bind_nm, bind_tp, binds_nil, binds_nm, binds_tp, Option.bind_some, false_or, or_false, zipL3, zipL, enmL, cmp_eq_int, cmp_ne_int, cmp_eq_str, cmp_ne_str, cmp_lt, cmp_le, cmp_gt, cmp_ge, cmp_is, cmp_isnot, at_0, at_1, at_2, at_3, at_4, List.map_cons, List.map_nil, List.length_cons, List.length_nil, List.replicate, List.cons_append, List.nil_append, List.getElem?_cons_zero, List.getElem?_cons_succ, List.set_cons_zero, List.set_cons_succ, Option.some.injEq, exists_eq_left, exists_eq_left', exists_eq_right, exists_and_left, true_and, and_true, if_true, if_false, Bool.false_eq_true, reduceCtorEq, if_pos, if_neg, PV.int.injEq, PV.bl.injEq, PV.str.injEq, PV.tup.injEq, PV.lst.injEq, PV.ref.injEq, PV.fn.injEq, Nat.reduceAdd, Nat.reduceSub, Bool.not_true, Bool.not_false, and_self, Nat.add_zero, Nat.zero_add, Nat.sub_self, forall_const, cast_0, cast_1, cast_2, cast_3, cast_4, cast_5, cast_6, cast_7, cast_8, cast_9, Int.reduceLT, Int.reduceLE, Int.reduceNeg, decide_true, decide_false, Int.reduceEq, so_tup, so_lst, lo_lst, tru_non, tru_bl, tru_int, tru_tup, tru_lst, bin_add_int, bin_add_tup, bin_add_lst, bin_sub, bin_mul, bin_fdiv, bin_mod, bin_pow, ord_int, ordI_lt, ordI_le, ordI_gt, ordI_ge, ix_tup, ix_lst, sl_tup, sl_lst, is_non, is_bl, isi_int, isi_bl, isi_str, isi_tup, isi_lst, isi_non, b_len, len_tup, len_lst, b_abs, b_int, b_int_bl, b_max2, b_min2, b_all, b_any, b_sum, b_tuple_lst, b_list_tup, b_repr, now_tup, now_lst, now_int, now_bl, new_f, new_t, walk_tup, walk_lst, zip_2, zip_3, src_tup, src_lst, rev_tup, rev_lst, bind_lst, enm_tup, enm_lst, put_at, ixN_32, ixN_31, ixN_30]
  refine t14 k g hs6 hm ⟨d, true, v, _, rfl, d0, d1, v0, v1⟩ fun M4 g4 => ?_
  simp only [SG.wpSs, SG.wpS, wpE, wpL, wpO, wpC, wpI, startP, fnEnds, bind_nm, bind_tp, binds_nil, binds_nm, binds_tp, Option.bind_some, false_or, or_false, zipL3, zipL, enmL, cmp_eq_int, cmp_ne_int, cmp_eq_str, cmp_ne_str, cmp_lt, cmp_le, cmp_gt, cmp_ge, cmp_is, cmp_isnot, at_0, at_1, at_2, at_3, at_4, List.map_cons, List.map_nil, List.length_cons, List.length_nil, List.replicate, List.cons_append, List.nil_append, List.getElem?_cons_zero, List.getElem?_cons_succ, List.set_cons_zero, List.set_cons_succ, Option.some.injEq, exists_eq_left, exists_eq_left', exists_eq_right, exists_and_left, true_and, and_true, if_true, if_false, Bool.false_eq_true, reduceCtorEq, if_pos, if_neg, PV.int.injEq, PV.bl.injEq, PV.str.injEq, PV.tup.injEq, PV.lst.injEq, PV.ref.injEq, PV.fn.injEq, Nat.reduceAdd, Nat.reduceSub, Bool.not_true, Bool.not_false, and_self, Nat.add_zero, Nat.zero_add, Nat.sub_self, forall_const, cast_0, cast_1, cast_2, cast_3, cast_4, cast_5, cast_6, cast_7, cast_8, cast_9, Int.reduceLT, Int.reduceLE, Int.reduceNeg, decide_true, decide_false, Int.reduceEq, so_tup, so_lst, lo_lst, tru_non, tru_bl, tru_int, tru_tup, tru_lst, bin_add_int, bin_add_tup, bin_add_lst, bin_sub, bin_mul, bin_fdiv, bin_mod, bin_pow, ord_int, ordI_lt, ordI_le, ordI_gt, ordI_ge, ix_tup, ix_lst, sl_tup, sl_lst, is_non, is_bl, isi_int, isi_bl, isi_str, isi_tup, isi_lst, isi_non, b_len, len_tup, len_lst, b_abs, b_int, b_int_bl, b_max2, b_min2, b_all, b_any, b_sum, b_tuple_lst, b_list_tup, b_repr, now_tup, now_lst, now_int, now_bl, new_f, new_t, walk_tup, walk_lst, zip_2, zip_3, src_tup, src_lst, rev_tup, rev_lst, bind_lst, enm_tup, enm_lst, put_at, ixN_32, ixN_31, ixN_30]
  refine t14 k g hs6 hm ⟨e, false, v, _, rfl, e0, e1, v0, v1⟩ fun M5 g5 => ?_
  exact q _ _ _ M5 (g5.hand (g4.hand (s3.hd.up (by omega))))
theorem k17 (k : Nat) (ns : List Int) (hl : ns.length ≤ 63) : callN T (k + 9) "law" [.lst (ns.map .int)] noSto (fun v _ => v = .bl true) := by
  rw [call_law]
  simp only [b_law, SG.wpSs, SG.wpS, wpE, wpL, wpO, wpC, wpI, startP, fnEnds, bind_nm, bind_tp, binds_nil, binds_nm, binds_tp, Option.bind_some, false_or, or_false, zipL3, zipL, enmL, cmp_eq_int, cmp_ne_int, cmp_eq_str, cmp_ne_str, cmp_lt, cmp_le, cmp_gt, cmp_ge, cmp_is, cmp_isnot, at_0, at_1, at_2, at_3, at_4, List.map_cons, List.map_nil, List.length_cons, List.length_nil, List.replicate, List.cons_append, List.nil_append, List.getElem?_cons_zero, List.getElem?_cons_succ, List.set_cons_zero, List.set_cons_succ, Option.some.injEq, exists_eq_left, exists_eq_left', exists_eq_right, exists_and_left, true_and, and_true, if_true, if_false, Bool.false_eq_true, reduceCtorEq, if_pos, if_neg, PV.int.injEq, PV.bl.injEq, PV.str.injEq, PV.tup.injEq, PV.lst.injEq, PV.ref.injEq, PV.fn.injEq, Nat.reduceAdd, Nat.reduceSub, Bool.not_true, Bool.not_false, and_self, Nat.add_zero, Nat.zero_add, Nat.sub_self, forall_const, cast_0, cast_1, cast_2, cast_3, cast_4, cast_5, cast_6, cast_7, cast_8, cast_9, Int.reduceLT, Int.reduceLE, Int.reduceNeg, decide_true, decide_false, Int.reduceEq, so_tup, so_lst, lo_lst, tru_non, tru_bl, tru_int, tru_tup, tru_lst, bin_add_int, bin_add_tup, bin_add_lst, bin_sub, bin_mul, bin_fdiv, bin_mod, bin_pow, ord_int, ordI_lt, ordI_le, ordI_gt, ordI_ge, ix_tup, ix_lst, sl_tup, sl_lst, is_non, is_bl, isi_int, isi_bl, isi_str, isi_tup, isi_lst, isi_non, b_len, len_tup, len_lst, b_abs, b_int, b_int_bl, b_max2, b_min2, b_all, b_any, b_sum, b_tuple_lst, b_list_tup, b_repr, now_tup, now_lst, now_int, now_bl, new_f, new_t, walk_tup, walk_lst, zip_2, zip_3, src_tup, src_lst, rev_tup, rev_lst, bind_lst, enm_tup, enm_lst, put_at, ixN_32, ixN_31, ixN_30, List.length_map]
  generalize hN : (if (if (ns.length : Int) < 3 then (ns.length : Int) else 3) > 1 then if (ns.length : Int) < 3 then (ns.length : Int) else 3 else 1) = N
  have hN2 : 0 ≤ N ∧ N ≤ 3 := by
    rw [← hN]
    split
    · split <;> omega
    · omega
  refine ⟨by omega, by omega, ?_⟩
  refine forL_cps (fun i ρ M' => ∃ x1 x2 x3 x4 x5 x6 x7 x8 x9 x10 x11 x12 x13, ρ = [some (.lst (ns.map .int)), x1, x2, x3, x4, x5, x6, x7, x8, x9, x10, x11, x12, x13]) _ 0 _ noSto ⟨_, _, _, _, _, _, _, _, _, _, _, _, _, rfl⟩ ?_ (fun _ _ _ _ => trivial) ?_
  · rintro i x ρ M1 cc hx ⟨x1, x2, x3, x4, x5, x6, x7, x8, x9, x10, x11, x12, x13, rfl⟩ hc
    obtain ⟨rfl, hlt⟩ := rng0_get hx
    simp only [b_law_L1, SG.wpSs, SG.wpS, wpE, wpL, wpO, wpC, wpI, startP, fnEnds, bind_nm, bind_tp, binds_nil, binds_nm, binds_tp, Option.bind_some, false_or, or_false, zipL3, zipL, enmL, cmp_eq_int, cmp_ne_int, cmp_eq_str, cmp_ne_str, cmp_lt, cmp_le, cmp_gt, cmp_ge, cmp_is, cmp_isnot, at_0, at_1, at_2, at_3, at_4, List.map_cons, List.map_nil, List.length_cons, List.length_nil, List.replicate, List.cons_append, List.nil_append, List.getElem?_cons_zero, List.getElem?_cons_succ, List.set_cons_zero, List.set_cons_succ, Option.some.injEq, exists_eq_left, exists_eq_left', exists_eq_right, exists_and_left, true_and, and_true, if_true, if_false, Bool.false_eq_true, reduceCtorEq, if_pos, if_neg, PV.int.injEq, PV.bl.injEq, PV.str.injEq, PV.tup.injEq, PV.lst.injEq, PV.ref.injEq, PV.fn.injEq, Nat.reduceAdd, Nat.reduceSub, Bool.not_true, Bool.not_false, and_self, Nat.add_zero, Nat.zero_add, Nat.sub_self, forall_const, cast_0, cast_1, cast_2, cast_3, cast_4, cast_5, cast_6, cast_7, cast_8, cast_9, Int.reduceLT, Int.reduceLE, Int.reduceNeg, decide_true, decide_false, Int.reduceEq, so_tup, so_lst, lo_lst, tru_non, tru_bl, tru_int, tru_tup, tru_lst, bin_add_int, bin_add_tup, bin_add_lst, bin_sub, bin_mul, bin_fdiv, bin_mod, bin_pow, ord_int, ordI_lt, ordI_le, ordI_gt, ordI_ge, ix_tup, ix_lst, sl_tup, sl_lst, is_non, is_bl, isi_int, isi_bl, isi_str, isi_tup, isi_lst, isi_non, b_len, len_tup, len_lst, b_abs, b_int, b_int_bl, b_max2, b_min2, b_all, b_any, b_sum, b_tuple_lst, b_list_tup, b_repr, now_tup, now_lst, now_int, now_bl, new_f, new_t, walk_tup, walk_lst, zip_2, zip_3, src_tup, src_lst, rev_tup, rev_lst, bind_lst, enm_tup, enm_lst, put_at, ixN_32, ixN_31, ixN_30]
    refine w_hand (k + 7) ns _ (by omega) fun h a b hp => ?_
    have hh : Hand (M1.put h (hand a b 0)) h 0 := ⟨a, b, 0, put_at _ _ _, by decide, by decide⟩
    refine w_takeH (k + 7) hh (by decide) (by decide) (by decide) fun d M2 d0 d1 st => ?_
    simp only [SG.wpSs, SG.wpS, wpE, wpL, wpO, wpC, wpI, startP, fnEnds, bind_nm, bind_tp, binds_nil, binds_nm, binds_tp, Option.bind_some, false_or, or_false, zipL3, zipL, enmL, cmp_eq_int, cmp_ne_int, cmp_eq_str, cmp_ne_str, cmp_lt, cmp_le, cmp_gt, cmp_ge, cmp_is, cmp_isnot, at_0, at_1, at_2, at_3, at_4, List.map_cons, List.map_nil, List.length_cons, List.length_nil, List.replicate, List.cons_append, List.nil_append, List.getElem?_cons_zero, List.getElem?_cons_succ, List.set_cons_zero, List.set_cons_succ, Option.some.injEq, exists_eq_left, exists_eq_left', exists_eq_right, exists_and_left, true_and, and_true, if_true, if_false, Bool.false_eq_true, reduceCtorEq, if_pos, if_neg, PV.int.injEq, PV.bl.injEq, PV.str.injEq, PV.tup.injEq, PV.lst.injEq, PV.ref.injEq, PV.fn.injEq, Nat.reduceAdd, Nat.reduceSub, Bool.not_true, Bool.not_false, and_self, Nat.add_zero, Nat.zero_add, Nat.sub_self, forall_const, cast_0, cast_1, cast_2, cast_3, cast_4, cast_5, cast_6, cast_7, cast_8, cast_9, Int.reduceLT, Int.reduceLE, Int.reduceNeg, decide_true, decide_false, Int.reduceEq, so_tup, so_lst, lo_lst, tru_non, tru_bl, tru_int, tru_tup, tru_lst, bin_add_int, bin_add_tup, bin_add_lst, bin_sub, bin_mul, bin_fdiv, bin_mod, bin_pow, ord_int, ordI_lt, ordI_le, ordI_gt, ordI_ge, ix_tup, ix_lst, sl_tup, sl_lst, is_non, is_bl, isi_int, isi_bl, isi_str, isi_tup, isi_lst, isi_non, b_len, len_tup, len_lst, b_abs, b_int, b_int_bl, b_max2, b_min2, b_all, b_any, b_sum, b_tuple_lst, b_list_tup, b_repr, now_tup, now_lst, now_int, now_bl, new_f, new_t, walk_tup, walk_lst, zip_2, zip_3, src_tup, src_lst, rev_tup, rev_lst, bind_lst, enm_tup, enm_lst, put_at, ixN_32, ixN_31, ixN_30]
    refine w_sum (k + 4) st.hd (by omega) (by omega) (by omega) fun ws c M3 g st3 => ?_
    have hs := sz_bd g
    simp only [SG.wpSs, SG.wpS, wpE, wpL, wpO, wpC, wpI, startP, fnEnds, bind_nm, bind_tp, binds_nil, binds_nm, binds_tp, Option.bind_some, false_or, or_false, zipL3, zipL, enmL, cmp_eq_int, cmp_ne_int, cmp_eq_str, cmp_ne_str, cmp_lt, cmp_le, cmp_gt, cmp_ge, cmp_is, cmp_isnot, at_0, at_1, at_2, at_3, at_4, List.map_cons, List.map_nil, List.length_cons, List.length_nil, List.replicate, List.cons_append, List.nil_append, List.getElem?_cons_zero, List.getElem?_cons_succ, List.set_cons_zero, List.set_cons_succ, Option.some.injEq, exists_eq_left, exists_eq_left', exists_eq_right, exists_and_left, true_and, and_true, if_true, if_false, Bool.false_eq_true, reduceCtorEq, if_pos, if_neg, PV.int.injEq, PV.bl.injEq, PV.str.injEq, PV.tup.injEq, PV.lst.injEq, PV.ref.injEq, PV.fn.injEq, Nat.reduceAdd, Nat.reduceSub, Bool.not_true, Bool.not_false, and_self, Nat.add_zero, Nat.zero_add, Nat.sub_self, forall_const, cast_0, cast_1, cast_2, cast_3, cast_4, cast_5, cast_6, cast_7, cast_8, cast_9, Int.reduceLT, Int.reduceLE, Int.reduceNeg, decide_true, decide_false, Int.reduceEq, so_tup, so_lst, lo_lst, tru_non, tru_bl, tru_int, tru_tup, tru_lst, bin_add_int, bin_add_tup, bin_add_lst, bin_sub, bin_mul, bin_fdiv, bin_mod, bin_pow, ord_int, ordI_lt, ordI_le, ordI_gt, ordI_ge, ix_tup, ix_lst, sl_tup, sl_lst, is_non, is_bl, isi_int, isi_bl, isi_str, isi_tup, isi_lst, isi_non, b_len, len_tup, len_lst, b_abs, b_int, b_int_bl, b_max2, b_min2, b_all, b_any, b_sum, b_tuple_lst, b_list_tup, b_repr, now_tup, now_lst, now_int, now_bl, new_f, new_t, walk_tup, walk_lst, zip_2, zip_3, src_tup, src_lst, rev_tup, rev_lst, bind_lst, enm_tup, enm_lst, put_at, ixN_32, ixN_31, ixN_30, w_size (k + 7) g]
    refine ⟨by decide, by decide, ?_⟩
    refine forL_cps (fun j ρ M' => (∃ x6 x7 x8 x9 x10 x11 x12 x13, ρ = [some (.lst (ns.map .int)), some (.int (i : Int)), some (.ref h), some (.int (1 + d)), some (sum_ ws c), some (.int (sz ws c)), x6, x7, x8, x9, x10, x11, x12, x13]) ∧ j ≤ 30 ∧ Hand M' h (21 + 10 * j)) _ 0 _ M3 ⟨⟨_, _, _, _, _, _, _, _, rfl⟩, by decide, st3.hd.up (by omega)⟩ ?_ (fun _ _ _ _ => trivial) ?_
    · rintro j y ρ M4 c2 hy ⟨⟨y6, y7, y8, y9, y10, y11, y12, y13, rfl⟩, hi, hd⟩ hc2
      obtain ⟨rfl, hlt2⟩ := rng0_get hy
      simp only [SG.wpSs, SG.wpS, wpE, wpL, wpO, wpC, wpI, startP, fnEnds, bind_nm, bind_tp, binds_nil, binds_nm, binds_tp, Option.bind_some, false_or, or_false, zipL3, zipL, enmL, cmp_eq_int, cmp_ne_int, cmp_eq_str, cmp_ne_str, cmp_lt, cmp_le, cmp_gt, cmp_ge, cmp_is, cmp_isnot, at_0, at_1, at_2, at_3, at_4, List.map_cons, List.map_nil, List.length_cons, List.length_nil, List.replicate, List.cons_append, List.nil_append, List.getElem?_cons_zero, List.getElem?_cons_succ, List.set_cons_zero, List.set_cons_succ, Option.some.injEq, exists_eq_left, exists_eq_left', exists_eq_right, exists_and_left, true_and, and_true, if_true, if_false, Bool.false_eq_true, reduceCtorEq, if_pos, if_neg, PV.int.injEq, PV.bl.injEq, PV.str.injEq, PV.tup.injEq, PV.lst.injEq, PV.ref.injEq, PV.fn.injEq, Nat.reduceAdd, Nat.reduceSub, Bool.not_true, Bool.not_false, and_self, Nat.add_zero, Nat.zero_add, Nat.sub_self, forall_const, cast_0, cast_1, cast_2, cast_3, cast_4, cast_5, cast_6, cast_7, cast_8, cast_9, Int.reduceLT, Int.reduceLE, Int.reduceNeg, decide_true, decide_false, Int.reduceEq, so_tup, so_lst, lo_lst, tru_non, tru_bl, tru_int, tru_tup, tru_lst, bin_add_int, bin_add_tup, bin_add_lst, bin_sub, bin_mul, bin_fdiv, bin_mod, bin_pow, ord_int, ordI_lt, ordI_le, ordI_gt, ordI_ge, ix_tup, ix_lst, sl_tup, sl_lst, is_non, is_bl, isi_int, isi_bl, isi_str, isi_tup, isi_lst, isi_non, b_len, len_tup, len_lst, b_abs, b_int, b_int_bl, b_max2, b_min2, b_all, b_any, b_sum, b_tuple_lst, b_list_tup, b_repr, now_tup, now_lst, now_int, now_bl, new_f, new_t, walk_tup, walk_lst, zip_2, zip_3, src_tup, src_lst, rev_tup, rev_lst, bind_lst, enm_tup, enm_lst, put_at, ixN_32, ixN_31, ixN_30] at hi hd hc2 ⊢
      refine t6 k g hd (by omega) (by omega) (by omega) fun z7 z8 M5 hd2 => hc2 _ M5 ⟨⟨_, _, _, _, _, _, _, _, rfl⟩, by omega, hd2.up (by omega)⟩
    · rintro ρ M4 ⟨⟨y6, y7, y8, y9, y10, y11, y12, y13, rfl⟩, hi, hd⟩
      rw [rng_len] at hi hd
      simp only [SG.wpSs, SG.wpS, wpE, wpL, wpO, wpC, wpI, startP, fnEnds, bind_nm, bind_tp, binds_nil, binds_nm, binds_tp, Option.bind_some, false_or, or_false, zipL3, zipL, enmL, cmp_eq_int, cmp_ne_int, cmp_eq_str, cmp_ne_str, cmp_lt, cmp_le, cmp_gt, cmp_ge, cmp_is, cmp_isnot, at_0, at_1, at_2, at_3, at_4, List.map_cons, List.map_nil, List.length_cons, List.length_nil, List.replicate, List.cons_append, List.nil_append, List.getElem?_cons_zero, List.getElem?_cons_succ, List.set_cons_zero, List.set_cons_succ, Option.some.injEq, exists_eq_left, exists_eq_left', exists_eq_right, exists_and_left, true_and, and_true, if_true, if_false, Bool.false_eq_true, reduceCtorEq, if_pos, if_neg, PV.int.injEq, PV.bl.injEq, PV.str.injEq, PV.tup.injEq, PV.lst.injEq, PV.ref.injEq, PV.fn.injEq, Nat.reduceAdd, Nat.reduceSub, Bool.not_true, Bool.not_false, and_self, Nat.add_zero, Nat.zero_add, Nat.sub_self, forall_const, cast_0, cast_1, cast_2, cast_3, cast_4, cast_5, cast_6, cast_7, cast_8, cast_9, Int.reduceLT, Int.reduceLE, Int.reduceNeg, decide_true, decide_false, Int.reduceEq, so_tup, so_lst, lo_lst, tru_non, tru_bl, tru_int, tru_tup, tru_lst, bin_add_int, bin_add_tup, bin_add_lst, bin_sub, bin_mul, bin_fdiv, bin_mod, bin_pow, ord_int, ordI_lt, ordI_le, ordI_gt, ordI_ge, ix_tup, ix_lst, sl_tup, sl_lst, is_non, is_bl, isi_int, isi_bl, isi_str, isi_tup, isi_lst, isi_non, b_len, len_tup, len_lst, b_abs, b_int, b_int_bl, b_max2, b_min2, b_all, b_any, b_sum, b_tuple_lst, b_list_tup, b_repr, now_tup, now_lst, now_int, now_bl, new_f, new_t, walk_tup, walk_lst, zip_2, zip_3, src_tup, src_lst, rev_tup, rev_lst, bind_lst, enm_tup, enm_lst, put_at, ixN_32, ixN_31, ixN_30]
      refine w_memberM (k + 5) g hd (by omega) (by omega) (by omega) fun m M5 mm5 hd5 => ?_
      refine ⟨by omega, by omega, by omega, by omega, ?_⟩
      refine forL_cps (fun j ρ M' => (∃ x6 x7 x8 x9 x11 x12 x13, ρ = [some (.lst (ns.map .int)), some (.int (i : Int)), some (.ref h), some (.int (1 + d)), some (sum_ ws c), some (.int (sz ws c)), x6, x7, x8, x9, some m, x11, x12, x13]) ∧ j ≤ 43 ∧ Hand M' h (400 + 3 * j)) _ 0 _ M5 ⟨⟨_, _, _, _, _, _, _, rfl⟩, by decide, hd5.up (by omega)⟩ ?_ (fun _ _ _ _ => trivial) ?_
      · rintro j y ρ M6 c3 hy ⟨⟨z6, z7, z8, z9, z11, z12, z13, rfl⟩, hi2, hd6⟩ hc3
        obtain ⟨rfl, hlt3⟩ := rng2_get hy
        simp only [SG.wpSs, SG.wpS, wpE, wpL, wpO, wpC, wpI, startP, fnEnds, bind_nm, bind_tp, binds_nil, binds_nm, binds_tp, Option.bind_some, false_or, or_false, zipL3, zipL, enmL, cmp_eq_int, cmp_ne_int, cmp_eq_str, cmp_ne_str, cmp_lt, cmp_le, cmp_gt, cmp_ge, cmp_is, cmp_isnot, at_0, at_1, at_2, at_3, at_4, List.map_cons, List.map_nil, List.length_cons, List.length_nil, List.replicate, List.cons_append, List.nil_append, List.getElem?_cons_zero, List.getElem?_cons_succ, List.set_cons_zero, List.set_cons_succ, Option.some.injEq, exists_eq_left, exists_eq_left', exists_eq_right, exists_and_left, true_and, and_true, if_true, if_false, Bool.false_eq_true, reduceCtorEq, if_pos, if_neg, PV.int.injEq, PV.bl.injEq, PV.str.injEq, PV.tup.injEq, PV.lst.injEq, PV.ref.injEq, PV.fn.injEq, Nat.reduceAdd, Nat.reduceSub, Bool.not_true, Bool.not_false, and_self, Nat.add_zero, Nat.zero_add, Nat.sub_self, forall_const, cast_0, cast_1, cast_2, cast_3, cast_4, cast_5, cast_6, cast_7, cast_8, cast_9, Int.reduceLT, Int.reduceLE, Int.reduceNeg, decide_true, decide_false, Int.reduceEq, so_tup, so_lst, lo_lst, tru_non, tru_bl, tru_int, tru_tup, tru_lst, bin_add_int, bin_add_tup, bin_add_lst, bin_sub, bin_mul, bin_fdiv, bin_mod, bin_pow, ord_int, ordI_lt, ordI_le, ordI_gt, ordI_ge, ix_tup, ix_lst, sl_tup, sl_lst, is_non, is_bl, isi_int, isi_bl, isi_str, isi_tup, isi_lst, isi_non, b_len, len_tup, len_lst, b_abs, b_int, b_int_bl, b_max2, b_min2, b_all, b_any, b_sum, b_tuple_lst, b_list_tup, b_repr, now_tup, now_lst, now_int, now_bl, new_f, new_t, walk_tup, walk_lst, zip_2, zip_3, src_tup, src_lst, rev_tup, rev_lst, bind_lst, enm_tup, enm_lst, put_at, ixN_32, ixN_31, ixN_30] at hi2 hd6 hc3 ⊢
        refine t11 k g hd6 (by omega) (by omega) (by omega) mm5 (by omega) (by omega) fun u8 u12 u13 M7 hd7 => hc3 _ M7 ⟨⟨_, _, _, _, _, _, _, rfl⟩, by omega, hd7.up (by omega)⟩
      · rintro ρ M6 ⟨⟨z6, z7, z8, z9, z11, z12, z13, rfl⟩, hi2, hd6⟩
        exact hc _ M6 ⟨_, _, _, _, _, _, _, _, _, _, _, _, _, rfl⟩
  · rintro ρ M1 ⟨x1, x2, x3, x4, x5, x6, x7, x8, x9, x10, x11, x12, x13, rfl⟩
    trivial
end Zk17
namespace Zk17
open PySem PySem.Spec PyProof.Rows L2 SG
abbrev R : PySem.W.OpenRow := PySem.W.OpenLaw.row PySem.Challenge.rw_strangersay_k17_two_members_of_sums
abbrev fa : List He.Fa := faL srcs cns
abbrev fn : List He.DefD := fnL srcs
abbrev hk : PySem.W.Hook := He.hookD 4 fa fn
def ob (s : PySem.W.SharedT) : He.AlD := He.obsDG 4 fa fn (HandSHeadRun.getT s)
theorem ob_eq (s : PySem.W.SharedT) : ob s = hk.obs s.abs := He.obsDG_eq (HandSHeadRun.getT_eq s)
theorem run (w : World) : HandSHeadRun.RunEq R (PySem.W.view R.prog [lawAt]) hk ob 4000 loose w := by
  intro os
  kernel_rfl
end Zk17
open PySem PySem.W PySem.Calls PyProof.Rows
theorem PySem.Challenge.cw_strangersay_k17_two_members_of_sums_holds : PySem.Challenge.rw_strangersay_k17_two_members_of_sums.Holds := by
  w_on; o_law
  refine HandSHeadRun.head_any (r := OpenLaw.row PySem.Challenge.rw_strangersay_k17_two_members_of_sums) (q := view (OpenLaw.row PySem.Challenge.rw_strangersay_k17_two_members_of_sums).prog [Zk17.lawAt]) (H := Zk17.hk) (ob := Zk17.ob) (M := 4000) (loose := Zk17.loose) (d := HandSHeadRun.topDef (OpenLaw.row PySem.Challenge.rw_strangersay_k17_two_members_of_sums).prog Zk17.lawAt) (kwd := []) Zk17.ob_eq
    (by kernel_rfl) (fun s => by kernel_rfl) Zk17.run (by kernel_rfl) (by kernel_rfl) (by kernel_rfl) (by rfl) (by first | assumption | decide +kernel) (by decide +kernel) ⟨rfl, rfl, rfl, rfl, rfl, by decide +kernel⟩ ?hw ?hc
  case hw => w_witness2
  case hc =>
    have dn : (HandSHeadRun.topDef (OpenLaw.row PySem.Challenge.rw_strangersay_k17_two_members_of_sums).prog Zk17.lawAt).name = ("law" : PySem.Str) := by kernel_rfl
    refine SG.law_of (l := PySem.Challenge.rw_strangersay_k17_two_members_of_sums) (n := 63) (k := 10) (L := Zk17.srcs) (cns := Zk17.cns) (m := 4) rfl (by decide) (by kernel_rfl) ⟨rfl, by decide, by decide⟩ ?_ Zk17.oks (by decide +kernel) ?_
    · rw [dn]
      decide +kernel
    · intro ns hl
      rw [dn]
      exact Zk17.k17 1 ns hl
