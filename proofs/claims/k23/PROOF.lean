import PyProof.Rows.All
import Wide.All
import OpenK.AllK
import Wide.FinOn
import HandS.ForMost
import HandS.ForExc
import HandS.Flow
import HandS.CallSlots
import HandS.IsInst
import HandS.Deep
import HandS.More
import HandS.Defaults
import HandS.Zip
import HandS.TupAny
import HandS.DictComp
import HandS.TryMany
import HandS.Style
import HandS.Conv
import HandS.TupMul
import HandS.TupLe
import HandS.SortInts
import HandS.SortRule
import HandS.List
import KE.GoesEnum
import PyProof.Draws
import PyProof.CollectIter
import PyProof.WalksMore
import PyProof.MakeMany
import KE.GoesEnumKw
import HandS.SetBool
import PyProof.SetRoads
import HandS.ListItems
import HandS.Exc
import HandS.ExcInit
import HandS.ExcField
import HandS.ExcValue
import HandS.Strs
import PyProof.ReprRoads
import KE.KExcIs
import HandS.FStr
import HandS.Sort
import HandS.Small
import HandS.Head0
import HandS.Head1
import HandS.Head2
import HandS.HeadEnd
import HandS.HeadHook1
import HandS.HeadHook2
import HandS.HeadHook3
import HandS.HeadHook4
import PySem.Challenge.RW_unmadethings_k23_frames_told
set_option Elab.async false
set_option linter.all false
set_option maxRecDepth 100000
set_option maxHeartbeats 0
/-! values, the abstract store, how they stand to the layer's heap -/
namespace Lt
open PySem L2

inductive A where
  | non | bl (b : Bool) | int (i : Int) | str (x : List Nat) | ref (n : Nat) | tup (xs : List A) | lst (xs : List A) | scr (xs : List A) | ktup (xs : List A)
inductive O where
  | lst (xs : List A) | dic (t : Bool) (kvs : List (A × A)) | ins (c : Nat) (fs : List (Str × A)) | dead | fdic (t : Bool) (kvs : List (A × A)) | exc (c : Nat) (fs : List (Str × A))
/-- may be changed -/
def O.Lv : O → Prop
  | .dead => False
  | .fdic _ _ => False
  | _ => True

def mkS (l : List Nat) : Str := ⟨l.toArray⟩
theorem mkS_tl (x : Str) : mkS x.cps.toList = x := by cases x; simp [mkS]
theorem mkS_inj {l m : List Nat} (h : mkS l = mkS m) : l = m := by
  have h' : l.toArray = m.toArray := congrArg Str.cps h
  simpa using congrArg Array.toList h'
theorem mkS_cps (l : List Nat) : (mkS l).cps.toList = l := by simp [mkS]
/-- a text of the model: signs, not too long -/
def okS (l : List Nat) : Prop := l.length ≤ sizeLine ∧ (∀ c ∈ l, c < 0x110000)

structure Wd where
  ms : List Addr
  S : List O
  H : Hp
  /-- lists that are just being built -/
  hid : List Addr
def Wd.Live (w : Wd) (a : Addr) : Prop := a ∈ w.hid ∨ ∃ (n : Nat) (o : O), w.ms[n]? = some a ∧ w.S[n]? = some o ∧ o.Lv

def KL (K : PySem.W.Frag) (a : Addr) (xs : List V) : Prop :=
  ∃ (o : Obj) (its : Array Value) (n : Nat), K.lookup a = some o ∧ o.cls = .type "list" ∧ o.dict = none ∧ o.data = .seq its n ∧ its.size ≤ sizeLine ∧ Vals xs its.toList
def KT (K : PySem.W.Frag) (a : Addr) (xs : List V) : Prop :=
  ∃ (o : Obj) (its : Array Value) (n : Nat), K.lookup a = some o ∧ o.cls = .type "tuple" ∧ o.data = .seq its n ∧ its.size ≤ sizeLine ∧ Vals xs its.toList
def VL (w : Wd) (a : Addr) (xs : List V) : Prop := Rd w.H a (.lst xs) ∧ ¬ w.Live a
def VT (w : Wd) (a : Addr) (xs : List V) : Prop := w.H a = some (.tup xs) ∧ ¬ w.Live a
theorem VL.sq {K : PySem.W.Frag} {w : Wd} {a : Addr} {xs : List V} (h : VL w a xs) : SqL K w.H a xs := .inl h.1
theorem VT.sq {K : PySem.W.Frag} {w : Wd} {a : Addr} {xs : List V} (h : VT w a xs) : SqT K w.H a xs := .inl (.inl h.1)

mutual
def RelA (K : PySem.W.Frag) (w : Wd) : A → V → Prop
  | .non, v => v = .non
  | .bl b, v => v = .bl b
  | .int i, v => v = .int i
  | .str x, v => v = .str (mkS x) ∧ okS x
  | .ref n, v => ∃ a, w.ms[n]? = some a ∧ v = .ref a
  | .tup xs, v => ∃ a vs, v = .ref a ∧ VT w a vs ∧ RelAs K w xs vs
  | .lst xs, v => ∃ a vs, v = .ref a ∧ VL w a vs ∧ RelAs K w xs vs
  | .scr xs, v => ∃ a vs, v = .ref a ∧ (VL w a vs ∨ KL K a vs) ∧ RelAs K w xs vs
  | .ktup xs, v => ∃ a vs, v = .ref a ∧ KT K a vs ∧ RelAs K w xs vs
def RelAs (K : PySem.W.Frag) (w : Wd) : List A → List V → Prop
  | [], vs => vs = []
  | x :: xs, vs => ∃ v r, vs = v :: r ∧ RelA K w x v ∧ RelAs K w xs r
end

structure Mo (w w' : Wd) : Prop where
  pre : ∃ t, w'.ms = w.ms ++ t
  keep : ∀ a h, w.H a = some h → ¬ w.Live a → w'.H a = some h ∧ ¬ w'.Live a
structure Le (w w' : Wd) : Prop where
  mo : Mo w w'
  hid : w'.hid = w.hid
  hidk : ∀ a ∈ w.hid, ∀ h, w.H a = some h → w'.H a = some h
instance (w w' : Wd) : CoeOut (Le w w') (Mo w w') := ⟨Le.mo⟩
theorem Mo.refl (w : Wd) : Mo w w := ⟨⟨[], by simp⟩, fun _ _ h l => ⟨h, l⟩⟩
theorem Mo.trans {a b c : Wd} (h : Mo a b) (k : Mo b c) : Mo a c := by
  obtain ⟨t, e⟩ := h.pre
  obtain ⟨u, f⟩ := k.pre
  exact ⟨⟨t ++ u, by rw [f, e, List.append_assoc]⟩, fun x o q l => let ⟨q', l'⟩ := h.keep x o q l; k.keep x o q' l'⟩
theorem Le.refl (w : Wd) : Le w w := ⟨Mo.refl w, rfl, fun _ _ _ h => h⟩
theorem Le.trans {a b c : Wd} (h : Le a b) (k : Le b c) : Le a c :=
  ⟨h.mo.trans k.mo, k.hid.trans h.hid, fun x hx o q => k.hidk x (by rw [h.hid]; exact hx) o (h.hidk x hx o q)⟩
theorem Mo.ix {w w' : Wd} (h : Mo w w') {n : Nat} {a : Addr} (e : w.ms[n]? = some a) : w'.ms[n]? = some a := by
  obtain ⟨t, f⟩ := h.pre
  rw [f, List.getElem?_append_left (List.getElem?_eq_some_iff.mp e).1]
  exact e
theorem Mo.rd {w w' : Wd} (h : Mo w w') {a : Addr} {u : HO} (r : Rd w.H a u) (l : ¬ w.Live a) : Rd w'.H a u ∧ ¬ w'.Live a := by
  rcases r with r | ⟨o, r⟩
  · obtain ⟨q, l'⟩ := h.keep a _ r l
    exact ⟨.inl q, l'⟩
  · obtain ⟨q, l'⟩ := h.keep a _ r l
    exact ⟨.inr ⟨o, q⟩, l'⟩
theorem VL.mono {w w' : Wd} (h : Mo w w') {a : Addr} {xs : List V} (v : VL w a xs) : VL w' a xs := h.rd v.1 v.2
theorem VT.mono {w w' : Wd} (h : Mo w w') {a : Addr} {xs : List V} (v : VT w a xs) : VT w' a xs := h.keep a _ v.1 v.2
/-- an exception's dict -/
def VX (w : Wd) (a : Addr) (fs : List (Str × V)) : Prop := w.H a = some (.xd fs) ∧ ¬ w.Live a
theorem VX.mono {w w' : Wd} (h : Mo w w') {a : Addr} {fs : List (Str × V)} (v : VX w a fs) : VX w' a fs := h.keep a _ v.1 v.2
/-- an exception that was caught: its class, its dict -/
def XoE (a : Addr) (cls : Value) (d : Option Addr) : HO := .ext fun h => ∃ (oe : Obj) (vs : Array Value), h.get? a = some oe ∧ oe.cls = cls ∧ oe.dict = d ∧ oe.data = .fields vs
/-- what a value needs of a later world -/
structure Mv (w w' : Wd) : Prop where
  pre : ∃ t, w'.ms = w.ms ++ t
  t : ∀ a xs, VT w a xs → VT w' a xs
  l : ∀ a xs, VL w a xs → VL w' a xs
  x : ∀ a xs, VX w a xs → VX w' a xs
theorem Mo.mv {w w' : Wd} (h : Mo w w') : Mv w w' := ⟨h.pre, fun _ _ q => q.mono h, fun _ _ q => q.mono h, fun _ _ q => q.mono h⟩
theorem Mv.ix {w w' : Wd} (h : Mv w w') {n : Nat} {a : Addr} (e : w.ms[n]? = some a) : w'.ms[n]? = some a := by
  obtain ⟨t, f⟩ := h.pre
  rw [f, List.getElem?_append_left (List.getElem?_eq_some_iff.mp e).1]
  exact e
mutual
theorem RelA.monoV {K : PySem.W.Frag} {w w' : Wd} (h : Mv w w') : ∀ (a : A) (v : V), RelA K w a v → RelA K w' a v
  | .non, _, r => by simpa [RelA] using r
  | .bl _, _, r => by simpa [RelA] using r
  | .int _, _, r => by simpa [RelA] using r
  | .str _, _, r => by simpa [RelA] using r
  | .ref n, v, r => by
    simp only [RelA] at r ⊢
    obtain ⟨a, e, q⟩ := r
    exact ⟨a, h.ix e, q⟩
  | .tup xs, v, r => by
    simp only [RelA] at r ⊢
    obtain ⟨a, vs, e, q, rs⟩ := r
    exact ⟨a, vs, e, h.t _ _ q, RelAs.monoV h xs vs rs⟩
  | .lst xs, v, r => by
    simp only [RelA] at r ⊢
    obtain ⟨a, vs, e, q, rs⟩ := r
    exact ⟨a, vs, e, h.l _ _ q, RelAs.monoV h xs vs rs⟩
  | .scr xs, v, r => by
    simp only [RelA] at r ⊢
    obtain ⟨a, vs, e, q, rs⟩ := r
    exact ⟨a, vs, e, q.imp (fun q => h.l _ _ q) id, RelAs.monoV h xs vs rs⟩
  | .ktup xs, v, r => by
    simp only [RelA] at r ⊢
    obtain ⟨a, vs, e, q, rs⟩ := r
    exact ⟨a, vs, e, q, RelAs.monoV h xs vs rs⟩
theorem RelAs.monoV {K : PySem.W.Frag} {w w' : Wd} (h : Mv w w') : ∀ (xs : List A) (vs : List V), RelAs K w xs vs → RelAs K w' xs vs
  | [], _, r => by simpa [RelAs] using r
  | x :: xs, vs, r => by
    simp only [RelAs] at r ⊢
    obtain ⟨v, q, e, r1, r2⟩ := r
    exact ⟨v, q, e, RelA.monoV h x v r1, RelAs.monoV h xs q r2⟩
end
theorem RelA.mono {K : PySem.W.Frag} {w w' : Wd} (h : Mo w w') (a : A) (v : V) (r : RelA K w a v) : RelA K w' a v := RelA.monoV h.mv a v r
theorem RelAs.mono {K : PySem.W.Frag} {w w' : Wd} (h : Mo w w') (xs : List A) (vs : List V) (r : RelAs K w xs vs) : RelAs K w' xs vs := RelAs.monoV h.mv xs vs r
theorem RelAs.paired {K : PySem.W.Frag} {w : Wd} : ∀ {xs : List A} {vs : List V}, RelAs K w xs vs ↔ Paired (RelA K w) xs vs
  | [], vs => ⟨fun h => by simp only [RelAs] at h; subst h; exact .nil, fun h => by cases h; simp [RelAs]⟩
  | x :: xs, vs => by
    constructor
    · intro h
      simp only [RelAs] at h
      obtain ⟨v, r, rfl, h1, h2⟩ := h
      exact .cons h1 (RelAs.paired.mp h2)
    · intro h
      cases h with
      | cons h1 h2 =>
        simp only [RelAs]
        exact ⟨_, _, rfl, h1, RelAs.paired.mpr h2⟩
theorem RelAs.length {K : PySem.W.Frag} {w : Wd} {xs : List A} {vs : List V} (h : RelAs K w xs vs) : xs.length = vs.length := (RelAs.paired.mp h).length
theorem RelAs.nil {K : PySem.W.Frag} {w : Wd} : RelAs K w [] [] := by simp [RelAs]
theorem RelAs.cons {K : PySem.W.Frag} {w : Wd} {x : A} {xs : List A} {v : V} {vs : List V} (h : RelA K w x v) (t : RelAs K w xs vs) : RelAs K w (x :: xs) (v :: vs) := by
  simp only [RelAs]; exact ⟨v, vs, rfl, h, t⟩
theorem RelAs.append {K : PySem.W.Frag} {w : Wd} : ∀ {xs ys : List A} {vs us : List V}, RelAs K w xs vs → RelAs K w ys us → RelAs K w (xs ++ ys) (vs ++ us)
  | [], ys, vs, us, h, k => by simp only [RelAs] at h; subst h; exact k
  | x :: xs, ys, vs, us, h, k => by
    simp only [RelAs] at h
    obtain ⟨v, r, rfl, h1, h2⟩ := h
    exact RelAs.cons h1 (RelAs.append h2 k)
theorem RelAs.get {K : PySem.W.Frag} {w : Wd} : ∀ {xs : List A} {vs : List V} {i : Nat} {x : A}, RelAs K w xs vs → xs[i]? = some x → ∃ v, vs[i]? = some v ∧ RelA K w x v
  | [], _, _, _, _, e => by simp at e
  | y :: xs, vs, 0, x, h, e => by
    simp only [RelAs] at h
    obtain ⟨v, r, rfl, h1, h2⟩ := h
    simp at e; subst e
    exact ⟨v, rfl, h1⟩
  | y :: xs, vs, i + 1, x, h, e => by
    simp only [RelAs] at h
    obtain ⟨v, r, rfl, h1, h2⟩ := h
    obtain ⟨u, a, b⟩ := RelAs.get (i := i) h2 (by simpa using e)
    exact ⟨u, by simpa using a, b⟩
theorem RelAs.got {K : PySem.W.Frag} {w : Wd} : ∀ {xs : List A} {vs : List V} {i : Nat} {v : V}, RelAs K w xs vs → vs[i]? = some v → ∃ x, xs[i]? = some x ∧ RelA K w x v
  | [], vs, _, _, h, e => by simp only [RelAs] at h; subst h; simp at e
  | y :: xs, vs, 0, x, h, e => by
    simp only [RelAs] at h
    obtain ⟨v, r, rfl, h1, h2⟩ := h
    simp at e; subst e
    exact ⟨y, rfl, h1⟩
  | y :: xs, vs, i + 1, x, h, e => by
    simp only [RelAs] at h
    obtain ⟨v, r, rfl, h1, h2⟩ := h
    obtain ⟨u, a, b⟩ := RelAs.got (i := i) h2 (by simpa using e)
    exact ⟨u, by simpa using a, b⟩
theorem RelAs.set {K : PySem.W.Frag} {w : Wd} {x : A} {v : V} (r : RelA K w x v) : ∀ {xs : List A} {vs : List V} (i : Nat), RelAs K w xs vs → RelAs K w (xs.set i x) (vs.set i v)
  | [], _, _, h => by simp only [RelAs] at h; subst h; exact RelAs.nil
  | y :: xs, vs, 0, h => by
    simp only [RelAs] at h
    obtain ⟨u, q, rfl, h1, h2⟩ := h
    exact RelAs.cons r h2
  | y :: xs, vs, i + 1, h => by
    simp only [RelAs] at h
    obtain ⟨u, q, rfl, h1, h2⟩ := h
    exact RelAs.cons h1 (RelAs.set r i h2)
theorem RelAs.take {K : PySem.W.Frag} {w : Wd} : ∀ {xs : List A} {vs : List V} (n : Nat), RelAs K w xs vs → RelAs K w (xs.take n) (vs.take n)
  | _, _, 0, _ => by simp; exact RelAs.nil
  | [], _, _ + 1, h => by simp only [RelAs] at h; subst h; exact RelAs.nil
  | y :: xs, vs, n + 1, h => by
    simp only [RelAs] at h
    obtain ⟨u, q, rfl, h1, h2⟩ := h
    exact RelAs.cons h1 (RelAs.take n h2)
theorem RelAs.drop {K : PySem.W.Frag} {w : Wd} : ∀ {xs : List A} {vs : List V} (n : Nat), RelAs K w xs vs → RelAs K w (xs.drop n) (vs.drop n)
  | _, _, 0, h => h
  | [], _, _ + 1, h => by simp only [RelAs] at h; subst h; exact RelAs.nil
  | y :: xs, vs, n + 1, h => by
    simp only [RelAs] at h
    obtain ⟨u, q, rfl, h1, h2⟩ := h
    exact RelAs.drop n h2
theorem RelAs.reverse {K : PySem.W.Frag} {w : Wd} : ∀ {xs : List A} {vs : List V}, RelAs K w xs vs → RelAs K w xs.reverse vs.reverse
  | [], _, h => by simp only [RelAs] at h; subst h; exact RelAs.nil
  | y :: xs, vs, h => by
    simp only [RelAs] at h
    obtain ⟨u, q, rfl, h1, h2⟩ := h
    rw [List.reverse_cons, List.reverse_cons]
    exact (RelAs.reverse h2).append (RelAs.cons h1 RelAs.nil)
theorem RelAs.none {K : PySem.W.Frag} {w : Wd} {xs : List A} {vs : List V} {i : Nat} (h : RelAs K w xs vs) (e : xs[i]? = none) : vs[i]? = none := by
  have := h.length
  exact List.getElem?_eq_none_iff.mpr (by have := List.getElem?_eq_none_iff.mp e; omega)

/-! ### objects -/
/-- a key of a dict with plain keys -/
def keyOf : A → Option Key
  | .int i => some (.inl i)
  | .str x => some (.inr (mkS x))
  | _ => none
def keysOf : List A → Option (List Key)
  | [] => some []
  | a :: r => match keyOf a, keysOf r with
    | some k, some ks => some (k :: ks)
    | _, _ => none
def tkeyOf : A → Option (List Key)
  | .tup xs => keysOf xs
  | _ => none
def okKey : A → Prop
  | .str x => okS x
  | .tup xs => ∀ x ∈ xs, match x with | .str y => okS y | _ => True
  | _ => True

def RelO (K : PySem.W.Frag) (cls : Nat → Addr) (w : Wd) (a : Addr) : O → Prop
  | .lst xs => ∃ vs, w.H a = some (.lst vs) ∧ RelAs K w xs vs
  | .dic false kvs => ∃ ws, w.H a = some (.dK ws) ∧ Paired (fun (p : A × A) (q : Key × V) => keyOf p.1 = some q.1 ∧ okKey p.1 ∧ RelA K w p.2 q.2) kvs ws
  | .dic true kvs => ∃ ws, w.H a = some (.dT ws) ∧ Paired (fun (p : A × A) (q : List Key × V) => tkeyOf p.1 = some q.1 ∧ okKey p.1 ∧ RelA K w p.2 q.2) kvs ws
  | .ins c fs => ∃ dx ws, w.H a = some (.ins (cls c) dx ws) ∧ Paired (fun (p : Str × A) (q : Str × V) => p.1 = q.1 ∧ RelA K w p.2 q.2) fs ws
  | .dead => True
  | .fdic false kvs => ∃ ws ob, w.H a = some (.frz ob (.dK ws)) ∧ Paired (fun (p : A × A) (q : Key × V) => keyOf p.1 = some q.1 ∧ okKey p.1 ∧ RelA K w p.2 q.2) kvs ws
  | .fdic true kvs => ∃ ws ob, w.H a = some (.frz ob (.dT ws)) ∧ Paired (fun (p : A × A) (q : List Key × V) => tkeyOf p.1 = some q.1 ∧ okKey p.1 ∧ RelA K w p.2 q.2) kvs ws
  | .exc c fs => ∃ dd ws, w.H a = some (XoE a (.ref (cls (1000 + c))) (some dd)) ∧ VX w dd ws ∧ Paired (fun (p : Str × A) (q : Str × V) => p.1 = q.1 ∧ RelA K w p.2 q.2) fs ws
theorem RelO.monoV {K : PySem.W.Frag} {cls : Nat → Addr} {w w' : Wd} {a : Addr} (h : Mv w w') (e : w'.H a = w.H a) : ∀ {o : O}, RelO K cls w a o → RelO K cls w' a o
  | .lst xs, ⟨vs, q, r⟩ => ⟨vs, e.trans q, r.monoV h⟩
  | .dic false kvs, ⟨ws, q, r⟩ => ⟨ws, e.trans q, Paired.mapP r fun _ _ z => ⟨z.1, z.2.1, z.2.2.monoV h⟩⟩
  | .dic true kvs, ⟨ws, q, r⟩ => ⟨ws, e.trans q, Paired.mapP r fun _ _ z => ⟨z.1, z.2.1, z.2.2.monoV h⟩⟩
  | .ins c fs, ⟨dx, ws, q, r⟩ => ⟨dx, ws, e.trans q, Paired.mapP r fun _ _ z => ⟨z.1, z.2.monoV h⟩⟩
  | .dead, _ => trivial
  | .fdic false kvs, ⟨ws, ob, q, r⟩ => ⟨ws, ob, e.trans q, Paired.mapP r fun _ _ z => ⟨z.1, z.2.1, z.2.2.monoV h⟩⟩
  | .fdic true kvs, ⟨ws, ob, q, r⟩ => ⟨ws, ob, e.trans q, Paired.mapP r fun _ _ z => ⟨z.1, z.2.1, z.2.2.monoV h⟩⟩
  | .exc c fs, ⟨dd, ws, q, v, r⟩ => ⟨dd, ws, e.trans q, h.x _ _ v, Paired.mapP r fun _ _ z => ⟨z.1, z.2.monoV h⟩⟩
theorem RelO.mono {K : PySem.W.Frag} {cls : Nat → Addr} {w w' : Wd} {a : Addr} (h : Mo w w') (e : w'.H a = w.H a) {o : O} (r : RelO K cls w a o) : RelO K cls w' a o := RelO.monoV h.mv e r

structure RelS (K : PySem.W.Frag) (cls : Nat → Addr) (w : Wd) : Prop where
  len : w.ms.length = w.S.length
  nd : w.ms.Nodup
  has : ∀ (n : Nat) (a : Addr), w.ms[n]? = some a → ∃ h, w.H a = some h
  obj : ∀ (n : Nat) (a : Addr) (o : O), w.ms[n]? = some a → w.S[n]? = some o → RelO K cls w a o
  hid : ∀ a ∈ w.hid, a ∉ w.ms ∧ ∃ h, w.H a = some h
theorem RelS.at {K : PySem.W.Frag} {cls : Nat → Addr} {w : Wd} (h : RelS K cls w) {n : Nat} {o : O} (e : w.S[n]? = some o) : ∃ a, w.ms[n]? = some a ∧ RelO K cls w a o := by
  have hn : n < w.ms.length := by rw [h.len]; exact (List.getElem?_eq_some_iff.mp e).1
  exact ⟨w.ms[n], List.getElem?_eq_getElem hn, h.obj n _ o (List.getElem?_eq_getElem hn) e⟩
theorem RelS.fresh {K : PySem.W.Frag} {cls : Nat → Addr} {w : Wd} (h : RelS K cls w) {p : Addr} (e : w.H p = none) : p ∉ w.ms := fun hm => by
  obtain ⟨n, hn⟩ := List.getElem?_of_mem hm
  obtain ⟨o, q⟩ := h.has n p hn
  rw [e] at q; cases q
theorem RelS.new_ {K : PySem.W.Frag} {cls : Nat → Addr} {w : Wd} (h : RelS K cls w) {p : Addr} (e : w.H p = none) : ¬ w.Live p := fun l => by
  rcases l with l | ⟨n, o, e1, _⟩
  · obtain ⟨_, o, q⟩ := h.hid p l
    rw [e] at q; cases q
  · exact h.fresh e (List.mem_of_getElem? e1)

/-- the heap grows, the store stays -/
theorem Le.grow {w : Wd} {H' : Hp} (h : ∀ a o, w.H a = some o → H' a = some o) : Le w ⟨w.ms, w.S, H', w.hid⟩ := ⟨⟨⟨[], by simp⟩, fun a o e l => ⟨h a o e, l⟩⟩, rfl, fun a _ o e => h a o e⟩
theorem RelS.grow {K : PySem.W.Frag} {cls : Nat → Addr} {w : Wd} {H' : Hp} (s : RelS K cls w) (h : ∀ a o, w.H a = some o → H' a = some o) : RelS K cls ⟨w.ms, w.S, H', w.hid⟩ :=
  ⟨s.len, s.nd, fun n a e => let ⟨o, q⟩ := s.has n a e; ⟨o, h a o q⟩, fun n a o e1 e2 => by
    obtain ⟨o', q⟩ := s.has n a e1
    exact (s.obj n a o e1 e2).mono (Le.grow h).mo ((h a o' q).trans q.symm), fun a ha => ⟨(s.hid a ha).1, let ⟨o, q⟩ := (s.hid a ha).2; ⟨o, h a o q⟩⟩⟩
theorem upd_grow {H : Hp} {p : Addr} {o : HO} (e : H p = none) : ∀ a u, H a = some u → upd H p o a = some u := fun a u q => by
  rw [upd_ne (ne_of_none q e)]; exact q
/-- a new tuple, a new list as a value -/
theorem new_tup {K : PySem.W.Frag} {cls : Nat → Addr} {w : Wd} (s : RelS K cls w) {p : Addr} {xs : List A} {vs : List V} (r : RelAs K w xs vs) (e : w.H p = none) :
    RelA K ⟨w.ms, w.S, upd w.H p (.tup vs), w.hid⟩ (.tup xs) (.ref p) := by
  have le : Le w ⟨w.ms, w.S, upd w.H p (.tup vs), w.hid⟩ := Le.grow (upd_grow e)
  simp only [RelA]
  exact ⟨p, vs, rfl, ⟨upd_same, fun l => s.new_ e l⟩, r.mono le⟩
theorem new_lst {K : PySem.W.Frag} {cls : Nat → Addr} {w : Wd} (s : RelS K cls w) {p : Addr} {xs : List A} {vs : List V} (r : RelAs K w xs vs) (e : w.H p = none) :
    RelA K ⟨w.ms, w.S, upd w.H p (.lst vs), w.hid⟩ (.lst xs) (.ref p) := by
  have le : Le w ⟨w.ms, w.S, upd w.H p (.lst vs), w.hid⟩ := Le.grow (upd_grow e)
  simp only [RelA]
  exact ⟨p, vs, rfl, ⟨.inl upd_same, fun l => s.new_ e l⟩, r.mono le⟩
theorem ms_new {w : Wd} {p a : Addr} {n : Nat} (e1 : (w.ms ++ [p])[n]? = some a) : (n < w.ms.length ∧ w.ms[n]? = some a) ∨ (n = w.ms.length ∧ a = p) := by
  by_cases hn : n < w.ms.length
  · exact .inl ⟨hn, by rw [← e1]; exact (List.getElem?_append_left hn).symm⟩
  · have hl := (List.getElem?_eq_some_iff.mp e1).1
    have hn' : n = w.ms.length := by simp at hl; omega
    subst hn'
    rw [List.getElem?_append_right (by omega)] at e1
    exact .inr ⟨rfl, by simpa using List.mem_of_getElem? e1⟩
/-- a new object -/
theorem Le.new {K : PySem.W.Frag} {cls : Nat → Addr} {w : Wd} (s : RelS K cls w) {H' : Hp} {p : Addr} {o : O} (e : w.H p = none) (g : ∀ a u, w.H a = some u → H' a = some u) : Le w ⟨w.ms ++ [p], w.S ++ [o], H', w.hid⟩ := by
  refine ⟨⟨⟨[p], rfl⟩, fun a u q l => ⟨g a u q, fun hl => ?_⟩⟩, rfl, fun a _ u q => g a u q⟩
  rcases hl with hl | ⟨n, o', e1, e2, e3⟩
  · exact l (.inl hl)
  rcases ms_new e1 with ⟨hn, e1'⟩ | ⟨_, rfl⟩
  · have e2' : w.S[n]? = some o' := by rw [← e2]; exact (List.getElem?_append_left (by rw [← s.len]; exact hn)).symm
    exact l (.inr ⟨n, o', e1', e2', e3⟩)
  · rw [e] at q; cases q
theorem RelS.new {K : PySem.W.Frag} {cls : Nat → Addr} {w : Wd} (s : RelS K cls w) {H' : Hp} {p : Addr} {o : O} (e : w.H p = none) (g : ∀ a u, w.H a = some u → H' a = some u) (hp : ∃ h, H' p = some h)
    (r : RelO K cls ⟨w.ms ++ [p], w.S ++ [o], H', w.hid⟩ p o) : RelS K cls ⟨w.ms ++ [p], w.S ++ [o], H', w.hid⟩ := by
  have le := Le.new (o := o) s e g
  refine ⟨by simp [s.len], ?_, fun n a h => ?_, fun n a o' h1 h2 => ?_, fun a ha => ⟨fun hm => ?_, let ⟨o, q⟩ := (s.hid a ha).2; ⟨o, g a o q⟩⟩⟩
  · show (w.ms ++ [p]).Nodup
    rw [List.nodup_append]
    exact ⟨s.nd, by simp, fun a ha b hb => by
      have : b = p := by simpa using hb
      subst this
      intro z; subst z
      exact s.fresh e ha⟩
  · rcases ms_new h with ⟨hn, h'⟩ | ⟨_, rfl⟩
    · obtain ⟨u, q⟩ := s.has n a h'
      exact ⟨u, g a u q⟩
    · exact hp
  · rcases ms_new h1 with ⟨hn, h1'⟩ | ⟨rfl, rfl⟩
    · have h2' : w.S[n]? = some o' := by rw [← h2]; exact (List.getElem?_append_left (by rw [← s.len]; exact hn)).symm
      obtain ⟨u, q⟩ := s.has n a h1'
      exact (s.obj n a o' h1' h2').mono le.mo ((g a u q).trans q.symm)
    · have h2' : (w.S ++ [o])[w.ms.length]? = some o' := h2
      rw [List.getElem?_append_right (by rw [s.len]; exact Nat.le_refl _)] at h2'
      have eo : o' = o := by simpa using List.mem_of_getElem? h2'
      subst eo
      exact r
  · have hm : a ∈ w.ms ++ [p] := hm
    rcases List.mem_append.mp hm with hm | hm
    · exact (s.hid a ha).1 hm
    · have : a = p := by simpa using hm
      subst this
      obtain ⟨o, q⟩ := (s.hid a ha).2
      rw [e] at q; cases q
theorem new_ref {K : PySem.W.Frag} {w : Wd} {p : Addr} {o : O} {H' : Hp} {cls : Nat → Addr} (s : RelS K cls w) : RelA K ⟨w.ms ++ [p], w.S ++ [o], H', w.hid⟩ (.ref w.S.length) (.ref p) := by
  simp only [RelA]
  refine ⟨p, ?_, rfl⟩
  show (w.ms ++ [p])[w.S.length]? = some p
  rw [← s.len]
  simp
/-- an object changed -/
theorem Le.put {K : PySem.W.Frag} {cls : Nat → Addr} {w : Wd} (s : RelS K cls w) {n : Nat} {a : Addr} {o o' : O} {h : HO} (ea : w.ms[n]? = some a) (eo : w.S[n]? = some o) (nd : o.Lv) : Le w ⟨w.ms, w.S.set n o', upd w.H a h, w.hid⟩ := by
  have la : w.Live a := .inr ⟨n, o, ea, eo, nd⟩
  refine ⟨⟨⟨[], by simp⟩, fun b u q l => ?_⟩, rfl, fun b hb u q => ?_⟩
  · have hb : b ≠ a := fun z => l (z ▸ la)
    refine ⟨(upd_ne hb).trans q, fun hl => ?_⟩
    rcases hl with hl | ⟨m, o2, e1, e2, e3⟩
    · exact l (.inl hl)
    have e1' : w.ms[m]? = some b := e1
    have hm : m ≠ n := fun z => by subst z; rw [ea] at e1'; exact hb (Option.some.inj e1').symm
    have e2' : (w.S.set n o')[m]? = some o2 := e2
    rw [List.getElem?_set_ne (Ne.symm hm)] at e2'
    exact l (.inr ⟨m, o2, e1', e2', e3⟩)
  · have hb : b ≠ a := fun z => by subst z; exact (s.hid b hb).1 (List.mem_of_getElem? ea)
    exact (upd_ne hb).trans q
theorem RelS.put {K : PySem.W.Frag} {cls : Nat → Addr} {w : Wd} (s : RelS K cls w) {n : Nat} {a : Addr} {o o' : O} {h : HO} (ea : w.ms[n]? = some a) (eo : w.S[n]? = some o) (nd : o.Lv)
    (r : RelO K cls ⟨w.ms, w.S.set n o', upd w.H a h, w.hid⟩ a o') : RelS K cls ⟨w.ms, w.S.set n o', upd w.H a h, w.hid⟩ := by
  have le := Le.put (o' := o') (h := h) s ea eo nd
  refine ⟨by simp [s.len], s.nd, fun m b e => ?_, fun m b o2 e1 e2 => ?_, fun b hb => ⟨(s.hid b hb).1, let ⟨u, q⟩ := (s.hid b hb).2; ⟨u, le.hidk b hb u q⟩⟩⟩
  · by_cases hb : b = a
    · subst hb; exact ⟨h, upd_same⟩
    · obtain ⟨u, q⟩ := s.has m b e
      exact ⟨u, (upd_ne hb).trans q⟩
  · have e1' : w.ms[m]? = some b := e1
    by_cases hm : m = n
    · subst hm
      rw [ea] at e1'; cases e1'
      have e2' : (w.S.set m o')[m]? = some o2 := e2
      rw [List.getElem?_set_self (List.getElem?_eq_some_iff.mp eo).1] at e2'
      cases e2'
      exact r
    · have e2' : (w.S.set n o')[m]? = some o2 := e2
      rw [List.getElem?_set_ne (Ne.symm hm)] at e2'
      have hb : b ≠ a := fun z => by
        subst z
        have q1 := List.getElem?_eq_some_iff.mp e1'
        have q2 := List.getElem?_eq_some_iff.mp ea
        exact hm ((List.getElem_inj s.nd).mp (q1.2.trans q2.2.symm))
      exact (s.obj m b o2 e1' e2').mono le.mo (upd_ne hb)
/-- a list's object turned into a value -/
theorem Le.freeze {K : PySem.W.Frag} {cls : Nat → Addr} {w : Wd} (s : RelS K cls w) {n : Nat} : Le w ⟨w.ms, w.S.set n .dead, w.H, w.hid⟩ := by
  refine ⟨⟨⟨[], by simp⟩, fun b u q l => ⟨q, fun hl => ?_⟩⟩, rfl, fun _ _ _ q => q⟩
  rcases hl with hl | ⟨m, o2, e1, e2, e3⟩
  · exact l (.inl hl)
  have e2' : (w.S.set n .dead)[m]? = some o2 := e2
  by_cases hm : n = m
  · subst hm
    by_cases hl : n < w.S.length
    · rw [List.getElem?_set_self hl] at e2'
      cases e2'
      exact e3.elim
    · rw [List.getElem?_eq_none (by simpa using hl)] at e2'; cases e2'
  · rw [List.getElem?_set_ne hm] at e2'
    exact l (.inr ⟨m, o2, e1, e2', e3⟩)
theorem RelS.freeze {K : PySem.W.Frag} {cls : Nat → Addr} {w : Wd} (s : RelS K cls w) {n : Nat} : RelS K cls ⟨w.ms, w.S.set n .dead, w.H, w.hid⟩ := by
  refine ⟨by simp [s.len], s.nd, s.has, fun m b o2 e1 e2 => ?_, s.hid⟩
  have e2' : (w.S.set n .dead)[m]? = some o2 := e2
  by_cases hm : n = m
  · subst hm
    by_cases hl : n < w.S.length
    · rw [List.getElem?_set_self hl] at e2'
      cases e2'
      trivial
    · rw [List.getElem?_eq_none (by simpa using hl)] at e2'; cases e2'
  · rw [List.getElem?_set_ne hm] at e2'
    exact (s.obj m b o2 e1 e2').mono (Le.freeze s).mo rfl
theorem frozen {K : PySem.W.Frag} {cls : Nat → Addr} {w : Wd} (s : RelS K cls w) {n : Nat} {xs : List A} {a : Addr} (ea : w.ms[n]? = some a) (eo : w.S[n]? = some (.lst xs)) : RelA K ⟨w.ms, w.S.set n .dead, w.H, w.hid⟩ (.lst xs) (.ref a) := by
  obtain ⟨vs, q, r⟩ := s.obj n a _ ea eo
  simp only [RelA]
  refine ⟨a, vs, rfl, ⟨.inl q, fun hl => ?_⟩, r.mono (Le.freeze s).mo⟩
  rcases hl with hl | ⟨m, o2, e1, e2, e3⟩
  · exact (s.hid a hl).1 (List.mem_of_getElem? ea)
  have e1' : w.ms[m]? = some a := e1
  have hm : m = n := by
    have q1 := List.getElem?_eq_some_iff.mp e1'
    have q2 := List.getElem?_eq_some_iff.mp ea
    exact (List.getElem_inj s.nd).mp (q1.2.trans q2.2.symm)
  subst hm
  have e2' : (w.S.set m .dead)[m]? = some o2 := e2
  rw [List.getElem?_set_self (List.getElem?_eq_some_iff.mp eo).1] at e2'
  cases e2'
  exact e3.elim

/-! ### a dict that is walked -/
theorem ms_inj {K : PySem.W.Frag} {cls : Nat → Addr} {w : Wd} (s : RelS K cls w) {m n : Nat} {a : Addr} (h : w.ms[m]? = some a) (k : w.ms[n]? = some a) : m = n := by
  have q1 := List.getElem?_eq_some_iff.mp h
  have q2 := List.getElem?_eq_some_iff.mp k
  exact (List.getElem_inj s.nd).mp (q1.2.trans q2.2.symm)
def Wd.lk (w : Wd) (n : Nat) (a : Addr) (o : O) (h : HO) : Wd := ⟨w.ms, w.S.set n o, upd w.H a h, w.hid⟩
theorem dic_lock {K : PySem.W.Frag} {cls : Nat → Addr} {w : Wd} (s : RelS K cls w) {n : Nat} {t : Bool} {kvs : List (A × A)} (e : w.S[n]? = some (.dic t kvs)) :
    ∃ a u, w.H a = some u ∧ Mut (some u) ∧ ∀ od, RelS K cls (w.lk n a (.fdic t kvs) (.frz od u)) ∧ Le w (w.lk n a (.fdic t kvs) (.frz od u)) ∧
      ∀ w2 t' kvs', Le (w.lk n a (.fdic t kvs) (.frz od u)) w2 → RelS K cls w2 → w2.S[n]? = some (.fdic t' kvs') →
        w2.H a = some (.frz od u) ∧ RelS K cls (w2.lk n a (.dic t' kvs') u) ∧ Le w (w2.lk n a (.dic t' kvs') u) ∧ Mv w2 (w2.lk n a (.dic t' kvs') u) := by
  obtain ⟨a, ea, ro⟩ := s.at e
  obtain ⟨u, hu, mu, nl⟩ : ∃ u, w.H a = some u ∧ Mut (some u) ∧ ((t = false ∧ ∃ ws, u = .dK ws) ∨ (t = true ∧ ∃ ws, u = .dT ws)) := by
    cases t with
    | false => obtain ⟨ws, q, _⟩ := ro; exact ⟨_, q, trivial, .inl ⟨rfl, ws, rfl⟩⟩
    | true => obtain ⟨ws, q, _⟩ := ro; exact ⟨_, q, trivial, .inr ⟨rfl, ws, rfl⟩⟩
  refine ⟨a, u, hu, mu, fun od => ?_⟩
  have le1 : Le w (w.lk n a (.fdic t kvs) (.frz od u)) := Le.put s ea e trivial
  have s1 : RelS K cls (w.lk n a (.fdic t kvs) (.frz od u)) := s.put ea e trivial (by
    have mo : Mv w (w.lk n a (.fdic t kvs) (.frz od u)) := le1.mo.mv
    cases t with
    | false => obtain ⟨ws, q, r⟩ := ro; rw [hu] at q; cases q; exact ⟨ws, od, upd_same, Paired.mapP r fun _ _ z => ⟨z.1, z.2.1, z.2.2.monoV mo⟩⟩
    | true => obtain ⟨ws, q, r⟩ := ro; rw [hu] at q; cases q; exact ⟨ws, od, upd_same, Paired.mapP r fun _ _ z => ⟨z.1, z.2.1, z.2.2.monoV mo⟩⟩)
  refine ⟨s1, le1, fun w2 t' kvs' le2 s2 e2 => ?_⟩
  have hn : n < w.S.length := (List.getElem?_eq_some_iff.mp e).1
  have nla : ¬ (w.lk n a (.fdic t kvs) (.frz od u)).Live a := fun l => by
    rcases l with l | ⟨m, o, e1, e3, lv⟩
    · exact (s1.hid a l).1 (List.mem_of_getElem? (show w.ms[n]? = some a from ea))
    · have hm : m = n := ms_inj s (show w.ms[m]? = some a from e1) ea
      subst hm
      have e3' : (w.S.set m (.fdic t kvs))[m]? = some o := e3
      rw [List.getElem?_set_self hn] at e3'
      cases e3'; exact lv
  obtain ⟨h2a, nl2⟩ := le2.mo.keep a (.frz od u) upd_same nla
  have ea2 : w2.ms[n]? = some a := le2.mo.ix (show w.ms[n]? = some a from ea)
  have hn2 : n < w2.S.length := (List.getElem?_eq_some_iff.mp e2).1
  have nlv : ∀ b, b ≠ a → ¬ w2.Live b → ¬ (w2.lk n a (.dic t' kvs') u).Live b := fun b hb l hl => by
    rcases hl with hl | ⟨m, o, e1, e3, lv⟩
    · exact l (.inl hl)
    · have e1' : w2.ms[m]? = some b := e1
      have hm : n ≠ m := fun z => by subst z; rw [ea2] at e1'; exact hb (Option.some.inj e1').symm
      have e3' : (w2.S.set n (.dic t' kvs'))[m]? = some o := e3
      rw [List.getElem?_set_ne hm] at e3'
      exact l (.inr ⟨m, o, e1', e3', lv⟩)
  have mv : Mv w2 (w2.lk n a (.dic t' kvs') u) := by
    refine ⟨⟨[], by simp [Wd.lk]⟩, fun b xs q => ?_, fun b xs q => ?_, fun b xs q => ?_⟩
    rotate_left 2
    · have hb : b ≠ a := fun z => by
        have q1 := q.1
        rw [z, h2a] at q1
        cases q1
      exact ⟨(upd_ne hb).trans q.1, nlv b hb q.2⟩
    · have hb : b ≠ a := fun z => by have q1 := q.1; rw [z, h2a] at q1; cases q1
      exact ⟨(upd_ne hb).trans q.1, nlv b hb q.2⟩
    · have hb : b ≠ a := fun z => by
        rcases q.1 with q1 | ⟨o, q1⟩
        · rw [z, h2a] at q1; cases q1
        · rw [z, h2a] at q1
          rcases nl with ⟨_, ws, rfl⟩ | ⟨_, ws, rfl⟩ <;> cases q1
      refine ⟨?_, nlv b hb q.2⟩
      rcases q.1 with q1 | ⟨o, q1⟩
      · exact .inl ((upd_ne hb).trans q1)
      · exact .inr ⟨o, (upd_ne hb).trans q1⟩
  refine ⟨h2a, ?_, ?_, mv⟩
  · refine ⟨by simp [Wd.lk, s2.len], s2.nd, fun m b e1 => ?_, fun m b o e1 e3 => ?_, fun b hb => ?_⟩
    · by_cases hb : b = a
      · subst hb; exact ⟨u, upd_same⟩
      · obtain ⟨x, q⟩ := s2.has m b e1
        exact ⟨x, (upd_ne hb).trans q⟩
    · have e1' : w2.ms[m]? = some b := e1
      have e3' : (w2.S.set n (.dic t' kvs'))[m]? = some o := e3
      by_cases hm : n = m
      · subst hm
        rw [ea2] at e1'; cases e1'
        rw [List.getElem?_set_self hn2] at e3'
        cases e3'
        have ro2 := s2.obj n a _ ea2 e2
        cases t' with
        | false =>
          obtain ⟨ws, ob, q, r⟩ := ro2
          rw [h2a] at q; cases q
          exact ⟨ws, upd_same, Paired.mapP r fun _ _ z => ⟨z.1, z.2.1, z.2.2.monoV mv⟩⟩
        | true =>
          obtain ⟨ws, ob, q, r⟩ := ro2
          rw [h2a] at q; cases q
          exact ⟨ws, upd_same, Paired.mapP r fun _ _ z => ⟨z.1, z.2.1, z.2.2.monoV mv⟩⟩
      · rw [List.getElem?_set_ne hm] at e3'
        have hb : b ≠ a := fun z => by subst z; exact hm (ms_inj s2 ea2 e1')
        exact (s2.obj m b o e1' e3').monoV mv (upd_ne hb)
    · obtain ⟨h1, x, q⟩ := s2.hid b hb
      have hba : b ≠ a := fun z => by subst z; exact h1 (List.mem_of_getElem? ea2)
      exact ⟨h1, x, (upd_ne hba).trans q⟩
  · have le := le1.trans le2
    refine ⟨⟨le.mo.pre, fun b h q l => ?_⟩, le.hid, fun b hb h q => ?_⟩
    · have hb : b ≠ a := fun z => l (.inr ⟨n, _, z ▸ ea, e, trivial⟩)
      obtain ⟨q2, l2⟩ := le.mo.keep b h q l
      exact ⟨(upd_ne hb).trans q2, nlv b hb l2⟩
    · have hba : b ≠ a := fun z => by subst z; exact (s.hid b hb).1 (List.mem_of_getElem? ea)
      exact (upd_ne hba).trans (le.hidk b hb h q)

/-! ### a list that is being built -/
/-- from the world ahead to the world with a new hidden list -/
def Wd.hide (w : Wd) (D : Addr) (o : HO) : Wd := ⟨w.ms, w.S, upd w.H D o, D :: w.hid⟩
theorem Mo.hide {w : Wd} {D : Addr} {o : HO} (e : w.H D = none) : Mo w (w.hide D o) :=
  ⟨⟨[], by simp [Wd.hide]⟩, fun a h q l => ⟨(upd_ne (ne_of_none q e)).trans q, fun hl => by
    rcases hl with hl | hl
    · rcases List.mem_cons.mp hl with rfl | hl
      · rw [e] at q; cases q
      · exact l (.inl hl)
    · exact l (.inr hl)⟩⟩
theorem RelS.hide {K : PySem.W.Frag} {cls : Nat → Addr} {w : Wd} {D : Addr} {o : HO} (s : RelS K cls w) (e : w.H D = none) : RelS K cls (w.hide D o) := by
  have g : ∀ a u, w.H a = some u → upd w.H D o a = some u := upd_grow e
  refine ⟨s.len, s.nd, fun n a h => let ⟨o, q⟩ := s.has n a h; ⟨o, g a o q⟩, fun n a o h1 h2 => ?_, fun a ha => ?_⟩
  · obtain ⟨u, q⟩ := s.has n a h1
    exact (s.obj n a o h1 h2).mono (Mo.hide e) ((g a u q).trans q.symm)
  · rcases List.mem_cons.mp ha with rfl | ha
    · exact ⟨s.fresh e, _, upd_same⟩
    · exact ⟨(s.hid a ha).1, let ⟨o, q⟩ := (s.hid a ha).2; ⟨o, g a o q⟩⟩
/-- the hidden list changed -/
def Wd.poke (w : Wd) (D : Addr) (o : HO) : Wd := ⟨w.ms, w.S, upd w.H D o, w.hid⟩
theorem Mo.poke {w : Wd} {D : Addr} {o : HO} (h : D ∈ w.hid) : Mo w (w.poke D o) :=
  ⟨⟨[], by simp [Wd.poke]⟩, fun a u q l => ⟨(upd_ne fun z => l (.inl (by rw [z]; exact h))).trans q, l⟩⟩
theorem RelS.poke {K : PySem.W.Frag} {cls : Nat → Addr} {w : Wd} {D : Addr} {o : HO} (s : RelS K cls w) (h : D ∈ w.hid) : RelS K cls (w.poke D o) := by
  have ne : ∀ a ∈ w.ms, a ≠ D := fun a ha z => (s.hid D h).1 (z ▸ ha)
  refine ⟨s.len, s.nd, fun n a e => let ⟨o, q⟩ := s.has n a e; ⟨o, (upd_ne (ne a (List.mem_of_getElem? e))).trans q⟩, fun n a o h1 h2 => ?_, fun a ha => ⟨(s.hid a ha).1, ?_⟩⟩
  · exact (s.obj n a o h1 h2).mono (Mo.poke h) (upd_ne (ne a (List.mem_of_getElem? h1)))
  · by_cases z : a = D
    · subst z; exact ⟨_, upd_same⟩
    · obtain ⟨o, q⟩ := (s.hid a ha).2
      exact ⟨o, (upd_ne z).trans q⟩
/-- the hidden list comes out as a value -/
def Wd.show_ (w : Wd) (hid : List Addr) : Wd := ⟨w.ms, w.S, w.H, hid⟩
theorem Mo.show_ {w : Wd} {D : Addr} {hid : List Addr} (h : w.hid = D :: hid) : Mo w (w.show_ hid) :=
  ⟨⟨[], by simp [Wd.show_]⟩, fun a u q l => ⟨q, fun hl => by
    rcases hl with hl | hl
    · exact l (.inl (by rw [h]; exact List.mem_cons_of_mem _ hl))
    · exact l (.inr hl)⟩⟩
theorem RelS.show_ {K : PySem.W.Frag} {cls : Nat → Addr} {w : Wd} {D : Addr} {hid : List Addr} (s : RelS K cls w) (h : w.hid = D :: hid) : RelS K cls (w.show_ hid) :=
  ⟨s.len, s.nd, s.has, fun n a o h1 h2 => (s.obj n a o h1 h2).mono (Mo.show_ h) rfl, fun a ha => s.hid a (by rw [h]; exact List.mem_cons_of_mem _ ha)⟩
/-- a frame of a building: from w, D new, on to wc -/
structure Blt (w wc : Wd) (D : Addr) : Prop where
  hid : wc.hid = D :: w.hid
  pre : ∃ t, wc.ms = w.ms ++ t
  keep : ∀ a h, w.H a = some h → ¬ w.Live a → wc.H a = some h ∧ ¬ wc.Live a
  hidk : ∀ a ∈ w.hid, ∀ h, w.H a = some h → wc.H a = some h
theorem Blt.mo {w wc : Wd} {D : Addr} (b : Blt w wc D) : Mo w wc := ⟨b.pre, b.keep⟩
theorem Blt.start {w : Wd} {D : Addr} {o : HO} (e : w.H D = none) : Blt w (w.hide D o) D := ⟨rfl, (Mo.hide e).pre, (Mo.hide e).keep, fun a _ u q => upd_grow e a u q⟩
theorem Blt.le {w wc wd : Wd} {D : Addr} (b : Blt w wc D) (l : Le wc wd) : Blt w wd D :=
  ⟨l.hid.trans b.hid, (b.mo.trans l.mo).pre, (b.mo.trans l.mo).keep, fun a ha u q => l.hidk a (by rw [b.hid]; exact List.mem_cons_of_mem _ ha) u (b.hidk a ha u q)⟩
theorem Blt.poke {w wc : Wd} {D : Addr} {o : HO} (e : w.H D = none) (b : Blt w wc D) : Blt w (wc.poke D o) D := by
  have m : Mo wc (wc.poke D o) := Mo.poke (by rw [b.hid]; exact List.mem_cons_self)
  exact ⟨b.hid, (b.mo.trans m).pre, (b.mo.trans m).keep, fun a ha u q => (upd_ne (ne_of_none q e)).trans (b.hidk a ha u q)⟩
theorem Blt.end_ {w wc : Wd} {D : Addr} (b : Blt w wc D) : Le w (wc.show_ w.hid) := by
  have m := b.mo.trans (Mo.show_ b.hid)
  exact ⟨⟨m.pre, m.keep⟩, rfl, b.hidk⟩

/-! ### frames -/
abbrev Tau := List (Option A)
structure RelT (K : PySem.W.Frag) (w : Wd) (τ : Tau) (σ : L2.St) : Prop where
  len : τ.length = σ.length
  at_ : ∀ (i : Nat) (a : A), τ[i]? = some (some a) → ∃ v, σ[i]? = some (some v) ∧ RelA K w a v
theorem RelT.monoV {K : PySem.W.Frag} {w w' : Wd} {τ : Tau} {σ : L2.St} (h : Mv w w') (r : RelT K w τ σ) : RelT K w' τ σ :=
  ⟨r.len, fun i a e => let ⟨v, q, z⟩ := r.at_ i a e; ⟨v, q, z.monoV h⟩⟩
theorem RelT.mono {K : PySem.W.Frag} {w w' : Wd} {τ : Tau} {σ : L2.St} (h : Mo w w') (r : RelT K w τ σ) : RelT K w' τ σ :=
  ⟨r.len, fun i a e => let ⟨v, q, z⟩ := r.at_ i a e; ⟨v, q, z.mono h⟩⟩
theorem RelT.set {K : PySem.W.Frag} {w : Wd} {τ : Tau} {σ : L2.St} (r : RelT K w τ σ) {a : A} {v : V} (i : Nat) (q : RelA K w a v) : RelT K w (τ.set i (some a)) (σ.set i (some v)) := by
  refine ⟨by simp [r.len], fun j b e => ?_⟩
  by_cases hj : i = j
  · subst hj
    by_cases hi : i < τ.length
    · rw [List.getElem?_set_self hi] at e
      cases e
      exact ⟨v, List.getElem?_set_self (by rw [← r.len]; exact hi), q⟩
    · rw [List.getElem?_eq_none (by simpa using hi)] at e; cases e
  · rw [List.getElem?_set_ne hj] at e ⊢
    exact r.at_ j b e
/-- the slots of a comprehension's own names forgotten -/
def wipeT (τ : Tau) : List Nat → Tau
  | [] => τ
  | v :: vs => (wipeT τ vs).set v none
theorem RelT.wipe {K : PySem.W.Frag} {w : Wd} {τ : Tau} {σ : L2.St} (r : RelT K w τ σ) : ∀ (vs : List Nat), RelT K w (wipeT τ vs) (wipe σ vs)
  | [] => r
  | v :: vs => by
    have ih := RelT.wipe r vs
    refine ⟨by simp [wipeT, L2.wipe, ih.len], fun j b e => ?_⟩
    unfold wipeT at e
    unfold L2.wipe
    by_cases hj : v = j
    · subst hj
      by_cases hi : v < (wipeT τ vs).length
      · rw [List.getElem?_set_self hi] at e; cases e
      · rw [List.getElem?_eq_none (by simpa using hi)] at e; cases e
    · rw [List.getElem?_set_ne hj] at e ⊢
      exact ih.at_ j b e
end Lt
/-! the small language, what it means -/
namespace Lt
open PySem L2

inductive T where
  | nm (i : Nat) | tup (ts : List T) | star (is : List Nat) (i : Nat)
inductive Ty where
  | int | str | bool | list | tuple | dict | own (c : Nat)
inductive Bi where
  | len | all | any | sum | max | min | int | bool | str | repr | list (fl : Bool) | tuple | dict (t : Bool) | abs | sorted (fl : Bool) | ord | chr
inductive Bm where
  | append | pop | clear | index | join | get | update | insert | extend
inductive IK where
  | seq | rng | enum | zip | zips | keys | vals | items | sgn

/-- a class that isinstance asks for: an own exception, a built-in one -/
inductive Xc where
  | own (c : Nat) | bi (x : String) | glo (x : Str)
inductive E where
  | nm (i : Nat) | frz (e : E) | cN | cB (b : Bool) | cI (i : Int) | cS (x : List Nat) | gl (x : Str)
  | bin (op : Operator) (fl : Bool) (a b : E) | neg (a : E) | no_ (a : E) | and_ (a b : E) | or_ (a b : E) | ifx (t a b : E)
  | cmp (op : CmpOp) (a b : E) | chn (p q : CmpOp) (a b c : E)
  | tup (es : List E) | lst (fl : Bool) (es : List E) | dic (t : Bool) (ks vs : List E)
  | call (d : Nat) (es : List E) | pcall (d : Nat) (es : List E) | kcall (h : Nat) (es ws : List E) | mk (c : Nat) (es : List E) | mth (m : Str) (o : E) (es : List E) | fld (o : E) (f : Str)
  | bi (b : Bi) (es : List E) | isi (e : E) (t : Ty) | bm (m : Bm) (o : E) (es : List E)
  | idx (a b : E) | sl (fl : Bool) (a : E) (lo hi : List E)
  | tab (x : Str) (e : E) | tabIn (neg : Bool) (x : Str) (e : E)
  | kmk (c h : Nat) (es ws : List E) | mk2 (c i : Nat) (es : List E) | xf (o : E) (f : Str) | xis (o : E) (cs : List Xc) (tp : Bool) | inR (neg : Bool) (x lo hi : E) | rev (fl : Bool) (a : E) | fs (es : List E) | fmt (r : Bool) (e : E)
  | cmpI (neg : Bool) (a b : E) | rpI (o : E) | boI (o : E) | strL (o : E)
  | lk (o e : E) | lenO (o : E) | lsv (fl : Bool) (o : E) | lsi (o : E) | lsr (fl : Bool) (src : List E) | tabGet (x : Str) (e d : E)
  | dc (ke ve : E) (t : T) (k : IK) (src : List E) (ifs : List E) (own : List (Str × Nat))
  | lc (fl : Bool) (elt : E) (t : T) (k : IK) (src : List E) (ifs : List E) (own : List (Str × Nat))
  | lc2 (fl : Bool) (elt : E) (t : T) (k : IK) (src : List E) (t2 : T) (k2 : IK) (src2 : List E) (own : List (Str × Nat)) (vs1 : List Nat)
  | srtSet (fl : Bool) (elt : E) (t : T) (k : IK) (src : List E) (ifs : List E) (own : List (Str × Nat))
  | lenSet (elt : E) (t : T) (k : IK) (src : List E) (ifs : List E) (own : List (Str × Nat))
inductive Tg where
  | t (t : T) | sub (o i : E) | fld (o : E) (f : Str)
inductive Sm where
  | asg (t : Tg) (e : E) | aug (i : Nat) (op : Operator) (e : E) | ex (e : E) | ret (e : E) | retN | pass | brk | cont | never
  | ifs (c : E) (a b : List Sm) | forr (t : T) (k : IK) (src : List E) (b : List Sm) | whl (n : Nat) (c : E) (b : List Sm)
  | lk (o : E) (s : Sm)
  | raise (c : Nat) (es : List E) | blk (ss : List Sm) | tryk (b : List Sm) (cs : List (Nat × Option Nat)) (ss : List Sm)

/-! ### answers -/
inductive R (α : Type) where
  | ok (a : α) (S : List O) | ex (c : Nat) (fs : List A) (S : List O) | no
def R.bind {α β : Type} (r : R α) (f : α → List O → R β) : R β := match r with
  | .ok a S => f a S
  | .ex c fs S => .ex c fs S
  | .no => .no
@[simp] theorem R.bind_ok {α β : Type} (a : α) (S : List O) (f : α → List O → R β) : (R.ok a S).bind f = f a S := rfl
@[simp] theorem R.bind_ex {α β : Type} (c : Nat) (fs : List A) (S : List O) (f : α → List O → R β) : (R.ex c fs S).bind f = .ex c fs S := rfl
@[simp] theorem R.bind_no {α β : Type} (f : α → List O → R β) : (R.no : R α).bind f = .no := rfl
def R.of {α : Type} (o : Option α) (S : List O) : R α := match o with | some a => .ok a S | none => .no
@[simp] theorem R.of_some {α : Type} (a : α) (S : List O) : R.of (some a) S = .ok a S := rfl
@[simp] theorem R.of_none {α : Type} (S : List O) : R.of (none : Option α) S = .no := rfl

/-! ### values -/
mutual
def A.eqv : A → A → Bool
  | .non, .non => true
  | .bl a, .bl b => a == b
  | .bl a, .int j => (if a then 1 else 0) == j
  | .int i, .bl b => i == (if b then 1 else 0)
  | .int i, .int j => i == j
  | .str x, .str y => x == y
  | .lst xs, .lst ys => A.eqvs xs ys
  | .tup xs, .tup ys => A.eqvs xs ys
  | _, _ => false
def A.eqvs : List A → List A → Bool
  | [], [] => true
  | x :: xs, y :: ys => A.eqv x y && A.eqvs xs ys
  | _, _ => false
end
mutual
/-- no object within -/
def A.pure : A → Bool
  | .ref _ => false
  | .scr _ => false
  | .ktup _ => false
  | .tup xs => A.pures xs
  | .lst xs => A.pures xs
  | _ => true
def A.pures : List A → Bool
  | [] => true
  | x :: xs => A.pure x && A.pures xs
end
mutual
def A.depth : A → Nat
  | .tup xs => A.depths xs + 1
  | .lst xs => A.depths xs + 1
  | _ => 0
def A.depths : List A → Nat
  | [] => 0
  | x :: xs => max (A.depth x) (A.depths xs)
end
/-- a list's object as the value that it holds now -/
def der (S : List O) : A → A
  | .ref n => match S[n]? with
    | some (.lst xs) => .lst xs
    | _ => .ref n
  | a => a
/-- a value with the lists that it holds, as they are now -/
def derD (S : List O) : Nat → A → A
  | 0, a => a
  | n + 1, a => match a with
    | .ref m => match S[m]? with
      | some (.lst xs) => .lst (xs.map (derD S n))
      | _ => .ref m
    | .tup xs => .tup (xs.map (derD S n))
    | .lst xs => .lst (xs.map (derD S n))
    | .ktup xs => .tup (xs.map (derD S n))
    | a => a
def fitsEq (a b : A) : Bool := a.pure && b.pure && decide (min a.depth b.depth ≤ 64)
def eqO (S : List O) (a b : A) : Option Bool := if fitsEq (der S a) (der S b) then some ((der S a).eqv (der S b)) else if fitsEq (derD S 6 a) (derD S 6 b) then some ((derD S 6 a).eqv (derD S 6 b)) else none

def truO (S : List O) : A → Option Bool
  | .non => some false
  | .bl b => some b
  | .int i => some (i != 0)
  | .str x => some (!x.isEmpty)
  | .tup xs => some (!xs.isEmpty)
  | .lst xs => some (!xs.isEmpty)
  | .scr xs => some (!xs.isEmpty)
  | .ktup xs => some (!xs.isEmpty)
  | .ref n => match S[n]? with
    | some (.lst xs) => some (!xs.isEmpty)
    | some (.dic false kvs) => some (!kvs.isEmpty)
    | _ => none
/-- the items of a list or a tuple -/
def seqO (S : List O) : A → Option (List A)
  | .tup xs => some xs
  | .lst xs => some xs
  | .scr xs => some xs
  | .ktup xs => some xs
  | .ref n => match S[n]? with
    | some (.lst xs) => some xs
    | _ => none
  | _ => none
def lenO (S : List O) : A → Option Nat
  | .str x => some x.length
  | a => (seqO S a).map List.length
def mkL (fl : Bool) (xs : List A) (S : List O) : R A := if fl then .ok (.ref S.length) (S ++ [.lst xs]) else .ok (.lst xs) S
def small (i : Int) : Prop := -(2 ^ 64) < i ∧ i < 2 ^ 64
instance (i : Int) : Decidable (small i) := by unfold small; infer_instance

def binO (op : Operator) (fl : Bool) (a b : A) (S : List O) : R A := match op, a, b with
  | .Add, .int i, .int j => .ok (.int (i + j)) S
  | .Sub, .int i, .int j => .ok (.int (i - j)) S
  | .Mult, .int i, .int j => if small i ∨ small j then .ok (.int (i * j)) S else .no
  | .FloorDiv, .int i, .int j => if 0 < j ∧ j < 1073741824 then .ok (.int (i / j)) S else .no
  | .Mod, .int i, .int j => if 0 < j then .ok (.int (i % j)) S else .no
  | .Pow, .int i, .int j => if 0 ≤ j ∧ j ≤ 1000000 ∧ i.natAbs < 2 ^ 64 then .ok (.int (i ^ j.toNat)) S else .no
  | .Add, .str x, .str y => if x.length + y.length ≤ sizeLine then .ok (.str (x ++ y)) S else .no
  | .Add, .tup xs, .tup ys => if xs.length + ys.length ≤ sizeLine then .ok (.tup (xs ++ ys)) S else .no
  | .Mult, .tup xs, .int j => if 0 ≤ j ∧ j < 2 ^ 63 ∧ xs.length * j.toNat ≤ sizeLine then .ok (.tup (List.replicate j.toNat xs).flatten) S else .no
  | .Mult, .str x, .int j => if 0 ≤ j ∧ j < 1000000 ∧ x.length * j.toNat ≤ 1000000 then .ok (.str (List.replicate j.toNat x).flatten) S else .no
  | .Add, a, b => match der S a, der S b with
    | .lst xs, .lst ys => if xs.length + ys.length ≤ sizeLine then mkL fl (xs ++ ys) S else .no
    | _, _ => .no
  | .Mult, a, .int j => match der S a with
    | .lst xs => if 0 ≤ j ∧ j < 2 ^ 63 ∧ xs.length * j.toNat ≤ sizeLine then mkL fl (List.replicate j.toNat xs).flatten S else .no
    | _ => .no
  | _, _, _ => .no

def keyEq (a b : A) : Bool := a.eqv b
def valO (kvs : List (A × A)) (k : A) : Option A := (kvs.find? fun p => p.1.eqv k).map (·.2)
def putO (kvs : List (A × A)) (k v : A) : List (A × A) :=
  if (kvs.any fun p => p.1.eqv k) then kvs.map fun p => if p.1.eqv k then (p.1, v) else p else kvs ++ [(k, v)]
def mergeO (kvs : List (A × A)) : List (A × A) := kvs.foldl (fun acc p => putO acc p.1 p.2) []
/-- a constant that is a key -/
def constK : E → Option A
  | .cS x => some (.str x)
  | .cI i => some (.int i)
  | _ => none
def keysC : List E → Option (List A)
  | [] => some []
  | e :: es => match constK e, keysC es with
    | some k, some ks => some (k :: ks)
    | _, _ => none
/-- fit to be a key of a dict of that kind -/
def fitKey (t : Bool) (k : A) : Bool := if t then (tkeyOf k).isSome else (keyOf k).isSome
def dicO (S : List O) : A → Option (Bool × List (A × A))
  | .ref n => match S[n]? with
    | some (.dic t kvs) => some (t, kvs)
    | _ => none
  | _ => none
/-- .. a dict that is walked, too -/
def dicR (S : List O) : A → Option (Bool × List (A × A))
  | .ref n => match S[n]? with
    | some (.dic t kvs) => some (t, kvs)
    | some (.fdic t kvs) => some (t, kvs)
    | _ => none
  | _ => none
theorem dicR_of {S : List O} {a : A} {x : Bool × List (A × A)} (h : dicO S a = some x) : dicR S a = some x := by
  unfold dicO at h
  unfold dicR
  split at h
  · split at h
    · rename_i e; cases h; simp only [e]
    · cases h
  · cases h
def inO (S : List O) (a b : A) : Option Bool := match a, der S b with
  | .str [c], .str y => some (decide (c ∈ y))
  | a, .tup xs => if A.pures xs && a.pure && decide (min a.depth (A.depths xs) ≤ 63) then some (xs.any fun z => z.eqv a) else none
  | a, .ktup xs => if A.pures xs && a.pure && decide (min a.depth (A.depths xs) ≤ 63) then some (xs.any fun z => z.eqv a) else none
  | a, .lst xs => if A.pures xs && a.pure && decide (min a.depth (A.depths xs) ≤ 63) then some (xs.any fun z => z.eqv a) else none
  | a, .ref n => match dicR S (.ref n) with
    | some (t, kvs) => if fitKey t a then some (valO kvs a).isSome else none
    | _ => none
  | _, _ => none
def cmpO (op : CmpOp) (a b : A) (S : List O) : Option Bool := match op with
  | .Eq => eqO S a b
  | .NotEq => (eqO S a b).map not
  | .In => inO S a b
  | .NotIn => (inO S a b).map not
  | .Is => match b with | .non => some (match a with | .non => true | _ => false) | .bl q => (match a with | .bl p => some (p == q) | _ => none) | _ => none
  | .IsNot => match b with | .non => some (match a with | .non => false | _ => true) | .bl q => (match a with | .bl p => some (!(p == q)) | _ => none) | _ => none
  | .Lt => match a, b with | .int i, .int j => some (decide (i < j)) | _, _ => none
  | .LtE => match a, b with | .int i, .int j => some (decide (i ≤ j)) | _, _ => none
  | .Gt => match a, b with | .int i, .int j => some (decide (j < i)) | _, _ => none
  | .GtE => match a, b with | .int i, .int j => some (decide (j ≤ i)) | _, _ => none
def idxO (S : List O) (a b : A) : Option A := match a, b with
  | .str x, .int i => (atI x i).map fun c => .str [c]
  | a, b => match seqO S a, b with
    | some xs, .int i => atI xs i
    | _, _ => match dicR S a with
      | some (t, kvs) => if fitKey t b then valO kvs b else none
      | none => none
def cutA {α : Type} (xs : List α) (lo hi : Option Int) : List α := (xs.drop (HT.sIx xs.length 0 lo)).take (HT.sIx xs.length xs.length hi - HT.sIx xs.length 0 lo)
def partO : List A → Option (Option Int)
  | [] => some none
  | [.int i] => some (some i)
  | _ => none
def slO (fl : Bool) (a : A) (lo hi : Option Int) (S : List O) : R A := match der S a with
  | .str x => .ok (.str (cutA x lo hi)) S
  | .tup xs => .ok (.tup (cutA xs lo hi)) S
  | .lst xs => mkL fl (cutA xs lo hi) S
  | _ => .no
/-- how the name of a value's type stands -/
def tyK : Ty → Ty → Bool
  | .bool, .int => true
  | .int, .int => true | .str, .str => true | .bool, .bool => true | .list, .list => true | .tuple, .tuple => true | .dict, .dict => true
  | _, _ => false
def tyO (nc : Nat) (S : List O) (a : A) (t : Ty) : Option Bool := match a with
  | .non => some false
  | .bl _ => some (tyK .bool t)
  | .int _ => some (tyK .int t)
  | .str _ => some (tyK .str t)
  | .tup _ => some (tyK .tuple t)
  | .lst _ => some (tyK .list t)
  | .ref n => match S[n]? with
    | some (.lst _) => some (tyK .list t)
    | some (.dic _ _) => some (tyK .dict t)
    | some (.ins c _) => if c < nc then some (match t with | .own d => c == d | _ => false) else none
    | _ => none
  | _ => none
def boolsO : List A → Option (List Bool)
  | [] => some []
  | .bl b :: r => (boolsO r).map (b :: ·)
  | _ => none
def intsO : List A → Option (List Int)
  | [] => some []
  | .int b :: r => (intsO r).map (b :: ·)
  | _ => none
def strsO : List A → Option (List (List Nat))
  | [] => some []
  | .str b :: r => (strsO r).map (b :: ·)
  | _ => none
def insI (x : Int) : List Int → List Int
  | [] => [x]
  | y :: r => if x ≤ y then x :: y :: r else y :: insI x r
def srtI : List Int → List Int
  | [] => []
  | x :: r => insI x (srtI r)
/-- an (int, text) -/
def isPS : A → Bool
  | .tup [.int _, .str _] => true
  | _ => false
def keyI : A → Int
  | .tup [.int i, .str _] => i
  | _ => 0
def psO (xs : List A) : Bool := xs.all isPS
def insP (x : A) : List A → List A
  | [] => [x]
  | y :: r => if keyI x ≤ keyI y then x :: y :: r else y :: insP x r
def srtP : List A → List A
  | [] => []
  | x :: r => insP x (srtP r)
def joinN (sep : List Nat) : List (List Nat) → List Nat
  | [] => []
  | [x] => x
  | x :: r => x ++ sep ++ joinN sep r
/-- the items of a list -/
def lstO (S : List O) (a : A) : Option (List A) := match der S a with
  | .lst xs => some xs
  | .scr xs => some xs
  | _ => none
/-- pairs of a key and a value -/
def pairsO : List A → Option (List (A × A))
  | [] => some []
  | .tup [k, v] :: r => if (keyOf k).isSome then (pairsO r).map ((k, v) :: ·) else none
  | _ => none
mutual
def A.dat : A → PyData
  | .non => .none
  | .bl b => .bool b
  | .int i => .int i
  | .str x => .str (mkS x)
  | .ref _ => .none
  | .tup xs => .tuple (A.dats xs)
  | .lst xs => .list (A.dats xs)
  | .scr _ => .none
  | .ktup _ => .none
def A.dats : List A → List PyData
  | [] => []
  | x :: xs => A.dat x :: A.dats xs
end
/-- an empty dict -/
def isEd (S : List O) : A → Bool
  | .ref n => match S[n]? with
    | some (.dic false kvs) => kvs.isEmpty
    | _ => false
  | _ => false
/-- what repr writes -/
def reprO (S : List O) (a : A) : Option (List Nat) := if isEd S a then some [123, 125] else if (derD S 6 a).pure && (derD S 6 a).dat.showable && decide ((derD S 6 a).dat.depth ≤ 60) && decide ((derD S 6 a).dat.shown.length ≤ sizeLine) && ((derD S 6 a).dat.shown.cps.toList.all fun c => decide (c < 0x110000)) then some (derD S 6 a).dat.shown.cps.toList else none
/-- a whole number's text -/
def intT (i : Int) : List Nat := (Str.ofString (toString i)).cps.toList
def okT (x : List Nat) : Bool := decide (x.length ≤ sizeLine) && x.all fun c => decide (c < 0x110000)
def strI (i : Int) : Option (List Nat) := if decide (i.natAbs.log2 < 1920) && okT (intT i) then some (intT i) else none
def reprS (x : List Nat) : List Nat := (reprText (mkS x)).cps.toList
/-- a part of an f-string -/
def fmtO (r : Bool) (v : A) : Option (List Nat) := match v with
  | .str x => if r then (if okT (reprS x) then some (reprS x) else none) else some x
  | .int i => strI i
  | _ => none
/-- .. of a list or a tuple, too -/
def fmtS (S : List O) (r : Bool) (v : A) : Option (List Nat) := if r && (seqO S v).isSome then reprO S v else fmtO r v
def biO (b : Bi) (vs : List A) (S : List O) : R A := match b, vs with
  | .len, [a] => R.of ((lenO S a).map fun (n : Nat) => .int (n : Int)) S
  | .all, [a] => R.of (((lstO S a).bind boolsO).map fun bs => .bl (bs.all id)) S
  | .any, [a] => R.of (((lstO S a).bind boolsO).map fun bs => .bl (bs.any id)) S
  | .sum, [a] => R.of (((lstO S a).bind intsO).map fun bs => .int bs.sum) S
  | .max, [.int i, .int j] => .ok (.int (if j > i then j else i)) S
  | .min, [.int i, .int j] => .ok (.int (if j < i then j else i)) S
  | .abs, [.int i] => .ok (.int (if i < 0 then -i else i)) S
  | .int, [.int i] => .ok (.int i) S
  | .int, [.bl k] => .ok (.int (if k then 1 else 0)) S
  | .bool, [.int i] => .ok (.bl (i != 0)) S
  | .bool, [.bl k] => .ok (.bl k) S
  | .list fl, [.str x] => mkL fl (x.map fun c => .str [c]) S
  | .list fl, [a] => match seqO S a with
    | some xs => mkL fl xs S
    | none => match dicO S a with
      | some (false, kvs) => mkL fl (kvs.map (·.1)) S
      | _ => .no
  | .sorted fl, [a] => match lstO S a with
    | some xs => match intsO xs with
      | some ns => mkL fl ((srtI ns).map .int) S
      | none => if psO xs = true ∧ (xs.map keyI).Nodup then mkL fl (srtP xs) S else .no
    | none => match dicO S a with
      | some (false, kvs) => match intsO (kvs.map (·.1)) with
        | some ns => if ns.length < 64 then mkL fl ((srtI ns).map .int) S else .no
        | none => .no
      | _ => .no
  | .dict false, [a] => match dicO S a with
    | some (false, kvs) => .ok (.ref S.length) (S ++ [.dic false kvs])
    | _ => match (lstO S a).bind pairsO with
      | some kvs => .ok (.ref S.length) (S ++ [.dic false (mergeO kvs)])
      | none => .no
  | .repr, [a] => R.of ((reprO S a).map .str) S
  | .str, [.int i] => R.of ((strI i).map .str) S
  | .tuple, [.tup xs] => .ok (.tup xs) S
  | .tuple, [.ktup xs] => .ok (.ktup xs) S
  | .tuple, [a] => match lstO S a with
    | some xs => .ok (.tup xs) S
    | none => .no
  | _, _ => .no
/-- o.m(..): what it gives -/
def bmO (m : Bm) (o : A) (vs : List A) (S : List O) : R A := match m, o, vs with
  | .append, .ref n, [y] => match S[n]? with
    | some (.lst xs) => if xs.length < sizeLine then .ok .non (S.set n (.lst (xs ++ [y]))) else .no
    | _ => .no
  | .clear, .ref n, [] => match S[n]? with
    | some (.lst xs) => .ok .non (S.set n (.lst []))
    | _ => .no
  | .pop, .ref n, [] => match S[n]? with
    | some (.lst xs) => match xs[xs.length - 1]? with
      | some y => .ok y (S.set n (.lst xs.dropLast))
      | none => .no
    | _ => .no
  | .pop, .ref n, [.int i] => match S[n]? with
    | some (.lst xs) => if -(2 ^ 63) ≤ i ∧ i < 2 ^ 63 then match seqIndex? i xs.length with
      | some k => match xs[k]? with
        | some y => .ok y (S.set n (.lst (xs.eraseIdx k)))
        | none => .no
      | none => .no else .no
    | _ => .no
  | .index, a, [y] => match lstO S a with
    | some xs => if A.pures xs && y.pure && decide (A.depths xs ≤ 60) && decide (y.depth ≤ 60) then (match xs.findIdx? (fun z => z.eqv y) with
      | some j => .ok (.int (j : Int)) S
      | none => .no) else .no
    | none => .no
  | .get, a, [k] => match dicO S a with
    | some (t, kvs) => if fitKey t k then .ok ((valO kvs k).getD .non) S else .no
    | none => .no
  | .get, a, [k, d] => match dicO S a with
    | some (t, kvs) => if fitKey t k then .ok ((valO kvs k).getD d) S else .no
    | none => .no
  | .update, .ref n, [.ref m] => match S[n]?, S[m]? with
    | some (.dic false kvs), some (.dic false more) => if n ≠ m ∧ kvs.length + more.length ≤ 1000000 then .ok .non (S.set n (.dic false (more.foldl (fun acc p => putO acc p.1 p.2) kvs))) else .no
    | _, _ => .no
  | .insert, .ref n, [.int i, y] => match S[n]? with
    | some (.lst xs) => if xs.length < sizeLine ∧ 0 ≤ i ∧ i < 2 ^ 63 then .ok .non (S.set n (.lst (xs.take i.toNat ++ [y] ++ xs.drop i.toNat))) else .no
    | _ => .no
  | .extend, .ref n, [a] => match S[n]?, der S a with
    | some (.lst xs), .lst ys => if xs.length + ys.length ≤ sizeLine then .ok .non (S.set n (.lst (xs ++ ys))) else .no
    | some (.lst xs), .tup ys => if xs.length + ys.length ≤ sizeLine then .ok .non (S.set n (.lst (xs ++ ys))) else .no
    | _, _ => .no
  | .join, .str sep, [a] => match (seqO S a).bind strsO with
    | some ys => if (ys.map List.length).sum + ys.length * sep.length ≤ 16777216 then .ok (.str (joinN sep ys)) S else .no
    | none => .no
  | _, _, _ => .no

/-- a value of the method's type -/
def bmFit (m : Bm) (S : List O) (a : A) : Bool := match m with
  | .join => (match a with | .str _ => true | _ => false)
  | .get => (dicO S a).isSome
  | .update => (dicO S a).isSome
  | _ => (lstO S a).isSome
/-! ### iteration -/
abbrev Gd := List (Nat × List A)
def Gd.ok (g : Gd) (S : List O) : Prop := ∀ p ∈ g, S[p.1]? = some (.lst p.2)
mutual
/-- the very same -/
def A.same : A → A → Bool
  | .non, .non => true
  | .bl a, .bl b => a == b
  | .int i, .int j => i == j
  | .str x, .str y => x == y
  | .ref n, .ref m => n == m
  | .tup xs, .tup ys => A.sames xs ys
  | .lst xs, .lst ys => A.sames xs ys
  | .scr xs, .scr ys => A.sames xs ys
  | .ktup xs, .ktup ys => A.sames xs ys
  | _, _ => false
def A.sames : List A → List A → Bool
  | [], [] => true
  | x :: xs, y :: ys => A.same x y && A.sames xs ys
  | _, _ => false
end
mutual
theorem A.same_eq : ∀ (a b : A), A.same a b = true → a = b
  | .non, b, h => by cases b <;> simp_all [A.same]
  | .bl x, b, h => by cases b <;> simp_all [A.same]
  | .int x, b, h => by cases b <;> simp_all [A.same]
  | .str x, b, h => by cases b <;> simp_all [A.same]
  | .ref x, b, h => by cases b <;> simp_all [A.same]
  | .tup xs, b, h => by
    cases b <;> simp only [A.same] at h <;> first | (cases h; done) | rw [A.sames_eq _ _ h]
  | .lst xs, b, h => by
    cases b <;> simp only [A.same] at h <;> first | (cases h; done) | rw [A.sames_eq _ _ h]
  | .scr xs, b, h => by
    cases b <;> simp only [A.same] at h <;> first | (cases h; done) | rw [A.sames_eq _ _ h]
  | .ktup xs, b, h => by
    cases b <;> simp only [A.same] at h <;> first | (cases h; done) | rw [A.sames_eq _ _ h]
theorem A.sames_eq : ∀ (a b : List A), A.sames a b = true → a = b
  | [], [], _ => rfl
  | [], _ :: _, h => by simp [A.sames] at h
  | _ :: _, [], h => by simp [A.sames] at h
  | x :: xs, y :: ys, h => by
    simp only [A.sames, Bool.and_eq_true] at h
    rw [A.same_eq x y h.1, A.sames_eq xs ys h.2]
end
mutual
theorem A.same_refl : ∀ (a : A), A.same a a = true
  | .non => rfl
  | .bl x => by simp [A.same]
  | .int x => by simp [A.same]
  | .str x => by simp [A.same]
  | .ref x => by simp [A.same]
  | .tup xs => by simp only [A.same]; exact A.sames_refl xs
  | .lst xs => by simp only [A.same]; exact A.sames_refl xs
  | .scr xs => by simp only [A.same]; exact A.sames_refl xs
  | .ktup xs => by simp only [A.same]; exact A.sames_refl xs
theorem A.sames_refl : ∀ (a : List A), A.sames a a = true
  | [] => rfl
  | x :: xs => by simp only [A.sames, A.same_refl x, A.sames_refl xs, Bool.and_self]
end
def Gd.okB (g : Gd) (S : List O) : Bool := g.all fun p => match S[p.1]? with
  | some (.lst xs) => A.sames xs p.2
  | _ => false
theorem Gd.okB_iff {g : Gd} {S : List O} : Gd.okB g S = true ↔ Gd.ok g S := by
  unfold Gd.okB Gd.ok
  rw [List.all_eq_true]
  constructor
  · intro h p hp
    have := h p hp
    split at this
    · rename_i xs e; rw [e, A.sames_eq _ _ this]
    · cases this
  · intro h p hp
    rw [h p hp]
    exact A.sames_refl _
instance (g : Gd) (S : List O) : Decidable (Gd.ok g S) := if h : Gd.okB g S = true then isTrue (Gd.okB_iff.mp h) else isFalse fun z => h (Gd.okB_iff.mpr z)
def rngA (lo : Int) : Nat → List A
  | 0 => []
  | n + 1 => .int lo :: rngA (lo + 1) n
def enumA (i : Int) : List A → List A
  | [] => []
  | x :: xs => .tup [.int i, x] :: enumA (i + 1) xs
def zipA : List A → List A → List A
  | x :: xs, y :: ys => .tup [x, y] :: zipA xs ys
  | _, _ => []
def gdA : A → List A → Gd
  | .ref n, xs => [(n, xs)]
  | _, _ => []
/-- what zip takes: a list, a tuple, a text -/
def zipO (S : List O) : A → Option (List A)
  | .str x => some (x.map fun c => .str [c])
  | a => seqO S a
/-- a dict that is walked -/
def fdicO (S : List O) : A → Option (List (A × A))
  | .ref n => match S[n]? with
    | some (.fdic false kvs) => some kvs
    | _ => none
  | _ => none
def unlk (n : Nat) (S : List O) : Option (List O) := match S[n]? with
  | some (.fdic t kvs) => some (S.set n (.dic t kvs))
  | _ => none
def R.unlk {α : Type} (n : Nat) (r : R α) : R α := match r with
  | .ok a S => match Lt.unlk n S with | some S' => .ok a S' | none => .no
  | _ => .no
/-- the dict that is to be walked -/
def lkO (S : List O) (r : R A) : Option (Nat × List O) := match r with
  | .ok (.ref n) _ => match S[n]? with
    | some (.dic t kvs) => some (n, S.set n (.fdic t kvs))
    | _ => none
  | _ => none
theorem lkO_eq {S S1 : List O} {r : R A} {n : Nat} (h : lkO S r = some (n, S1)) : ∃ t kvs, S[n]? = some (.dic t kvs) ∧ S1 = S.set n (.fdic t kvs) := by
  unfold lkO at h
  split at h
  · split at h
    · rename_i e; cases h; exact ⟨_, _, e, rfl⟩
    · cases h
  · cases h
theorem unlk_eq {S S1 : List O} {n : Nat} (h : unlk n S = some S1) : ∃ t kvs, S[n]? = some (.fdic t kvs) ∧ S1 = S.set n (.dic t kvs) := by
  unfold unlk at h
  split at h
  · rename_i e; cases h; exact ⟨_, _, e, rfl⟩
  · cases h
def srcO (k : IK) (vs : List A) (S : List O) : Option (List A × Gd) := match k, vs with
  | .seq, [a] => (seqO S a).map fun xs => (xs, gdA a xs)
  | .sgn, [.str x] => some (x.map fun c => .str [c], [])
  | .rng, [.int j] => if -(2 ^ 62) ≤ j ∧ j < 2 ^ 62 then some (rngA 0 j.toNat, []) else none
  | .rng, [.int i, .int j] => if -(2 ^ 62) ≤ i ∧ i < 2 ^ 62 ∧ -(2 ^ 62) ≤ j ∧ j < 2 ^ 62 then some (rngA i (j - i).toNat, []) else none
  | .enum, [a] => (zipO S a).map fun xs => (enumA 0 xs, gdA a xs)
  | .zip, [a, b] => match zipO S a, zipO S b with
    | some xs, some ys => some (zipA xs ys, gdA a xs ++ gdA b ys)
    | _, _ => none
  | .zips, [a, b] => match zipO S a, zipO S b with
    | some xs, some ys => if xs.length = ys.length then some (zipA xs ys, gdA a xs ++ gdA b ys) else none
    | _, _ => none
  | .keys, [a] => (fdicO S a).map fun kvs => (kvs.map (·.1), [])
  | .vals, [a] => (fdicO S a).map fun kvs => (kvs.map (·.2), [])
  | .items, [a] => (fdicO S a).map fun kvs => (kvs.map fun p => .tup [p.1, p.2], [])
  | _, _ => none
mutual
/-- the slots that a target stores -/
def T.slots : T → List Nat
  | .nm i => [i]
  | .tup ts => T.slotss ts
  | .star is i => is ++ [i]
def T.slotss : List T → List Nat
  | [] => []
  | t :: ts => T.slots t ++ T.slotss ts
end
def asgN : List Nat → List A → Tau → Option Tau
  | [], [], τ => some τ
  | i :: is, x :: xs, τ => asgN is xs (τ.set i (some x))
  | _, _, _ => none
mutual
def T.asg : T → A → Tau → Option Tau
  | .nm i, a, τ => some (τ.set i (some a))
  | .tup ts, .tup xs, τ => T.asgs ts xs τ
  | .tup ts, .ktup xs, τ => T.asgs ts xs τ
  | .tup _, _, _ => none
  | .star is i, .tup xs, τ => if is.length ≤ xs.length then asgN (is ++ [i]) (xs.take is.length ++ [.lst (xs.drop is.length)]) τ else none
  | .star is i, .ktup xs, τ => if is.length ≤ xs.length then asgN (is ++ [i]) (xs.take is.length ++ [.lst (xs.drop is.length)]) τ else none
  | .star _ _, _, _ => none
def T.asgs : List T → List A → Tau → Option Tau
  | [], [], τ => some τ
  | t :: ts, x :: xs, τ => match T.asg t x τ with
    | some τ' => T.asgs ts xs τ'
    | none => none
  | _, _, _ => none
end

abbrev Cal := Nat → List A → List O → R A
/-- a call apart: of plain values, in a store of its own; a plain value comes back, what else it made is left -/
def pcal (cal : Cal) (d : Nat) (xs : List A) (S : List O) : R A := if A.pures xs then (match cal d xs [] with
  | .ok v _ => if v.pure then .ok v S else .no
  | .ex c fs _ => if A.pures fs then .ex c fs S else .no
  | .no => .no) else cal d xs S
/-- what is told of classes: the def of __init__, the methods' -/
structure Ci where
  name : Str
  init : Option Nat
  meths : List (Str × Nat)
  fields : List Str
/-- a call by names: the def, how many by position, the names, where each parameter's value is found -/
structure Kc where
  d : Nat
  np : Nat
  ks : List Str
  out : List Nat
def Kc.fill {α : Type} (c : Kc) (n : α) (xs zs : List α) : List α := if xs.length = c.np ∧ zs.length = c.ks.length then c.out.map fun i => (xs ++ zs).getD i n else []
/-- a call with the last parameters left out: the def, how many are written, the defaults' values -/
structure Dq where
  d : Nat
  np : Nat
  vals : List A
/-- the text's tables: constants, classes, the defs' names -/
structure Gt where
  consts : List (Str × A)
  clss : List Ci
  /-- the text's own exceptions: name, fields -/
  xcs : List (Str × List Str)
  dnames : List (Option Str)
  kwc : List Kc := []
  /-- dicts of the module, from texts -/
  tabs : List (Str × List (List Nat × A)) := []
  dft : List Dq := []
  /-- other classes of the text, which no own exception stands under -/
  xo : List Str := []
/-- where the classes, the exceptions, the defs stand -/
structure Ad where
  cls : Nat → Addr
  xc : Nat → Addr
  df : Nat → Addr
  tb : Str → Addr
def Gt.cls (G : Gt) (c : Nat) : Option Ci := G.clss[c]?
def putF {α : Type} (f : Str) (v : α) : List (Str × α) → List (Str × α)
  | [] => [(f, v)]
  | (g, x) :: r => if g = f then (g, v) :: r else (g, x) :: putF f v r

/-- what len takes from an own __len__ -/
def rpChk (v : A) (S : List O) : R A := match v with
  | .str x => .ok (.str x) S
  | _ => .no
def stChk (v : A) (S : List O) : R A := match v with
  | .str x => if x.length + 2 ≤ sizeLine then .ok (.str ([91] ++ x ++ [93])) S else .no
  | _ => .no
def boChk (v : A) (S : List O) : R A := match v with
  | .int i => if 0 ≤ i ∧ i < 2 ^ 63 then .ok (.bl (i != 0)) S else .no
  | _ => .no
def blChk (neg : Bool) (v : A) (S : List O) : R A := match v with
  | .bl k => .ok (.bl (neg != k)) S
  | _ => .no
/-- what an own == may be asked of (!=: of one of the same class alone) -/
def nfO (neg : Bool) (S : List O) (c : Nat) (y : A) : Bool := match y with
  | .non => !neg
  | .bl _ => !neg
  | .int _ => !neg
  | .str _ => !neg
  | .tup _ => !neg
  | .lst _ => !neg
  | .ref m => match S[m]? with
    | some (.ins d _) => d == c
    | some (.lst _) => !neg
    | some (.dic _ _) => !neg
    | _ => false
  | _ => false
def lenChk (v : A) (S : List O) : R A := match v with
  | .int i => if 0 ≤ i ∧ i < 2 ^ 63 then .ok (.int i) S else .no
  | _ => .no
/-- the built-in bases of own exceptions (all stand under ValueError) -/
def xBi (x : String) : Option Bool := if x = "ValueError" then some true else if x = "KeyError" then some false else if x = "LookupError" then some false else if x = "IndexError" then some false else if x = "RuntimeError" then some false else none
def isX (xo : List Str) (n c : Nat) : Xc → Option Bool
  | .own d => if d < n then some (c == d) else none
  | .glo x => if xo.contains x then some false else none
  | .bi x => xBi x
def anyX (xo : List Str) (n c : Nat) : List Xc → Option Bool
  | [] => some false
  | x :: xs => match isX xo n c x, anyX xo n c xs with
    | some a, some b => some (a || b)
    | _, _ => none
section
variable (G : Gt) (cal : Cal)
/-- a comprehension's turns: the list so far at L -/
noncomputable def lcD (g : Gd) (asg : A → Tau → Option Tau) (cond : Tau → List O → R Bool) (elt : Tau → List O → R A) (τ : Tau) (acc : List A) : List A → List O → R (List A)
  | [], S => if g.ok S then .ok acc S else .no
  | x :: xs, S => if g.ok S then match asg x τ with
      | none => .no
      | some τ1 => match cond τ1 S with
        | .ok true S1 => match elt τ1 S1 with
          | .ok y S2 => lcD g asg cond elt τ (acc ++ [y]) xs S2
          | _ => .no
        | .ok false S1 => lcD g asg cond elt τ acc xs S1
        | _ => .no
    else .no
/-- .. a set's, of whole numbers -/
noncomputable def siD (g : Gd) (asg : A → Tau → Option Tau) (cond : Tau → List O → R Bool) (elt : Tau → List O → R A) (τ : Tau) (acc : List Int) : List A → List O → R (List Int)
  | [], S => if g.ok S then .ok acc S else .no
  | x :: xs, S => if g.ok S then match asg x τ with
      | none => .no
      | some τ1 => match cond τ1 S with
        | .ok true S1 => match elt τ1 S1 with
          | .ok (.int y) S2 => siD g asg cond elt τ (if y ∈ acc then acc else acc ++ [y]) xs S2
          | _ => .no
        | .ok false S1 => siD g asg cond elt τ acc xs S1
        | _ => .no
    else .no
/-- the outer one of two -/
noncomputable def ocD (g : Gd) (asg : A → Tau → Option Tau) (inner : Tau → List A → List O → R (List A)) (τ : Tau) (acc : List A) : List A → List O → R (List A)
  | [], S => if g.ok S then .ok acc S else .no
  | x :: xs, S => if g.ok S then match asg x τ with
      | none => .no
      | some τ1 => match inner τ1 acc S with
        | .ok acc' S2 => ocD g asg inner τ acc' xs S2
        | _ => .no
    else .no
/-- .. a set's, of texts -/
noncomputable def stD (g : Gd) (asg : A → Tau → Option Tau) (cond : Tau → List O → R Bool) (elt : Tau → List O → R A) (τ : Tau) (acc : List (List Nat)) : List A → List O → R (List (List Nat))
  | [], S => if g.ok S then .ok acc S else .no
  | x :: xs, S => if g.ok S then match asg x τ with
      | none => .no
      | some τ1 => match cond τ1 S with
        | .ok true S1 => match elt τ1 S1 with
          | .ok (.str y) S2 => stD g asg cond elt τ (if y ∈ acc then acc else acc ++ [y]) xs S2
          | _ => .no
        | .ok false S1 => stD g asg cond elt τ acc xs S1
        | _ => .no
    else .no
/-- .. a dict's -/
noncomputable def dcD (g : Gd) (asg : A → Tau → Option Tau) (cond : Tau → List O → R Bool) (elt : Tau → List O → R (A × A)) (τ : Tau) (acc : List (A × A)) : List A → List O → R (List (A × A))
  | [], S => if g.ok S then .ok acc S else .no
  | x :: xs, S => if g.ok S then match asg x τ with
      | none => .no
      | some τ1 => match cond τ1 S with
        | .ok true S1 => match elt τ1 S1 with
          | .ok y S2 => if (keyOf y.1).isSome then dcD g asg cond elt τ (putO acc y.1 y.2) xs S2 else .no
          | _ => .no
        | .ok false S1 => dcD g asg cond elt τ acc xs S1
        | _ => .no
    else .no
mutual
noncomputable def den : E → Tau → List O → R A
  | .nm i, τ, S => match τ[i]? with | some (some a) => .ok a S | _ => .no
  | .frz e, τ, S => (den e τ S).bind fun a S1 => match a with
    | .ref n => match S1[n]? with
      | some (.lst xs) => .ok (.lst xs) (S1.set n .dead)
      | _ => .no
    | _ => .no
  | .cN, _, S => .ok .non S
  | .cB b, _, S => .ok (.bl b) S
  | .cI i, _, S => .ok (.int i) S
  | .cS x, _, S => .ok (.str x) S
  | .gl x, _, S => R.of (G.consts.lookup x) S
  | .bin op fl a b, τ, S => (den a τ S).bind fun x S1 => (den b τ S1).bind fun y S2 => binO op fl x y S2
  | .neg a, τ, S => (den a τ S).bind fun x S1 => match x with | .int i => .ok (.int (-i)) S1 | _ => .no
  | .no_ a, τ, S => (den a τ S).bind fun x S1 => R.of ((truO S1 x).map fun k => .bl (!k)) S1
  | .and_ a b, τ, S => (den a τ S).bind fun x S1 => match truO S1 x with | some true => den b τ S1 | some false => .ok x S1 | none => .no
  | .or_ a b, τ, S => (den a τ S).bind fun x S1 => match truO S1 x with | some false => den b τ S1 | some true => .ok x S1 | none => .no
  | .ifx t a b, τ, S => (den t τ S).bind fun x S1 => match truO S1 x with | some true => den a τ S1 | some false => den b τ S1 | none => .no
  | .cmp op a b, τ, S => (den a τ S).bind fun x S1 => (den b τ S1).bind fun y S2 => R.of ((cmpO op x y S2).map .bl) S2
  | .chn p q a b c, τ, S => (den a τ S).bind fun x S1 => (den b τ S1).bind fun y S2 => match cmpO p x y S2 with
    | some true => (den c τ S2).bind fun z S3 => R.of ((cmpO q y z S3).map .bl) S3
    | some false => .ok (.bl false) S2
    | none => .no
  | .tup es, τ, S => (dens es τ S).bind fun xs S1 => .ok (.tup xs) S1
  | .lst fl es, τ, S => (dens es τ S).bind fun xs S1 => mkL fl xs S1
  | .dic t [] [], τ, S => .ok (.ref S.length) (S ++ [.dic t []])
  | .dic _ ks vs, τ, S => (dens vs τ S).bind fun xs S1 => match keysC ks with
    | some keys => if keys.length ≤ 15 ∧ keys.length = xs.length then .ok (.ref S1.length) (S1 ++ [.dic false (mergeO (keys.zip xs))]) else .no
    | none => .no
  | .call d es, τ, S => (dens es τ S).bind fun xs S1 => cal d xs S1
  | .pcall d es, τ, S => (dens es τ S).bind fun xs S1 => pcal cal d xs S1
  | .kcall h es ws, τ, S => (dens es τ S).bind fun xs S1 => (dens ws τ S1).bind fun zs S2 => match G.kwc[h]? with
    | some kc => cal kc.d (kc.fill .non xs zs) S2
    | none => .no
  | .mk c es, τ, S => (dens es τ S).bind fun xs S1 => match G.cls c with
    | some ⟨_, some d, _, _⟩ => (cal d (.ref S1.length :: xs) (S1 ++ [.ins c []])).bind fun v S2 => match v with
      | .non => .ok (.ref S1.length) S2
      | _ => .no
    | _ => .no
  | .kmk c h es ws, τ, S => (dens es τ S).bind fun xs S1 => (dens ws τ S1).bind fun zs S2 => match G.kwc[h]? with
    | some kc => (cal kc.d (kc.fill .non (.ref S2.length :: xs) zs) (S2 ++ [.ins c []])).bind fun v S3 => match v with
      | .non => .ok (.ref S2.length) S3
      | _ => .no
    | none => .no
  | .mk2 c i es, τ, S => (dens es τ S).bind fun xs S1 => match G.dft[i]? with
    | some p => if xs.length + 1 = p.np then (cal p.d ((.ref S1.length :: xs) ++ p.vals) (S1 ++ [.ins c []])).bind fun v S2 => match v with
      | .non => .ok (.ref S1.length) S2
      | _ => .no
      else .no
    | none => .no
  | .xf o f, τ, S => (den o τ S).bind fun x S1 => match x with
    | .ref n => match S1[n]? with
      | some (.exc c fs) => match G.xcs[c]? with
        | some p => if p.2.contains f then R.of (fs.lookup f) S1 else .no
        | none => .no
      | _ => .no
    | _ => .no
  | .inR neg x lo hi, τ, S => (den x τ S).bind fun v S1 => (den lo τ S1).bind fun a S2 => (den hi τ S2).bind fun b S3 => match v, a, b with
    | .int i, .int l, .int h => .ok (.bl (neg != decide (l ≤ i ∧ i < h))) S3
    | _, _, _ => .no
  | .xis o cs tp, τ, S => (den o τ S).bind fun x S1 => match x with
    | .ref n => match S1[n]? with
      | some (.exc c fs) => if c < G.xcs.length then R.of ((anyX G.xo G.xcs.length c cs).map .bl) S1 else .no
      | _ => .no
    | _ => .no
  | .mth m o es, τ, S => (den o τ S).bind fun x S1 => match x with
    | .ref n => match S1[n]? with
      | some (.ins c fs) => if fs.lookup m = none then match G.cls c with
        | some ci => match ci.meths.lookup m with
          | some d => (dens es τ S1).bind fun xs S2 => cal d (.ref n :: xs) S2
          | none => .no
        | none => .no else .no
      | _ => .no
    | _ => .no
  | .tabGet y e d, τ, S => (den e τ S).bind fun x S1 => (den d τ S1).bind fun z S2 => match x with
    | .str k => R.of ((G.tabs.lookup y).map fun kvs => (kvs.lookup k).getD z) S2
    | _ => .no
  | .lsv fl o, τ, S => (den o τ S).bind fun x S1 => match dicO S1 x with
    | some (false, kvs) => mkL fl (kvs.map (·.2)) S1
    | _ => .no
  | .lsi o, τ, S => (den o τ S).bind fun x S1 => match dicO S1 x with
    | some (false, kvs) => .ok (.lst (kvs.map fun p => .tup [p.1, p.2])) S1
    | _ => .no
  | .lsr fl src, τ, S => (dens src τ S).bind fun vs S1 => match srcO .rng vs S1 with
    | some (xs, _) => if xs.length ≤ 1000000 then mkL fl xs S1 else .no
    | none => .no
  | .rev fl a, τ, S => (den a τ S).bind fun x S1 => match der S1 x with
    | .lst xs => mkL fl xs.reverse S1
    | .tup xs => .ok (.tup xs.reverse) S1
    | _ => .no
  | .fmt r e, τ, S => (den e τ S).bind fun x S1 => R.of ((fmtS S1 r x).map .str) S1
  | .fs es, τ, S => denf es [] τ S
  | .rpI o, τ, S => (den o τ S).bind fun x S1 => match x with
    | .ref n => match S1[n]? with
      | some (.ins c fs) => if fs.lookup ("__repr__" : Str) = none then match G.cls c with
        | some ci => match ci.meths.lookup ("__repr__" : Str) with
          | some d => (cal d [.ref n] S1).bind rpChk
          | none => .no
        | none => .no else .no
      | _ => .no
    | _ => .no
  | .strL o, τ, S => (den o τ S).bind fun x S1 => match x with
    | .ref n => match S1[n]? with
      | some (.ins c fs) => if fs.lookup ("__repr__" : Str) = none then match G.cls c with
        | some ci => match ci.meths.lookup ("__repr__" : Str) with
          | some d => (cal d [.ref n] S1).bind stChk
          | none => .no
        | none => .no else .no
      | _ => .no
    | _ => .no
  | .boI o, τ, S => (den o τ S).bind fun x S1 => match x with
    | .ref n => match S1[n]? with
      | some (.ins c fs) => if fs.lookup ("__len__" : Str) = none then match G.cls c with
        | some ci => match ci.meths.lookup ("__len__" : Str) with
          | some d => (cal d [.ref n] S1).bind boChk
          | none => .no
        | none => .no else .no
      | _ => .no
    | _ => .no
  | .cmpI neg a b, τ, S => (den a τ S).bind fun x S1 => (den b τ S1).bind fun y S2 => match x with
    | .ref n => match S2[n]? with
      | some (.ins c fs) => if nfO neg S2 c y = true then match G.cls c with
        | some ci => match ci.meths.lookup ("__eq__" : Str) with
          | some d => (cal d [.ref n, y] S2).bind (blChk neg)
          | none => .no
        | none => .no else .no
      | _ => .no
    | _ => .no
  | .lenO o, τ, S => (den o τ S).bind fun x S1 => match x with
    | .ref n => match S1[n]? with
      | some (.ins c fs) => if fs.lookup ("__len__" : Str) = none then match G.cls c with
        | some ci => match ci.meths.lookup ("__len__" : Str) with
          | some d => (cal d [.ref n] S1).bind lenChk
          | none => .no
        | none => .no else .no
      | _ => .no
    | _ => .no
  | .fld o f, τ, S => (den o τ S).bind fun x S1 => match x with
    | .ref n => match S1[n]? with
      | some (.ins c fs) => match G.cls c with
        | some ci => if ci.fields.contains f then R.of (fs.lookup f) S1 else .no
        | none => .no
      | _ => .no
    | _ => .no
  | .bi b es, τ, S => (dens es τ S).bind fun xs S1 => biO b xs S1
  | .isi e t, τ, S => (den e τ S).bind fun x S1 => R.of ((tyO G.clss.length S1 x t).map .bl) S1
  | .bm m o es, τ, S => (den o τ S).bind fun x S1 => if bmFit m S1 x then (dens es τ S1).bind fun xs S2 => bmO m x xs S2 else .no
  | .idx a b, τ, S => (den a τ S).bind fun x S1 => (den b τ S1).bind fun y S2 => R.of (idxO S2 x y) S2
  | .sl fl a lo hi, τ, S => (den a τ S).bind fun x S1 => (dens lo τ S1).bind fun ls S2 => match partO ls with
    | none => .no
    | some l => (dens hi τ S2).bind fun hs S3 => match partO hs with
      | none => .no
      | some h => slO fl x l h S3
  | .tab y e, τ, S => (den e τ S).bind fun x S1 => match x with
    | .str z => R.of ((G.tabs.lookup y).bind fun kvs => kvs.lookup z) S1
    | _ => .no
  | .tabIn neg y e, τ, S => (den e τ S).bind fun x S1 => match x with
    | .str z => R.of ((G.tabs.lookup y).map fun kvs => .bl (neg != (kvs.lookup z).isSome)) S1
    | _ => .no
  | .lk o e, τ, S => match lkO S (den o τ S) with
    | some (n, S1) => (den e τ S1).unlk n
    | none => .no
  | .dc ke ve t k src ifs own, τ, S => (dens src τ S).bind fun vs S1 => match srcO k vs S1 with
    | none => .no
    | some (xs, g) => if xs.length ≤ 1000000 then (dcD g (fun a τ => T.asg t a τ) (fun τ S => (dens ifs τ S).bind fun vs S1 => match vs with | [] => .ok true S1 | [x] => R.of (truO S1 x) S1 | _ => .no) (fun τ S => (den ke τ S).bind fun a S1 => (den ve τ S1).bind fun b S2 => .ok (a, b) S2) (wipeT τ (own.map (·.2))) [] xs S1).bind fun ys S2 => .ok (.ref S2.length) (S2 ++ [.dic false ys]) else .no
  | .lc fl elt t k src ifs own, τ, S => (dens src τ S).bind fun vs S1 => match srcO k vs S1 with
    | none => .no
    | some (xs, g) => if xs.length ≤ sizeLine then (lcD g (fun a τ => T.asg t a τ) (fun τ S => (dens ifs τ S).bind fun vs S1 => match vs with | [] => .ok true S1 | [x] => R.of (truO S1 x) S1 | _ => .no) (fun τ S => den elt τ S) (wipeT τ (own.map (·.2))) [] xs S1).bind fun ys S2 => mkL fl ys S2 else .no
  | .lc2 fl elt t k src t2 k2 src2 own vs1, τ, S => (dens src τ S).bind fun vs S1 => match srcO k vs S1 with
    | none => .no
    | some (xs, g) => if xs.length ≤ sizeLine then (ocD g (fun a τ => T.asg t a τ) (fun τ1 acc S => (dens src2 τ1 S).bind fun vs S1 => match srcO k2 vs S1 with
      | none => .no
      | some (ys, g2) => if acc.length + ys.length ≤ sizeLine then lcD g2 (fun a τ => T.asg t2 a τ) (fun _ S => .ok true S) (fun τ S => den elt τ S) (wipeT τ1 vs1) acc ys S1 else .no) (wipeT τ (own.map (·.2))) [] xs S1).bind fun ys S2 => mkL fl ys S2 else .no
  | .srtSet fl elt t k src ifs own, τ, S => (dens src τ S).bind fun vs S1 => match srcO k vs S1 with
    | none => .no
    | some (xs, g) => if xs.length ≤ 3000 then (siD g (fun a τ => T.asg t a τ) (fun τ S => (dens ifs τ S).bind fun vs S1 => match vs with | [] => .ok true S1 | [x] => R.of (truO S1 x) S1 | _ => .no) (fun τ S => den elt τ S) (wipeT τ (own.map (·.2))) [] xs S1).bind fun ys S2 => if ys.length < 64 then mkL fl ((srtI ys).map .int) S2 else .no else .no
  | .lenSet elt t k src ifs own, τ, S => (dens src τ S).bind fun vs S1 => match srcO k vs S1 with
    | none => .no
    | some (xs, g) => if xs.length ≤ 3000 then (stD g (fun a τ => T.asg t a τ) (fun τ S => (dens ifs τ S).bind fun vs S1 => match vs with | [] => .ok true S1 | [x] => R.of (truO S1 x) S1 | _ => .no) (fun τ S => den elt τ S) (wipeT τ (own.map (·.2))) [] xs S1).bind fun ys S2 => .ok (.int ys.length) S2 else .no
noncomputable def dens : List E → Tau → List O → R (List A)
  | [], _, S => .ok [] S
  | e :: es, τ, S => (den e τ S).bind fun x S1 => (dens es τ S1).bind fun xs S2 => .ok (x :: xs) S2
/-- the parts of an f-string, behind what stands already -/
noncomputable def denf : List E → List Nat → Tau → List O → R A
  | [], acc, _, S => .ok (.str acc) S
  | e :: es, acc, τ, S => (den e τ S).bind fun x S1 => match x with
    | .str y => if (acc ++ y).length ≤ sizeLine then denf es (acc ++ y) τ S1 else .no
    | _ => .no
end
/-- a test -/
noncomputable def tst (e : E) (τ : Tau) (S : List O) : R Bool := (den G cal e τ S).bind fun x S1 => R.of (truO S1 x) S1

end
/-! ### statements -/
inductive SR where
  | nx (τ : Tau) (S : List O) | rt (a : A) (S : List O) | bk (τ : Tau) (S : List O) | ct (τ : Tau) (S : List O) | ex (c : Nat) (fs : List A) (τ : Tau) (S : List O) | no
/-- from an answer on -/
def R.go {α : Type} (r : R α) (τ : Tau) (f : α → List O → SR) : SR := match r with
  | .ok a S => f a S
  | .ex c fs S => .ex c fs τ S
  | .no => .no
@[simp] theorem R.go_ok {α : Type} (a : α) (S : List O) (τ : Tau) (f : α → List O → SR) : (R.ok a S).go τ f = f a S := rfl
@[simp] theorem R.go_ex {α : Type} (c : Nat) (fs : List A) (S : List O) (τ : Tau) (f : α → List O → SR) : (R.ex c fs S : R α).go τ f = .ex c fs τ S := rfl
@[simp] theorem R.go_no {α : Type} (τ : Tau) (f : α → List O → SR) : (R.no : R α).go τ f = .no := rfl
def SR.seq (r : SR) (f : Tau → List O → SR) : SR := match r with
  | .nx τ S => f τ S
  | r => r
@[simp] theorem SR.seq_nx (τ : Tau) (S : List O) (f : Tau → List O → SR) : (SR.nx τ S).seq f = f τ S := rfl
@[simp] theorem SR.seq_rt (a : A) (S : List O) (f : Tau → List O → SR) : (SR.rt a S).seq f = .rt a S := rfl
@[simp] theorem SR.seq_no (f : Tau → List O → SR) : (SR.no).seq f = .no := rfl
@[simp] theorem SR.seq_bk (τ : Tau) (S : List O) (f : Tau → List O → SR) : (SR.bk τ S).seq f = .bk τ S := rfl
@[simp] theorem SR.seq_ct (τ : Tau) (S : List O) (f : Tau → List O → SR) : (SR.ct τ S).seq f = .ct τ S := rfl
@[simp] theorem SR.seq_ex (c : Nat) (fs : List A) (τ : Tau) (S : List O) (f : Tau → List O → SR) : (SR.ex c fs τ S).seq f = .ex c fs τ S := rfl
def SR.unlk (n : Nat) (r : SR) : SR := match r with
  | .nx τ S => match Lt.unlk n S with | some S' => .nx τ S' | none => .no
  | .rt a S => match Lt.unlk n S with | some S' => .rt a S' | none => .no
  | .bk τ S => match Lt.unlk n S with | some S' => .bk τ S' | none => .no
  | .ct τ S => match Lt.unlk n S with | some S' => .ct τ S' | none => .no
  | _ => .no
/-- the name of an except clause goes -/
def SR.clr (oi : Option Nat) (r : SR) : SR := match oi with
  | none => (match r with | .ex _ _ _ _ => .no | r => r)
  | some i => match r with
    | .nx τ S => .nx (τ.set i none) S
    | .bk τ S => .bk (τ.set i none) S
    | .ct τ S => .ct (τ.set i none) S
    | .rt a S => .rt a S
    | _ => .no
def putX (oi : Option Nat) (τ : Tau) (a : A) : Tau := match oi with | some i => τ.set i (some a) | none => τ
noncomputable def forD (g : Gd) (asg : A → Tau → Option Tau) (body : Tau → List O → SR) : List A → Tau → List O → SR
  | [], τ, S => if g.ok S then .nx τ S else .no
  | x :: xs, τ, S => if g.ok S then match asg x τ with
    | none => .no
    | some τ1 => match body τ1 S with
      | .nx τ2 S2 => forD g asg body xs τ2 S2
      | .ct τ2 S2 => forD g asg body xs τ2 S2
      | .bk τ2 S2 => .nx τ2 S2
      | r => r
    else .no
def whlD (c : Tau → List O → R Bool) (body : Tau → List O → SR) : Nat → Tau → List O → SR
  | 0, _, _ => .no
  | n + 1, τ, S => (c τ S).go τ fun b S1 => if b then (match body τ S1 with
      | .nx τ2 S2 => whlD c body n τ2 S2
      | .ct τ2 S2 => whlD c body n τ2 S2
      | .bk τ2 S2 => .nx τ2 S2
      | r => r) else .nx τ S1
/-- o[i] = v, by values -/
def setO (o i v : A) (S : List O) : Option (List O) := match o with
  | .ref n => match S[n]? with
    | some (.lst xs) => match i with
      | .int j => match ixN xs.length j with
        | some k => some (S.set n (.lst (xs.set k v)))
        | none => none
      | _ => none
    | some (.dic t kvs) => if fitKey t i ∧ kvs.length < 1000000 then some (S.set n (.dic t (putO kvs i v))) else none
    | _ => none
  | _ => none
def fldO (G : Gt) (o : A) (f : Str) (v : A) (S : List O) : Option (List O) := match o with
  | .ref n => match S[n]? with
    | some (.ins c fs) => match G.cls c with
      | some ci => if ci.fields.contains f ∧ fs.length < 1000 then some (S.set n (.ins c (putF f v fs))) else none
      | none => none
    | _ => none
  | _ => none
section
variable (G : Gt) (cal : Cal)
mutual
noncomputable def denS : Sm → Tau → List O → SR
  | .asg (.t t) e, τ, S => (den G cal e τ S).go τ fun a S1 => match T.asg t a τ with
    | some τ1 => .nx τ1 S1
    | none => .no
  | .asg (.sub o i) e, τ, S => (den G cal e τ S).go τ fun a S1 => (den G cal o τ S1).go τ fun x S2 => (den G cal i τ S2).go τ fun y S3 => match setO x y a S3 with
    | some S4 => .nx τ S4
    | none => .no
  | .asg (.fld o f) e, τ, S => (den G cal e τ S).go τ fun a S1 => (den G cal o τ S1).go τ fun x S2 => match fldO G x f a S2 with
    | some S3 => .nx τ S3
    | none => .no
  | .aug i op e, τ, S => match τ[i]? with
    | some (some (.int x)) => (den G cal e τ S).go τ fun b S1 => match op, b with
      | .Add, .int y => .nx (τ.set i (some (.int (x + y)))) S1
      | .Sub, .int y => .nx (τ.set i (some (.int (x - y)))) S1
      | _, _ => .no
    | _ => .no
  | .ex e, τ, S => (den G cal e τ S).go τ fun _ S1 => .nx τ S1
  | .ret e, τ, S => (den G cal e τ S).go τ fun a S1 => .rt a S1
  | .retN, τ, S => .rt .non S
  | .pass, τ, S => .nx τ S
  | .brk, τ, S => .bk τ S
  | .cont, τ, S => .ct τ S
  | .never, τ, S => .no
  | .ifs c a b, τ, S => (tst G cal c τ S).go τ fun k S1 => if k then denSs a τ S1 else denSs b τ S1
  | .forr t k src b, τ, S => (dens G cal src τ S).go τ fun vs S1 => match srcO k vs S1 with
    | none => .no
    | some (xs, g) => forD g (fun a τ => T.asg t a τ) (fun τ S => denSs b τ S) xs τ S1
  | .lk o s, τ, S => match lkO S (den G cal o τ S) with
    | some (n, S1) => (denS s τ S1).unlk n
    | none => .no
  | .whl n c b, τ, S => whlD (fun τ S => tst G cal c τ S) (fun τ S => denSs b τ S) n τ S
  | .raise c es, τ, S => (dens G cal es τ S).go τ fun xs S1 => match G.xcs[c]? with
    | some p => if xs.length = p.2.length then .ex c xs τ S1 else .no
    | none => .no
  | .blk ss, τ, S => denSs ss τ S
  | .tryk b cs ss, τ, S => match denSs b τ S with
    | .ex c fs τ1 S1 => denCs cs ss c fs τ1 S1
    | r => r
noncomputable def denSs : List Sm → Tau → List O → SR
  | [], τ, S => .nx τ S
  | s :: ss, τ, S => (denS s τ S).seq fun τ1 S1 => denSs ss τ1 S1
/-- an exception's clauses -/
noncomputable def denCs : List (Nat × Option Nat) → List Sm → Nat → List A → Tau → List O → SR
  | (d, oi) :: cs, s :: ss, c, fs, τ, S => if c = d then (match G.xcs[c]? with
      | some p => (denS s (putX oi τ (.ref S.length)) (S ++ [.exc c (p.2.zip fs).reverse])).clr oi
      | none => .no)
    else denCs cs ss c fs τ S
  | [], [], c, fs, τ, S => .ex c fs τ S
  | _, _, _, _, _, _ => .no
end
end
/-- a def: how many parameters, how many names, the body -/
structure Fd where
  np : Nat
  nl : Nat
  body : List Sm
def SR.fin (r : SR) : R A := match r with
  | .nx _ S => .ok .non S
  | .rt a S => .ok a S
  | .ex c fs _ S => .ex c fs S
  | _ => .no
@[simp] theorem SR.fin_rt (a : A) (S : List O) : (SR.rt a S).fin = .ok a S := rfl
@[simp] theorem SR.fin_nx (τ : Tau) (S : List O) : (SR.nx τ S).fin = .ok .non S := rfl
noncomputable def runF (G : Gt) (cal : Cal) (fd : Fd) (as : List A) (S : List O) : R A :=
  if as.length = fd.np then (denSs G cal fd.body (as.map some ++ List.replicate (fd.nl - fd.np) none) S).fin else .no
/-- the text, to a depth of calls -/
noncomputable def I (G : Gt) (ds : List (Option Fd)) : Nat → Cal
  | 0 => fun _ _ _ => .no
  | k + 1 => fun d as S => match ds[d]? with
    | some (some fd) => runF G (I G ds k) fd as S
    | _ => .no
end Lt
/-! what it means is what the program does: the frame of the proof -/
namespace Lt
open PySem L2

theorem PE.imp {X : Cx} {e : Expr} {t t' : TE} (h : PE X e t) (k : ∀ σ H Q, t' σ H Q → t σ H Q) : PE X e t' := ⟨fun pins s σ H Q I q => h.run pins s σ H Q I (k _ _ _ q)⟩
theorem PT.imp {X : Cx} {e : Expr} {t t' : TT} (h : PT X e t) (k : ∀ σ H Q, t' σ H Q → t σ H Q) : PT X e t' := ⟨fun pins s σ H Q I q => h.run pins s σ H Q I (k _ _ _ q)⟩
theorem PA.imp {X : Cx} {e : List Expr} {t t' : TA} (h : PA X e t) (k : ∀ σ H Q, t' σ H Q → t σ H Q) : PA X e t' := ⟨fun pos pins s σ H Q I q => h.run pos pins s σ H Q I (k _ _ _ q)⟩
theorem PS.imp {X : Cx} {e : Stmt} {t t' : TS} (h : PS X e t) (k : ∀ D σ H, t' D σ H → t D σ H) : PS X e t' := ⟨fun pins s σ H D I q => h.run pins s σ H D I (k _ _ _ q)⟩
theorem PSs.imp {X : Cx} {e : List Stmt} {t t' : TS} (h : PSs X e t) (k : ∀ D σ H, t' D σ H → t D σ H) : PSs X e t' := ⟨fun pins s σ H D I q => h.run pins s σ H D I (k _ _ _ q)⟩

/-! ### the text's shape -/
def noStar : Expr → Bool | .Starred .. => false | _ => true
def plainBase : Expr → Bool | .Call (.Name _ _) [] [] _ => false | _ => true
def plainTest : Expr → Bool | .UnaryOp .Not _ _ => false | .BoolOp .. => false | .IfExp .. => false | .Compare .. => false | _ => true
def plainSub : Expr → Bool | .Slice _ _ none _ => false | _ => true
def noSet : Expr → Bool | .Set .. => false | _ => true
def noComp : Expr → Bool | .ListComp .. => false | .SetComp .. => false | .DictComp .. => false | _ => true
theorem starEach_one {e : Expr} (h : noStar e = true) (es : List Expr) (env : Env) : starEach (e :: es) env = (false, eval e env) :: starEach es env := by
  cases e <;> first | rfl | cases h
theorem starEach_any (pos : Pos) (env : Env) : ∀ {es : List Expr}, es.all noStar = true → (backTo pos (starEach es env)).any (·.1) = false
  | [], _ => rfl
  | e :: es, h => by
    have h' : noStar e = true ∧ es.all noStar = true := by simpa using h
    rw [starEach_one h'.1]
    show (false || (backTo pos (starEach es env)).any (·.1)) = false
    rw [starEach_any pos env h'.2]; rfl
theorem starEach_all (pos : Pos) (env : Env) : ∀ {es : List Expr}, es.all noStar = true → (backTo pos (starEach es env)).all (fun x => !x.1) = true
  | [], _ => rfl
  | e :: es, h => by
    have h' : noStar e = true ∧ es.all noStar = true := by simpa using h
    rw [starEach_one h'.1]
    show (true && (backTo pos (starEach es env)).all (fun x => !x.1)) = true
    rw [starEach_all pos env h'.2]; rfl
theorem base_plain {o : Expr} (h : plainBase o = true) (m : Str) (env : Env) (whole : Sem Value) : attributeBase o m env whole = whole := by
  unfold attributeBase
  split
  · cases h
  · rfl
theorem test_plain {e : Expr} (h : plainTest e = true) (env : Env) (whole : Sem Value) : isTrue e env whole = (do let v ← whole; standAt e.pos; holding [v] (truthy v)) := by
  cases e <;> first | rfl | (cases h; done) | skip
  rename_i op x pos
  cases op <;> first | rfl | cases h
theorem sub_plain {e : Expr} (h : plainSub e = true) (o i : Value) : subscripted e false o i = operate [o, i] (getItem o i) := by
  cases e <;> first | rfl | skip
  rename_i l u s p
  cases s <;> first | rfl | cases h
theorem set_plain {e : Expr} (h : noSet e = true) (env : Env) (x : Value) : foldedSetIterable e env x = pure x := by
  cases e <;> first | rfl | cases h
theorem swaps_plain {e : Expr} (h : noComp e = true) (t : Option Expr) (l : Nat) (env : Env) : swapsWith e t l env = pure false := by
  cases e <;> first | rfl | cases h

/-! ### what is wanted of an answer -/
/-- an exception of the text's own class -/
def ExR (K : PySem.W.Frag) (ad : Ad) (G : Gt) (w : Wd) (c : Nat) (fs : List A) (cv : Value) (d : Option Addr) : Prop :=
  cv = .ref (ad.xc c) ∧ ∃ (dd : Addr) (ws : List (Str × V)) (ci : Str × List Str), d = some dd ∧ VX w dd ws ∧ G.xcs[c]? = some ci ∧ Paired (fun (p : Str × A) (q : Str × V) => p.1 = q.1 ∧ RelA K w p.2 q.2) (ci.2.zip fs).reverse ws
section
variable (K : PySem.W.Frag) (ad : Ad) (G : Gt)
def okR (Q : VK) (E : XK) (w : Wd) : R A → Prop
  | .ok a S => ∀ w' v, w'.S = S → Le w w' → RelS K ad.cls w' → RelA K w' a v → Q v w'.H
  | .ex c fs S => ∀ w' cv d, w'.S = S → Le w w' → RelS K ad.cls w' → ExR K ad G w' c fs cv d → E cv d w'.H
  | .no => False
def okB (Q : Bool → Hp → Prop) (E : XK) (w : Wd) : R Bool → Prop
  | .ok a S => ∀ w', w'.S = S → Le w w' → RelS K ad.cls w' → Q a w'.H
  | .ex c fs S => ∀ w' cv d, w'.S = S → Le w w' → RelS K ad.cls w' → ExR K ad G w' c fs cv d → E cv d w'.H
  | .no => False
def okA (Q : List V → Hp → Prop) (E : XK) (w : Wd) : R (List A) → Prop
  | .ok a S => ∀ w' v, w'.S = S → Le w w' → RelS K ad.cls w' → RelAs K w' a v → Q v w'.H
  | .ex c fs S => ∀ w' cv d, w'.S = S → Le w w' → RelS K ad.cls w' → ExR K ad G w' c fs cv d → E cv d w'.H
  | .no => False
/-- the readings -/
def tE (W : WX) (m : Tau → List O → R A) : TE := fun σ H Q => ∃ w τ, w.H = H ∧ RelS K ad.cls w ∧ RelT K w τ σ ∧ okR K ad G Q (fun c d H' => W c d σ H') w (m τ w.S)
def tT (W : WX) (m : Tau → List O → R Bool) : TT := fun σ H Q => ∃ w τ, w.H = H ∧ RelS K ad.cls w ∧ RelT K w τ σ ∧ okB K ad G Q (fun c d H' => W c d σ H') w (m τ w.S)
def tL (W : WX) (m : Tau → List O → R (List A)) : TA := fun σ H Q => ∃ w τ, w.H = H ∧ RelS K ad.cls w ∧ RelT K w τ σ ∧ okA K ad G Q (fun c d H' => W c d σ H') w (m τ w.S)
end
section
variable {K : PySem.W.Frag} {ad : Ad} {G : Gt} {W : WX} {E : XK} {w w' : Wd} {σ : L2.St} {H : Hp}
theorem okR.at {Q : VK} {r : R A} (h : okR K ad G Q E w r) (le : Le w w') : okR K ad G Q E w' r := by
  cases r with
  | ok a S => exact fun u v e l s q => h u v e (le.trans l) s q
  | ex c fs S => exact fun u cv d e l s q => h u cv d e (le.trans l) s q
  | no => exact h
theorem okB.at {Q : Bool → Hp → Prop} {r : R Bool} (h : okB K ad G Q E w r) (le : Le w w') : okB K ad G Q E w' r := by
  cases r with
  | ok a S => exact fun u e l s => h u e (le.trans l) s
  | ex c fs S => exact fun u cv d e l s q => h u cv d e (le.trans l) s q
  | no => exact h
theorem okA.at {Q : List V → Hp → Prop} {r : R (List A)} (h : okA K ad G Q E w r) (le : Le w w') : okA K ad G Q E w' r := by
  cases r with
  | ok a S => exact fun u v e l s q => h u v e (le.trans l) s q
  | ex c fs S => exact fun u cv d e l s q => h u cv d e (le.trans l) s q
  | no => exact h
/-- then: from an answer to the next -/
theorem okR.then {r : R A} {α : Type} {f : A → List O → R α} {P : Wd → R α → Prop} {Q : VK} (h : P w (r.bind f)) (hP : ∀ w' x, Le w w' → P w x → P w' x)
    (hex : ∀ c fs S, P w (.ex c fs S) → okR K ad G Q E w (.ex c fs S)) (hno : P w .no → False)
    (k : ∀ w' a v, Le w w' → RelS K ad.cls w' → RelA K w' a v → P w' (f a w'.S) → Q v w'.H) : okR K ad G Q E w r := by
  cases r with
  | ok a S =>
    intro w' v e l s q
    exact k w' a v l s q (by rw [e]; exact hP w' _ l h)
  | ex c fs S => exact hex c fs S h
  | no => exact hno h
theorem okR.bindR {r : R A} {f : A → List O → R A} {Q Q' : VK} (h : okR K ad G Q' E w (r.bind f))
    (k : ∀ w' a v, Le w w' → RelS K ad.cls w' → RelA K w' a v → okR K ad G Q' E w' (f a w'.S) → Q v w'.H) : okR K ad G Q E w r :=
  okR.then (P := fun w x => okR K ad G Q' E w x) h (fun _ _ l h => h.at l) (fun _ _ _ h => h) id k
theorem okR.bindB {r : R A} {f : A → List O → R Bool} {Q : VK} {Q' : Bool → Hp → Prop} (h : okB K ad G Q' E w (r.bind f))
    (k : ∀ w' a v, Le w w' → RelS K ad.cls w' → RelA K w' a v → okB K ad G Q' E w' (f a w'.S) → Q v w'.H) : okR K ad G Q E w r :=
  okR.then (P := fun w x => okB K ad G Q' E w x) h (fun _ _ l h => h.at l) (fun _ _ _ h => h) id k
theorem okR.bindA {r : R A} {f : A → List O → R (List A)} {Q : VK} {Q' : List V → Hp → Prop} (h : okA K ad G Q' E w (r.bind f))
    (k : ∀ w' a v, Le w w' → RelS K ad.cls w' → RelA K w' a v → okA K ad G Q' E w' (f a w'.S) → Q v w'.H) : okR K ad G Q E w r :=
  okR.then (P := fun w x => okA K ad G Q' E w x) h (fun _ _ l h => h.at l) (fun _ _ _ h => h) id k
theorem okB.then {r : R Bool} {α : Type} {f : Bool → List O → R α} {P : Wd → R α → Prop} {Q : Bool → Hp → Prop} (h : P w (r.bind f)) (hP : ∀ w' x, Le w w' → P w x → P w' x)
    (hex : ∀ c fs S, P w (.ex c fs S) → okB K ad G Q E w (.ex c fs S)) (hno : P w .no → False)
    (k : ∀ w' a, Le w w' → RelS K ad.cls w' → P w' (f a w'.S) → Q a w'.H) : okB K ad G Q E w r := by
  cases r with
  | ok a S =>
    intro w' e l s
    exact k w' a l s (by rw [e]; exact hP w' _ l h)
  | ex c fs S => exact hex c fs S h
  | no => exact hno h
theorem okB.bindR {r : R Bool} {f : Bool → List O → R A} {Q : Bool → Hp → Prop} {Q' : VK} (h : okR K ad G Q' E w (r.bind f))
    (k : ∀ w' a, Le w w' → RelS K ad.cls w' → okR K ad G Q' E w' (f a w'.S) → Q a w'.H) : okB K ad G Q E w r :=
  okB.then (P := fun w x => okR K ad G Q' E w x) h (fun _ _ l h => h.at l) (fun _ _ _ h => h) id k
theorem okB.bindB {r : R Bool} {f : Bool → List O → R Bool} {Q Q' : Bool → Hp → Prop} (h : okB K ad G Q' E w (r.bind f))
    (k : ∀ w' a, Le w w' → RelS K ad.cls w' → okB K ad G Q' E w' (f a w'.S) → Q a w'.H) : okB K ad G Q E w r :=
  okB.then (P := fun w x => okB K ad G Q' E w x) h (fun _ _ l h => h.at l) (fun _ _ _ h => h) id k
theorem okA.then {r : R (List A)} {α : Type} {f : List A → List O → R α} {P : Wd → R α → Prop} {Q : List V → Hp → Prop} (h : P w (r.bind f)) (hP : ∀ w' x, Le w w' → P w x → P w' x)
    (hex : ∀ c fs S, P w (.ex c fs S) → okA K ad G Q E w (.ex c fs S)) (hno : P w .no → False)
    (k : ∀ w' a v, Le w w' → RelS K ad.cls w' → RelAs K w' a v → P w' (f a w'.S) → Q v w'.H) : okA K ad G Q E w r := by
  cases r with
  | ok a S =>
    intro w' v e l s q
    exact k w' a v l s q (by rw [e]; exact hP w' _ l h)
  | ex c fs S => exact hex c fs S h
  | no => exact hno h
theorem okA.bindR {r : R (List A)} {f : List A → List O → R A} {Q : List V → Hp → Prop} {Q' : VK} (h : okR K ad G Q' E w (r.bind f))
    (k : ∀ w' a v, Le w w' → RelS K ad.cls w' → RelAs K w' a v → okR K ad G Q' E w' (f a w'.S) → Q v w'.H) : okA K ad G Q E w r :=
  okA.then (P := fun w x => okR K ad G Q' E w x) h (fun _ _ l h => h.at l) (fun _ _ _ h => h) id k
theorem okA.bindA {r : R (List A)} {f : List A → List O → R (List A)} {Q Q' : List V → Hp → Prop} (h : okA K ad G Q' E w (r.bind f))
    (k : ∀ w' a v, Le w w' → RelS K ad.cls w' → RelAs K w' a v → okA K ad G Q' E w' (f a w'.S) → Q v w'.H) : okA K ad G Q E w r :=
  okA.then (P := fun w x => okA K ad G Q' E w x) h (fun _ _ l h => h.at l) (fun _ _ _ h => h) id k
/-- an answer that changes nothing -/
theorem okR.ret {Q : VK} {a : A} {S : List O} {v : V} (h : okR K ad G Q E w (.ok a S)) (e : w.S = S) (s : RelS K ad.cls w) (r : RelA K w a v) : Q v w.H := h w v e (Le.refl w) s r
theorem okR.of {Q : VK} {o : Option A} {S : List O} (h : okR K ad G Q E w (R.of o S)) : ∃ a, o = some a ∧ okR K ad G Q E w (.ok a S) := by
  cases o with
  | none => exact h.elim
  | some a => exact ⟨a, rfl, h⟩
theorem okB.of {Q : Bool → Hp → Prop} {o : Option Bool} {S : List O} (h : okB K ad G Q E w (R.of o S)) : ∃ a, o = some a ∧ okB K ad G Q E w (.ok a S) := by
  cases o with
  | none => exact h.elim
  | some a => exact ⟨a, rfl, h⟩
/-- one part, two parts, then what the rule wants -/
theorem tE1 {ma : Tau → List O → R A} {f : A → Tau → List O → R A} {Q : VK} {r : V → Hp → VK → Prop} (h : tE K ad G W (fun τ S => (ma τ S).bind fun a S1 => f a τ S1) σ H Q)
    (k : ∀ w τ a v, RelS K ad.cls w → RelT K w τ σ → RelA K w a v → okR K ad G Q (fun c d H' => W c d σ H') w (f a τ w.S) → r v w.H Q) : tE K ad G W ma σ H fun x H1 => r x H1 Q := by
  obtain ⟨w, τ, e, s, t, h⟩ := h
  exact ⟨w, τ, e, s, t, h.bindR fun w1 a v l s1 q h1 => k w1 τ a v s1 (t.mono l) q h1⟩
theorem tE2 {ma mb : Tau → List O → R A} {f : A → A → Tau → List O → R A} {Q : VK} {r : R2} (h : tE K ad G W (fun τ S => (ma τ S).bind fun a S1 => (mb τ S1).bind fun b S2 => f a b τ S2) σ H Q)
    (k : ∀ w τ a b v u, RelS K ad.cls w → RelT K w τ σ → RelA K w a v → RelA K w b u → okR K ad G Q (fun c d H' => W c d σ H') w (f a b τ w.S) → r v u w.H Q) :
    tOp r (tE K ad G W ma) (tE K ad G W mb) σ H Q := by
  obtain ⟨w, τ, e, s, t, h⟩ := h
  refine ⟨w, τ, e, s, t, h.bindR fun w1 a v l s1 q h1 => ?_⟩
  refine ⟨w1, τ, rfl, s1, t.mono l, h1.bindR fun w2 b u l2 s2 q2 h2 => ?_⟩
  exact k w2 τ a b v u s2 ((t.mono l.mo).mono l2.mo) (q.mono l2.mo) q2 h2
/-- .. as a bool's answer -/
theorem tB1 {ma : Tau → List O → R A} {f : A → Tau → List O → R Bool} {Q : Bool → Hp → Prop} {r : V → Hp → (Bool → Hp → Prop) → Prop} (h : tT K ad G W (fun τ S => (ma τ S).bind fun a S1 => f a τ S1) σ H Q)
    (k : ∀ w τ a v, RelS K ad.cls w → RelT K w τ σ → RelA K w a v → okB K ad G Q (fun c d H' => W c d σ H') w (f a τ w.S) → r v w.H Q) : tE K ad G W ma σ H fun x H1 => r x H1 Q := by
  obtain ⟨w, τ, e, s, t, h⟩ := h
  exact ⟨w, τ, e, s, t, okR.bindB h fun w1 a v l s1 q h1 => k w1 τ a v s1 (t.mono l) q h1⟩
end
end Lt
/-! operators, by values -/
namespace Lt
open PySem L2

/-! ### equality -/
theorem mkS_beq (x y : List Nat) : (mkS x == mkS y) = (x == y) := by
  rw [Bool.eq_iff_iff]
  simp only [beq_iff_eq]
  exact ⟨mkS_inj, fun h => by rw [h]⟩
mutual
theorem eqv_dat : ∀ (a b : A), a.pure = true → b.pure = true → PyData.eqv a.dat b.dat = a.eqv b
  | .non, b, _, h => by cases b <;> first | (simp [A.pure] at h; done) | simp [A.dat, A.eqv, PyData.eqv]
  | .bl _, b, _, h => by cases b <;> first | (simp [A.pure] at h; done) | simp [A.dat, A.eqv, PyData.eqv]
  | .int _, b, _, h => by cases b <;> first | (simp [A.pure] at h; done) | simp [A.dat, A.eqv, PyData.eqv]
  | .str x, b, _, h => by cases b <;> first | (simp [A.pure] at h; done) | simp [A.dat, A.eqv, PyData.eqv, mkS_beq]
  | .ref _, _, h, _ => by simp [A.pure] at h
  | .scr _, _, h, _ => by simp [A.pure] at h
  | .ktup _, _, h, _ => by simp [A.pure] at h
  | .tup xs, b, g, h => by
    cases b with
    | tup ys => simp only [A.pure] at g h; simp only [A.dat, A.eqv, PyData.eqv]; exact eqv_dats xs ys g h
    | ref n => simp [A.pure] at h
    | scr n => simp [A.pure] at h
    | ktup n => simp [A.pure] at h
    | _ => simp [A.dat, A.eqv, PyData.eqv]
  | .lst xs, b, g, h => by
    cases b with
    | lst ys => simp only [A.pure] at g h; simp only [A.dat, A.eqv, PyData.eqv]; exact eqv_dats xs ys g h
    | ref n => simp [A.pure] at h
    | scr n => simp [A.pure] at h
    | ktup n => simp [A.pure] at h
    | _ => simp [A.dat, A.eqv, PyData.eqv]
theorem eqv_dats : ∀ (a b : List A), A.pures a = true → A.pures b = true → PyData.eqvAll (A.dats a) (A.dats b) = A.eqvs a b
  | [], [], _, _ => by simp [A.dats, A.eqvs, PyData.eqvAll]
  | [], _ :: _, _, _ => by simp [A.dats, A.eqvs, PyData.eqvAll]
  | _ :: _, [], _, _ => by simp [A.dats, A.eqvs, PyData.eqvAll]
  | x :: xs, y :: ys, g, h => by
    simp only [A.pures, Bool.and_eq_true] at g h
    simp only [A.dats, A.eqvs, PyData.eqvAll]
    rw [eqv_dat x y g.1 h.1, eqv_dats xs ys g.2 h.2]
end
mutual
theorem depth_dat : ∀ (a : A), a.pure = true → a.dat.depth = a.depth
  | .non, _ => by simp [A.dat, A.depth, PyData.depth]
  | .bl _, _ => by simp [A.dat, A.depth, PyData.depth]
  | .int _, _ => by simp [A.dat, A.depth, PyData.depth]
  | .str _, _ => by simp [A.dat, A.depth, PyData.depth]
  | .ref _, h => by simp [A.pure] at h
  | .scr _, h => by simp [A.pure] at h
  | .ktup _, h => by simp [A.pure] at h
  | .tup xs, h => by simp only [A.pure] at h; simp only [A.dat, A.depth, PyData.depth]; rw [depths_dat xs h]
  | .lst xs, h => by simp only [A.pure] at h; simp only [A.dat, A.depth, PyData.depth]; rw [depths_dat xs h]
theorem depths_dat : ∀ (a : List A), A.pures a = true → PyData.depthAll (A.dats a) = A.depths a
  | [], _ => by simp [A.dats, A.depths, PyData.depthAll]
  | x :: xs, h => by
    simp only [A.pures, Bool.and_eq_true] at h
    simp only [A.dats, A.depths, PyData.depthAll]
    rw [depth_dat x h.1, depths_dat xs h.2]
end
theorem strOk_mk {x : List Nat} (h : okS x) : PyData.strOk (mkS x) = true := by
  unfold PyData.strOk mkS
  simp only [List.all_toArray]
  rw [List.all_eq_true]
  intro c hc
  exact decide_eq_true (h.2 c hc)
mutual
theorem dat_rel {K : PySem.W.Frag} {w : Wd} : ∀ (a : A) (v : V), a.pure = true → RelA K w a v → Dp K w.H v a.dat ∧ a.dat.canLay0 = true
  | .non, v, _, r => by simp only [RelA] at r; subst r; exact ⟨by simp only [A.dat]; exact .non, by simp [A.dat, PyData.canLay0]⟩
  | .bl _, v, _, r => by simp only [RelA] at r; subst r; exact ⟨by simp only [A.dat]; exact .bl _, by simp [A.dat, PyData.canLay0]⟩
  | .int _, v, _, r => by simp only [RelA] at r; subst r; exact ⟨by simp only [A.dat]; exact .int _, by simp [A.dat, PyData.canLay0]⟩
  | .str x, v, _, r => by
    simp only [RelA] at r
    obtain ⟨rfl, hx⟩ := r
    exact ⟨by simp only [A.dat]; exact .str _, by simp only [A.dat, PyData.canLay0]; exact strOk_mk hx⟩
  | .ref _, _, h, _ => by simp [A.pure] at h
  | .scr _, _, h, _ => by simp [A.pure] at h
  | .ktup _, _, h, _ => by simp [A.pure] at h
  | .tup xs, v, h, r => by
    simp only [A.pure] at h
    simp only [RelA] at r
    obtain ⟨a, vs, rfl, q, rs⟩ := r
    obtain ⟨d, c⟩ := dats_rel xs vs h rs
    simp only [A.dat]
    exact ⟨.tup q.sq d, by simp only [PyData.canLay0]; exact c⟩
  | .lst xs, v, h, r => by
    simp only [A.pure] at h
    simp only [RelA] at r
    obtain ⟨a, vs, rfl, q, rs⟩ := r
    obtain ⟨d, c⟩ := dats_rel xs vs h rs
    simp only [A.dat]
    exact ⟨.lst q.sq d, by simp only [PyData.canLay0]; exact c⟩
theorem dats_rel {K : PySem.W.Frag} {w : Wd} : ∀ (a : List A) (v : List V), A.pures a = true → RelAs K w a v → DpAll K w.H v (A.dats a) ∧ PyData.canLayAll0 (A.dats a) = true
  | [], v, _, r => by simp only [RelAs] at r; subst r; exact ⟨by simp only [A.dats]; exact .nil, by simp [A.dats, PyData.canLayAll0]⟩
  | x :: xs, v, h, r => by
    simp only [A.pures, Bool.and_eq_true] at h
    simp only [RelAs] at r
    obtain ⟨u, vs, rfl, r1, r2⟩ := r
    obtain ⟨d1, c1⟩ := dat_rel x u h.1 r1
    obtain ⟨d2, c2⟩ := dats_rel xs vs h.2 r2
    simp only [A.dats]
    exact ⟨.cons d1 d2, by simp only [PyData.canLayAll0, Bool.and_eq_true]; exact ⟨c1, c2⟩⟩
end
/-- an object's list as a value: for reading -/
theorem der_rel {K : PySem.W.Frag} {cls : Nat → Addr} {w : Wd} (s : RelS K cls w) {a : A} {v : V} (r : RelA K w a v) :
    (der w.S a = a) ∨ ∃ n xs p vs, a = .ref n ∧ der w.S a = .lst xs ∧ w.S[n]? = some (.lst xs) ∧ w.ms[n]? = some p ∧ v = .ref p ∧ w.H p = some (.lst vs) ∧ RelAs K w xs vs := by
  cases a with
  | ref n =>
    simp only [RelA] at r
    obtain ⟨p, e, rfl⟩ := r
    unfold der
    cases q : w.S[n]? with
    | none => simp [q]
    | some o =>
      cases o with
      | lst xs =>
        obtain ⟨vs, h, rs⟩ := s.obj n p _ e q
        exact .inr ⟨n, xs, p, vs, rfl, by simp [q], q, e, rfl, h, rs⟩
      | _ => simp [q]
  | _ => exact .inl rfl
theorem der_dat {K : PySem.W.Frag} {cls : Nat → Addr} {w : Wd} (s : RelS K cls w) {a : A} {v : V} (r : RelA K w a v) (h : (der w.S a).pure = true) : Dp K w.H v (der w.S a).dat ∧ (der w.S a).dat.canLay0 = true := by
  rcases der_rel s r with e | ⟨n, xs, p, vs, rfl, e, e1, e2, rfl, hH, rs⟩
  · rw [e] at h ⊢; exact dat_rel a v h r
  · rw [e] at h ⊢
    simp only [A.pure] at h
    obtain ⟨d, c⟩ := dats_rel xs vs h rs
    simp only [A.dat]
    exact ⟨.lst (SqL.of hH) d, by simp only [PyData.canLay0]; exact c⟩
theorem derDs_dat {K : PySem.W.Frag} {w : Wd} {f : A → A} (ih : ∀ (a : A) (v : V), RelA K w a v → (f a).pure = true → Dp K w.H v (f a).dat ∧ (f a).dat.canLay0 = true) : ∀ (xs : List A) (vs : List V), RelAs K w xs vs → A.pures (xs.map f) = true → DpAll K w.H vs (A.dats (xs.map f)) ∧ PyData.canLayAll0 (A.dats (xs.map f)) = true
  | [], vs, r, _ => by
    simp only [RelAs] at r
    subst r
    exact ⟨.nil, rfl⟩
  | x :: xs, vs, r, h => by
    simp only [RelAs] at r
    obtain ⟨v, us, rfl, r1, r2⟩ := r
    simp only [List.map_cons, A.pures, Bool.and_eq_true] at h
    obtain ⟨d1, c1⟩ := ih x v r1 h.1
    obtain ⟨d2, c2⟩ := derDs_dat ih xs us r2 h.2
    simp only [List.map_cons, A.dats]
    exact ⟨.cons d1 d2, by simp only [PyData.canLayAll0, Bool.and_eq_true]; exact ⟨c1, c2⟩⟩
theorem derD_dat {K : PySem.W.Frag} {cls : Nat → Addr} {w : Wd} (s : RelS K cls w) : ∀ (n : Nat) (a : A) (v : V), RelA K w a v → (derD w.S n a).pure = true → Dp K w.H v (derD w.S n a).dat ∧ (derD w.S n a).dat.canLay0 = true
  | 0, a, v, r, h => dat_rel a v h r
  | n + 1, a, v, r, h => by
    have ih := derD_dat s n
    cases a with
    | ref m =>
      simp only [derD] at h ⊢
      split at h
      · rename_i xs e
        try simp only [e] at h
        try simp only [e]
        obtain ⟨p, e1, rfl⟩ := (by simpa only [RelA] using r : ∃ a, w.ms[m]? = some a ∧ v = .ref a)
        obtain ⟨vs, hH, rs⟩ := s.obj m p _ e1 e
        simp only [A.pure] at h
        obtain ⟨d, c⟩ := derDs_dat ih xs vs rs h
        simp only [A.dat]
        exact ⟨.lst (SqL.of hH) d, by simp only [PyData.canLay0]; exact c⟩
      · simp [A.pure] at h
    | tup xs =>
      simp only [derD, A.pure] at h
      simp only [RelA] at r
      obtain ⟨p, vs, rfl, hp, rs⟩ := r
      obtain ⟨d, c⟩ := derDs_dat ih xs vs rs h
      simp only [derD, A.dat]
      exact ⟨.tup hp.sq d, by simp only [PyData.canLay0]; exact c⟩
    | lst xs =>
      simp only [derD, A.pure] at h
      simp only [RelA] at r
      obtain ⟨p, vs, rfl, hp, rs⟩ := r
      obtain ⟨d, c⟩ := derDs_dat ih xs vs rs h
      simp only [derD, A.dat]
      exact ⟨.lst hp.sq d, by simp only [PyData.canLay0]; exact c⟩
    | non => exact dat_rel .non v h r
    | bl b => exact dat_rel (.bl b) v h r
    | int i => exact dat_rel (.int i) v h r
    | str x => exact dat_rel (.str x) v h r
    | scr xs => simp [derD, A.pure] at h
    | ktup xs =>
      simp only [derD, A.pure] at h
      simp only [RelA] at r
      obtain ⟨p, vs, rfl, hp, rs⟩ := r
      obtain ⟨d, c⟩ := derDs_dat ih xs vs rs h
      simp only [derD, A.dat]
      exact ⟨.tup (.inr hp) d, by simp only [PyData.canLay0]; exact c⟩
section
variable {X : Cx}
def rEqM (K : PySem.W.Frag) : R2 := fun x y H Q => ∃ d e, Dp K H x d ∧ Dp K H y e ∧ d.canLay0 = true ∧ e.canLay0 = true ∧ min d.depth e.depth ≤ 64 ∧ Q (.bl (PyData.eqv d e)) H
def rNeM (K : PySem.W.Frag) : R2 := fun x y H Q => ∃ d e, Dp K H x d ∧ Dp K H y e ∧ d.canLay0 = true ∧ e.canLay0 = true ∧ min d.depth e.depth ≤ 64 ∧ Q (.bl (!PyData.eqv d e)) H
theorem op_eqM (hu : X.A.units + 64 < cLine) : OpR X (compareOp .Eq) (rEqM X.K) := by
  intro pins s σ H x y v u Q I rx ry h
  obtain ⟨d, e, hd, he, sd, se, hm, q⟩ := h
  obtain ⟨as, r1⟩ := Dp.reads I d x v hd rx
  obtain ⟨bs, r2⟩ := Dp.reads I e y u he ry
  exact SeqAt.compareEq_reads r1 r2 sd se (by omega) ⟨.bl _, H, I, rfl, q⟩
theorem op_neM (hu : X.A.units + 64 < cLine) : OpR X (compareOp .NotEq) (rNeM X.K) := by
  intro pins s σ H x y v u Q I rx ry h
  obtain ⟨d, e, hd, he, sd, se, hm, q⟩ := h
  obtain ⟨as, r1⟩ := Dp.reads I d x v hd rx
  obtain ⟨bs, r2⟩ := Dp.reads I e y u he ry
  exact SeqAt.compareNe_reads r1 r2 sd se (by omega) ⟨.bl _, H, I, rfl, q⟩
end
theorem eqO_rel {K : PySem.W.Frag} {cls : Nat → Addr} {w : Wd} (s : RelS K cls w) {a b : A} {v u : V} (ra : RelA K w a v) (rb : RelA K w b u) {k : Bool} (h : eqO w.S a b = some k) :
    ∃ d e, Dp K w.H v d ∧ Dp K w.H u e ∧ d.canLay0 = true ∧ e.canLay0 = true ∧ min d.depth e.depth ≤ 64 ∧ PyData.eqv d e = k := by
  unfold eqO at h
  split at h
  · rename_i hf
    simp only [fitsEq, Bool.and_eq_true, decide_eq_true_eq] at hf
    obtain ⟨⟨h1, h2⟩, h3⟩ := hf
    obtain ⟨d1, c1⟩ := der_dat s ra h1
    obtain ⟨d2, c2⟩ := der_dat s rb h2
    refine ⟨_, _, d1, d2, c1, c2, by rw [depth_dat _ h1, depth_dat _ h2]; exact h3, ?_⟩
    rw [eqv_dat _ _ h1 h2]
    exact Option.some.inj h
  · split at h
    · rename_i hf
      simp only [fitsEq, Bool.and_eq_true, decide_eq_true_eq] at hf
      obtain ⟨⟨h1, h2⟩, h3⟩ := hf
      obtain ⟨d1, c1⟩ := derD_dat s 6 a v ra h1
      obtain ⟨d2, c2⟩ := derD_dat s 6 b u rb h2
      refine ⟨_, _, d1, d2, c1, c2, by rw [depth_dat _ h1, depth_dat _ h2]; exact h3, ?_⟩
      rw [eqv_dat _ _ h1 h2]
      exact Option.some.inj h
    · cases h

/-! ### list + list, over what may be read -/
theorem Rd.lst {X : Cx} {pins : List (Addr × Obj)} {σ : L2.St} {H : Hp} {s : Shared} {a : Addr} {xs : List V} (I : Inv X pins σ H s) (h : Rd H a (.lst xs)) :
    xs.length ≤ sizeLine ∧ ∃ (its : List Value) (n : Nat), Vals xs its ∧ xs.length = its.length ∧ s.heap.get? a = some { cls := .type "list", data := .seq its.toArray n } := by
  obtain ⟨z, its, n, r, e⟩ := h.ok I.hok
  exact ⟨z, its, n, r, r.length, e⟩
section
variable {X : Cx}
def rCatR : R2 := fun x y H Q => ∃ l b xs zs, x = .ref l ∧ y = .ref b ∧ Rd H l (.lst xs) ∧ Rd H b (.lst zs) ∧ xs.length + zs.length ≤ sizeLine ∧ ∀ p, H p = none → Q (.ref p) (upd H p (.lst (xs ++ zs)))
theorem op_catR : OpR X (binaryOp .Add) rCatR := by
  intro pins s σ H x y v u Q I rx ry h
  obtain ⟨l, b, xs, zs, rfl, rfl, hH, hB, hz, q⟩ := h
  cases rx
  cases ry
  obtain ⟨z, its, n, r, hl, e⟩ := Rd.lst I hH
  obtain ⟨z2, its2, n2, r2, hl2, e2⟩ := Rd.lst I hB
  refine PySem.P.add_list e e2 ?_ (by rw [List.size_toArray, List.size_toArray]; omega)
  have ea : its.toArray ++ its2.toArray = (its ++ its2).toArray := by simp
  rw [ea]
  exact ⟨.ref _, _, I.lnew (t' := s.toks) (r.append r2) (by rw [List.length_append]; omega), rfl, q _ I.fresh⟩
end
section
variable {K : PySem.W.Frag} {ad : Ad} {G : Gt} {E : XK} {w : Wd}
/-- a new list: a value or an object -/
theorem okR.mkL {Q : VK} {fl : Bool} {xs : List A} {vs : List V} (h : okR K ad G Q E w (Lt.mkL fl xs w.S)) (s : RelS K ad.cls w) (r : RelAs K w xs vs) : ∀ p, w.H p = none → Q (.ref p) (upd w.H p (.lst vs)) := by
  intro p e
  cases fl with
  | false =>
    have h' : okR K ad G Q E w (.ok (.lst xs) w.S) := h
    exact h' ⟨w.ms, w.S, upd w.H p (.lst vs), w.hid⟩ (.ref p) rfl (Le.grow (upd_grow e)) (s.grow (upd_grow e)) (new_lst s r e)
  | true =>
    have h' : okR K ad G Q E w (.ok (.ref w.S.length) (w.S ++ [.lst xs])) := h
    have g := upd_grow (o := .lst vs) e
    have le := Le.new (o := .lst xs) s e g
    exact h' ⟨w.ms ++ [p], w.S ++ [.lst xs], upd w.H p (.lst vs), w.hid⟩ (.ref p) rfl le (RelS.new (o := .lst xs) s e g ⟨_, upd_same⟩ ⟨vs, upd_same, r.mono le⟩) (new_ref s)
theorem okR.mkD {Q : VK} {kvs : List (A × A)} {ws : List (Key × V)} (h : okR K ad G Q E w (.ok (.ref w.S.length) (w.S ++ [.dic false kvs]))) (s : RelS K ad.cls w) (r : Paired (fun (p : A × A) (q : Key × V) => keyOf p.1 = some q.1 ∧ okKey p.1 ∧ RelA K w p.2 q.2) kvs ws) : ∀ p, w.H p = none → Q (.ref p) (upd w.H p (.dK ws)) := by
  intro p e
  have g := upd_grow (o := .dK ws) e
  have le := Le.new (o := .dic false kvs) s e g
  exact h ⟨w.ms ++ [p], w.S ++ [.dic false kvs], upd w.H p (.dK ws), w.hid⟩ (.ref p) rfl le (RelS.new (o := .dic false kvs) s e g ⟨_, upd_same⟩ ⟨ws, upd_same, Paired.mapP r fun _ _ z => ⟨z.1, z.2.1, z.2.2.mono le.mo⟩⟩) (new_ref s)
theorem okR.mkT {Q : VK} {xs : List A} {vs : List V} (h : okR K ad G Q E w (.ok (.tup xs) w.S)) (s : RelS K ad.cls w) (r : RelAs K w xs vs) : ∀ p, w.H p = none → Q (.ref p) (upd w.H p (.tup vs)) := by
  intro p e
  exact h ⟨w.ms, w.S, upd w.H p (.tup vs), w.hid⟩ (.ref p) rfl (Le.grow (upd_grow e)) (s.grow (upd_grow e)) (new_tup s r e)
end
/-- what may be read as a list: a value's, an object's -/
theorem der_rd {K : PySem.W.Frag} {cls : Nat → Addr} {w : Wd} (s : RelS K cls w) {a : A} {v : V} (r : RelA K w a v) {xs : List A} (e : der w.S a = .lst xs) : ∃ p vs, v = .ref p ∧ Rd w.H p (.lst vs) ∧ RelAs K w xs vs := by
  rcases der_rel s r with e' | ⟨n, ys, p, vs, rfl, e', e1, e2, rfl, hH, rs⟩
  · rw [e'] at e; subst e
    simp only [RelA] at r
    obtain ⟨a, vs, rfl, q, rs⟩ := r
    exact ⟨a, vs, rfl, q.1, rs⟩
  · rw [e'] at e; cases e
    exact ⟨p, vs, rfl, .inl hH, rs⟩
/-- the items of what is walked or indexed -/
theorem seqO_rel {K : PySem.W.Frag} {cls : Nat → Addr} {w : Wd} (s : RelS K cls w) {a : A} {v : V} (r : RelA K w a v) {xs : List A} (e : seqO w.S a = some xs) : ∃ p vs, v = .ref p ∧ (SqL K w.H p vs ∨ SqT K w.H p vs) ∧ RelAs K w xs vs := by
  cases a with
  | tup ys =>
    simp only [seqO, Option.some.injEq] at e; subst e
    simp only [RelA] at r
    obtain ⟨a, vs, rfl, q, rs⟩ := r
    exact ⟨a, vs, rfl, .inr q.sq, rs⟩
  | lst ys =>
    simp only [seqO, Option.some.injEq] at e; subst e
    simp only [RelA] at r
    obtain ⟨a, vs, rfl, q, rs⟩ := r
    exact ⟨a, vs, rfl, .inl q.sq, rs⟩
  | scr ys =>
    simp only [seqO, Option.some.injEq] at e; subst e
    simp only [RelA] at r
    obtain ⟨a, vs, rfl, q, rs⟩ := r
    exact ⟨a, vs, rfl, .inl (q.elim (fun q => q.sq) .inr), rs⟩
  | ktup ys =>
    simp only [seqO, Option.some.injEq] at e; subst e
    simp only [RelA] at r
    obtain ⟨a, vs, rfl, q, rs⟩ := r
    exact ⟨a, vs, rfl, .inr (.inr q), rs⟩
  | ref n =>
    simp only [RelA] at r
    obtain ⟨p, e1, rfl⟩ := r
    simp only [seqO] at e
    split at e
    · rename_i ys q
      simp only [Option.some.injEq] at e; subst e
      obtain ⟨vs, h, rs⟩ := s.obj n p _ e1 q
      exact ⟨p, vs, rfl, .inl (SqL.of h), rs⟩
    · cases e
  | _ => simp [seqO] at e
end Lt
namespace Lt
open PySem L2 PySem.Spec PyProof.Rows
section
variable {X : Cx}
def rRepR : R2 := fun x y H Q => ∃ l k xs, x = .ref l ∧ y = .int k ∧ Rd H l (.lst xs) ∧ -(2 ^ 63) ≤ k ∧ k < 2 ^ 63 ∧ xs.length * k.toNat ≤ sizeLine ∧
  ∀ p, H p = none → Q (.ref p) (upd H p (.lst (List.replicate k.toNat xs).flatten))
theorem op_repR : OpR X (binaryOp .Mult) rRepR := by
  intro pins s σ H x y v u Q I rx ry h
  obtain ⟨l, k, xs, rfl, rfl, hH, h1, h2, hz, q⟩ := h
  cases rx
  obtain ⟨t, rfl⟩ := ry
  obtain ⟨z, its, n, r, hl, e⟩ := Rd.lst I hH
  have hlen : its.toArray.size * k.toNat ≤ sizeLine := by rw [List.size_toArray, ← hl]; exact hz
  have hcap : ¬ its.toArray.size * k.toNat > (2 ^ 63 - 1) / 8 := by
    have : (sizeLine : Nat) ≤ (2 ^ 63 - 1) / 8 := by decide
    omega
  have hfit : ¬ (!Builtin.List.listFitsIndex k) = true := by
    rw [fitsIndex_both h1 h2]
    exact Bool.false_ne_true
  have hlong : ¬ Builtin.List.listTooLong (its.toArray.size * k.toNat) = true := by
    rw [notLongL hlen]
    exact Bool.false_ne_true
  have hnew : List.foldl (fun x1 x2 => x1 ++ x2) #[] (List.replicate (if its.toArray.isEmpty = true then 0 else k.toNat) its.toArray) = (List.replicate k.toNat its).flatten.toArray := by
    have f0 : ∀ m : Nat, List.foldl (fun x1 x2 => x1 ++ x2) #[] (List.replicate m its.toArray) = (List.replicate m its).flatten.toArray := fun m => by
      have := foldl_rep its m []
      rw [List.nil_append] at this
      exact this
    rw [f0]
    cases its with
    | nil => simp
    | cons a r' => rw [if_neg (by simp)]
  refine wpAny_binaryOp_repeat_ref (T := "list") (U := "int") (by decide) ⟨_, e, rfl⟩ (fun s' => typeIs_int s' k t) noFill_list_mul F.fills_int_mul F.slot_int_rmul repeat_list F.slot_int_index.lookup
    (call_meets F.slot_int_rmul (typeIs_int s k t) F.entry_int_rmul (F.args_int_rmul_2 _ _) (int___rmul___int_list k t l its.toArray n)
      ⟨e, rfl, ⟨_, e, rfl⟩, call_meets F.slot_list_mul ⟨_, e, rfl⟩ F.entry_list_mul (F.args_list_mul_2 _ _) (AutoListH.list___mul___list_int_3 l its.toArray n k t hfit hcap hlong) ⟨e, ?_⟩⟩)
  rw [hnew]
  exact ⟨.ref _, _, I.lnew (t' := s.toks) (r.rep k.toNat) (by rw [PyProof.Rows.lm_len_rep_flat, Nat.mul_comm]; exact hz), rfl, q _ I.fresh⟩
/-- a tuple times 1, or an empty one: itself -/
theorem tuple_mulSame (l : Addr) (items : Array Value) (n : Nat) (dd : Option Addr) (sl : Array (Option Value)) (x : Int) (u : Tok) (c0 : (decide (x < -(2 ^ 63)) || decide (x ≥ 2 ^ 63)) = false) (c1 : (items.isEmpty || x == 1) = true) :
    Meets (Builtin.«tuple.__mul__» ⟨[.ref l, .int x u], []⟩) (fun _ R s => s.heap.get? l = some { cls := .type "tuple", dict := dd, data := .seq items n, slots := sl } ∧ R (.ok (.ret (Value.ref l))) s) :=
  .of_wp fun prog w A R s h => by
    obtain ⟨hp, g, d, tk, os⟩ := s
    obtain ⟨hl, h⟩ := h
    have f1 := AutoSeq1.idx_int
    wp_walk using wpAny_loadPart' hl
    repeat (first
      | (refine wpAny_ite_false (decide_eq_false (by rw [c0]; exact Bool.false_ne_true)) ?_; wp_walk using wpAny_loadPart' hl)
      | (refine wpAny_ite_true (decide_eq_true (by rw [c1])) ?_; wp_walk using wpAny_loadPart' hl))
    all_goals exact ⟨_, rfl, h⟩
theorem tuple_mulNone (l : Addr) (items : Array Value) (n : Nat) (dd : Option Addr) (sl : Array (Option Value)) (x : Int) (u : Tok) (c0 : (decide (x < -(2 ^ 63)) || decide (x ≥ 2 ^ 63)) = false) (c1 : (items.isEmpty || x == 1) = false) (c2 : (decide (x ≤ 0) || items.isEmpty) = true) :
    Meets (Builtin.«tuple.__mul__» ⟨[.ref l, .int x u], []⟩) (fun _ R s => s.heap.get? l = some { cls := .type "tuple", dict := dd, data := .seq items n, slots := sl } ∧
      R (.ok (.ret (Value.ref s.heap.objs.size))) { s with heap := s.heap.push { cls := Value.type "tuple", data := Data.seq #[] }, toks := s.toks }) :=
  .of_wp fun prog w A R s h => by
    obtain ⟨hp, g, d, tk, os⟩ := s
    obtain ⟨hl, h⟩ := h
    have f1 := AutoSeq1.idx_int
    wp_walk using wpAny_loadPart' hl
    repeat (first
      | (refine wpAny_ite_false (decide_eq_false (by rw [c0]; exact Bool.false_ne_true)) ?_; wp_walk using wpAny_loadPart' hl)
      | (refine wpAny_ite_false (decide_eq_false (by rw [c1]; exact Bool.false_ne_true)) ?_; wp_walk using wpAny_loadPart' hl)
      | (refine wpAny_ite_true (decide_eq_true (by rw [c2])) ?_; wp_walk using wpAny_loadPart' hl))
    all_goals exact ⟨_, rfl, h⟩
def rMulT (K : PySem.W.Frag) : R2 := fun x y H Q => ∃ l k xs, x = .ref l ∧ y = .int k ∧ SqT K H l xs ∧ 0 ≤ k ∧ k < 2 ^ 63 ∧ xs.length * k.toNat ≤ sizeLine ∧
  (xs = [] ∨ k = 1 → Q (.ref l) H) ∧ (xs ≠ [] → k ≠ 1 → ∀ p, H p = none → Q (.ref p) (upd H p (.tup (List.replicate k.toNat xs).flatten)))
theorem op_mulT : OpR X (binaryOp .Mult) (rMulT X.K) := by
  intro pins s σ H x y v u Q I rx ry h
  obtain ⟨l, k, xs, rfl, rfl, hT, h0, h63, hz, q1, q2⟩ := h
  cases rx
  obtain ⟨t, rfl⟩ := ry
  obtain ⟨its, r, ⟨⟨cls, dd, data, sl⟩, ho, hc, n, hd⟩, hs⟩ := I.tuple hT
  simp only at hc hd
  subst hc hd
  have hle : its.length = xs.length := r.length.symm
  have hsz0 : its.toArray.size = xs.length := by rw [List.size_toArray, hle]
  have c0 : (decide (k < -(2 ^ 63)) || decide (k ≥ 2 ^ 63)) = false := by
    rw [decide_eq_false (by omega), decide_eq_false (by omega)] <;> rfl
  by_cases hsame : xs = [] ∨ k = 1
  · have c1 : (its.toArray.isEmpty || k == 1) = true := by
      rcases hsame with e | e
      · subst e
        have : its = [] := List.eq_nil_of_length_eq_zero (by simpa using hle)
        subst this
        rfl
      · subst e; simp
    exact wpAny_binaryOp_repeat_ref (T := "tuple") (U := "int") (by decide) ⟨_, ho, rfl⟩ (fun s' => typeIs_int s' k t) noFill_tuple_mul F.fills_int_mul F.slot_int_rmul repeat_tuple F.slot_int_index.lookup
      (call_meets F.slot_int_rmul (typeIs_int s k t) F.entry_int_rmul (F.args_int_rmul_2 _ _) (int_rmul_tuple k t l its.toArray n dd sl)
        ⟨ho, rfl, ⟨_, ho, rfl⟩, call_meets F.slot_tuple_mul ⟨_, ho, rfl⟩ F.entry_tuple_mul (F.args_tuple_mul_2 _ _) (tuple_mulSame l its.toArray n dd sl k t c0 c1) ⟨ho, ⟨.ref l, H, I, rfl, q1 hsame⟩⟩⟩)
  · have hne : xs ≠ [] := fun e => hsame (.inl e)
    have hk1 : k ≠ 1 := fun e => hsame (.inr e)
    have q := q2 hne hk1
    have hn : its ≠ [] := fun e => hne (by
      rw [e] at hle
      exact List.eq_nil_of_length_eq_zero hle.symm)
    have hi : its.toArray.isEmpty = false := by
      cases its with
      | nil => exact absurd rfl hn
      | cons a b => rfl
    have c1 : (its.toArray.isEmpty || k == 1) = false := by
      rw [hi, Bool.false_or]
      exact beq_eq_false_iff_ne.mpr hk1
    by_cases hk0 : k = 0
    · subst hk0
      have c2 : (decide ((0 : Int) ≤ 0) || its.toArray.isEmpty) = true := rfl
      refine wpAny_binaryOp_repeat_ref (T := "tuple") (U := "int") (by decide) ⟨_, ho, rfl⟩ (fun s' => typeIs_int s' 0 t) noFill_tuple_mul F.fills_int_mul F.slot_int_rmul repeat_tuple F.slot_int_index.lookup
        (call_meets F.slot_int_rmul (typeIs_int s 0 t) F.entry_int_rmul (F.args_int_rmul_2 _ _) (int_rmul_tuple 0 t l its.toArray n dd sl)
          ⟨ho, rfl, ⟨_, ho, rfl⟩, call_meets F.slot_tuple_mul ⟨_, ho, rfl⟩ F.entry_tuple_mul (F.args_tuple_mul_2 _ _) (tuple_mulNone l its.toArray n dd sl 0 t c0 c1 c2) ⟨ho, ?_⟩⟩)
      refine ⟨.ref s.heap.objs.size, _, I.laid (t' := s.toks) (o := .tup []) (fun b ob q => Heap.get?_push_of_some _ q) (Nat.le_refl _) ?_, rfl, q _ (I.hok.fresh (Nat.le_refl _))⟩
      exact ⟨Nat.zero_le _, [], .nil, IsTup.new _ _⟩
    · have hm : ((its.toArray.size : Nat) : Int) * k ≤ 16777216 := by
        rw [hsz0]
        rw [sizeLine_eq] at hz
        have e : k = (k.toNat : Int) := by omega
        rw [e, ← Int.natCast_mul]
        omega
      have c2 : (decide (k ≤ 0) || its.toArray.isEmpty) = false := by
        rw [hi, Bool.or_false]
        exact decide_eq_false (by omega)
      have c4 : Builtin.Tuple.tupleTooMany (((its.toArray.size : Nat) : Int) * k) = false := by
        unfold Builtin.Tuple.tupleTooMany
        rw [sizeLine_eq]
        exact decide_eq_false (by omega)
      have flen : (List.replicate k.toNat its).flatten.length ≤ sizeLine := by
        rw [PyProof.Rows.lm_len_rep_flat, hle, Nat.mul_comm]
        exact hz
      refine wpAny_binaryOp_repeat_ref (T := "tuple") (U := "int") (by decide) ⟨_, ho, rfl⟩ (fun s' => typeIs_int s' k t) noFill_tuple_mul F.fills_int_mul F.slot_int_rmul repeat_tuple F.slot_int_index.lookup
        (call_meets F.slot_int_rmul (typeIs_int s k t) F.entry_int_rmul (F.args_int_rmul_2 _ _) (int_rmul_tuple k t l its.toArray n dd sl)
          ⟨ho, rfl, ⟨_, ho, rfl⟩, call_meets F.slot_tuple_mul ⟨_, ho, rfl⟩ F.entry_tuple_mul (F.args_tuple_mul_2 _ _) (tuple_mulW l its.toArray n dd sl k t c0 c1 c2 (by omega) c4 (by rw [size_rep, List.size_toArray]; exact flen)) ⟨ho, ?_⟩⟩)
      rw [size_rep]
      refine ⟨.ref s.heap.objs.size, _, I.laid (t' := s.toks) (o := .tup (List.replicate k.toNat xs).flatten) (fun b ob q => Heap.get?_push_of_some _ q) (Nat.le_refl _) ?_, rfl, q _ (I.hok.fresh (Nat.le_refl _))⟩
      exact ⟨by rw [PyProof.Rows.lm_len_rep_flat, Nat.mul_comm]; exact hz, _, r.rep k.toNat, IsTup.new _ _⟩
end
end Lt
/-! operators, comparisons, subscripts, lengths, truth: by the model's own rules -/
namespace Lt
open PySem L2
theorem relA_int {K : PySem.W.Frag} {w : Wd} {i : Int} {v : V} (r : RelA K w (.int i) v) : v = .int i := by simpa only [RelA] using r
theorem relA_bl {K : PySem.W.Frag} {w : Wd} {i : Bool} {v : V} (r : RelA K w (.bl i) v) : v = .bl i := by simpa only [RelA] using r
theorem relA_non {K : PySem.W.Frag} {w : Wd} {v : V} (r : RelA K w .non v) : v = .non := by simpa only [RelA] using r
theorem relA_str {K : PySem.W.Frag} {w : Wd} {x : List Nat} {v : V} (r : RelA K w (.str x) v) : v = .str (mkS x) ∧ okS x := by simpa only [RelA] using r
theorem relA_tup {K : PySem.W.Frag} {w : Wd} {xs : List A} {v : V} (r : RelA K w (.tup xs) v) : ∃ a vs, v = .ref a ∧ VT w a vs ∧ RelAs K w xs vs := by simpa only [RelA] using r
theorem relA_lst {K : PySem.W.Frag} {w : Wd} {xs : List A} {v : V} (r : RelA K w (.lst xs) v) : ∃ a vs, v = .ref a ∧ VL w a vs ∧ RelAs K w xs vs := by simpa only [RelA] using r
theorem relA_ref {K : PySem.W.Frag} {w : Wd} {n : Nat} {v : V} (r : RelA K w (.ref n) v) : ∃ a, w.ms[n]? = some a ∧ v = .ref a := by simpa only [RelA] using r
theorem int_rel {K : PySem.W.Frag} {w : Wd} {i : Int} : RelA K w (.int i) (.int i) := by simp only [RelA]
theorem bl_rel {K : PySem.W.Frag} {w : Wd} {i : Bool} : RelA K w (.bl i) (.bl i) := by simp only [RelA]
theorem non_rel {K : PySem.W.Frag} {w : Wd} : RelA K w .non .non := by simp only [RelA]
theorem str_rel {K : PySem.W.Frag} {w : Wd} {x : List Nat} (h : okS x) : RelA K w (.str x) (.str (mkS x)) := by simp only [RelA]; exact ⟨trivial, h⟩
theorem okS.append {x y : List Nat} (h : okS x) (k : okS y) (z : x.length + y.length ≤ sizeLine) : okS (x ++ y) :=
  ⟨by rw [List.length_append]; exact z, fun c hc => (List.mem_append.mp hc).elim (h.2 c) (k.2 c)⟩
theorem mkS_append (x y : List Nat) : mkS x ++ mkS y = mkS (x ++ y) := by
  show (⟨(mkS x).cps ++ (mkS y).cps⟩ : Str) = ⟨(x ++ y).toArray⟩
  simp [mkS]
theorem mkS_length (x : List Nat) : (mkS x).length = x.length := by
  show x.toArray.size = x.length
  simp

theorem RelAs.rep {K : PySem.W.Frag} {w : Wd} {xs : List A} {vs : List V} (h : RelAs K w xs vs) : ∀ k : Nat, RelAs K w (List.replicate k xs).flatten (List.replicate k vs).flatten
  | 0 => by simp; exact RelAs.nil
  | k + 1 => by rw [List.replicate_succ, List.replicate_succ, List.flatten_cons, List.flatten_cons]; exact h.append (RelAs.rep h k)
section
variable {X : Cx} {ad : Ad} {G : Gt}
def rBin (K : PySem.W.Frag) (ad : Ad) (G : Gt) (op : Operator) (fl : Bool) : R2 := fun x y H Q => ∃ w a b E, w.H = H ∧ RelS K ad.cls w ∧ RelA K w a x ∧ RelA K w b y ∧ okR K ad G Q E w (binO op fl a b w.S)
theorem mul_foldA (x : List Nat) : ∀ (k : Nat) (acc : Array Nat), ((List.replicate k (mkS x).cps).foldl (· ++ ·) acc).toList = acc.toList ++ (List.replicate k x).flatten
  | 0, acc => by simp
  | k + 1, acc => by
    rw [List.replicate_succ, List.foldl_cons, mul_foldA x k, List.replicate_succ, List.flatten_cons]
    simp [mkS]
theorem mul_txt (x : List Nat) {j : Int} (hj : 0 ≤ j) : Txt.mul (mkS x) j = mkS (List.replicate j.toNat x).flatten := by
  unfold Txt.mul
  split
  · have : j = 0 := by omega
    subst this
    rfl
  · split
    · rename_i h
      simp only [Bool.or_eq_true, beq_iff_eq] at h
      rcases h with h | h
      · subst h; simp
      · rw [mkS_length] at h
        have : x = [] := List.eq_nil_of_length_eq_zero h
        subst this
        simp
    · have e := mul_foldA x j.toNat #[]
      have e2 : (List.replicate j.toNat (mkS x).cps).foldl (· ++ ·) #[] = (List.replicate j.toNat x).flatten.toArray := by
        apply Array.toList_inj.mp
        rw [e]; simp
      show (⟨_⟩ : Str) = ⟨_⟩
      rw [e2]
theorem op_mulS : OpR X (binaryOp .Mult) (fun x y H Q => ∃ (s : List Nat) (j : Int), x = .str (mkS s) ∧ y = .int j ∧ 0 ≤ j ∧ j < 1000000 ∧ s.length * j.toNat ≤ 1000000 ∧ Q (.str (mkS (List.replicate j.toNat s).flatten)) H) := by
  intro pins s σ H x y v u Q I rx ry h
  obtain ⟨a, j, rfl, rfl, h1, h2, h3, q⟩ := h
  obtain ⟨t, rfl⟩ := rx
  obtain ⟨k, rfl⟩ := ry
  have hz : (1000000 : Nat) ≤ sizeLine := by decide
  refine SB.mul ⟨by rw [decide_eq_false (by omega), decide_eq_false (by omega)]; rfl, fun g1 _ => ?_, fun g1 _ => ?_⟩ fun t' k => ⟨.str _, H, I.tok _, ⟨t', rfl⟩, ?_⟩
  · rw [mkS_length]
    have : (a.length : Int) * j ≤ 1000000 := by
      have e : (j.toNat : Int) = j := by omega
      rw [← e, ← Int.natCast_mul]; exact Int.ofNat_le.mpr h3
    have : (a.length : Int) ≤ (2 ^ 63 - 1) / j := Int.le_ediv_of_mul_le (by omega) (by omega)
    omega
  · rw [mkS_length]
    exact decide_eq_false (Nat.not_lt.mpr (Nat.le_trans h3 hz))
  · rw [mul_txt a h1]; exact q
theorem opr_bin (op : Operator) (fl : Bool) : OpR X (binaryOp op) (rBin X.K ad G op fl) := by
  intro pins s σ H x y v u Q I rx ry h
  obtain ⟨w, a, b, E, rfl, hs, ra, rb, hok⟩ := h
  unfold binO at hok
  split at hok
  · -- int + int
    cases relA_int ra; cases relA_int rb
    exact op_add pins s σ _ _ _ v u Q I rx ry ⟨_, _, rfl, rfl, hok.ret rfl hs int_rel⟩
  · cases relA_int ra; cases relA_int rb
    exact op_sub pins s σ _ _ _ v u Q I rx ry ⟨_, _, rfl, rfl, hok.ret rfl hs int_rel⟩
  · cases relA_int ra; cases relA_int rb
    split at hok
    · rename_i h; exact op_mul pins s σ _ _ _ v u Q I rx ry ⟨_, _, rfl, rfl, h, hok.ret rfl hs int_rel⟩
    · exact hok.elim
  · cases relA_int ra; cases relA_int rb
    split at hok
    · rename_i h; exact op_fdiv pins s σ _ _ _ v u Q I rx ry ⟨_, _, rfl, rfl, h, hok.ret rfl hs int_rel⟩
    · exact hok.elim
  · cases relA_int ra; cases relA_int rb
    split at hok
    · rename_i h; exact op_mod pins s σ _ _ _ v u Q I rx ry ⟨_, _, rfl, rfl, h, hok.ret rfl hs int_rel⟩
    · exact hok.elim
  · cases relA_int ra; cases relA_int rb
    split at hok
    · rename_i h; exact op_pow pins s σ _ _ _ v u Q I rx ry ⟨_, _, rfl, rfl, h, hok.ret rfl hs int_rel⟩
    · exact hok.elim
  · obtain ⟨e1, o1⟩ := relA_str ra
    obtain ⟨e2, o2⟩ := relA_str rb
    subst e1 e2
    split at hok
    · rename_i h
      refine op_add_str pins s σ _ _ _ v u Q I rx ry ⟨_, _, rfl, rfl, by rw [mkS_length, mkS_length]; exact h, ?_⟩
      rw [mkS_append]
      exact hok.ret rfl hs (str_rel (o1.append o2 h))
    · exact hok.elim
  · rename_i xs ys
    obtain ⟨a, vs, rfl, ha, r1⟩ := relA_tup ra
    obtain ⟨b, us, rfl, hb, r2⟩ := relA_tup rb
    split at hok
    · rename_i h
      have l1 := r1.length
      have l2 := r2.length
      refine op_catA pins s σ _ _ _ v u Q I rx ry ⟨a, b, vs, us, rfl, rfl, ha.sq, hb.sq, by omega, fun e => ?_, fun e1 e2 => ?_, fun e1 e2 => ?_⟩
      · subst e
        have : xs = [] := List.eq_nil_of_length_eq_zero (by simpa using l1)
        subst this
        exact hok.ret rfl hs (by simp only [RelA]; exact ⟨b, us, rfl, hb, r2⟩)
      · subst e2
        have : ys = [] := List.eq_nil_of_length_eq_zero (by simpa using l2)
        subst this
        exact hok.ret rfl hs (by simp only [RelA]; exact ⟨a, vs, rfl, ha, by simpa using r1⟩)
      · exact hok.mkT hs (r1.append r2)
    · exact hok.elim
  · rename_i xs j
    obtain ⟨a, vs, rfl, ha, r1⟩ := relA_tup ra
    cases relA_int rb
    split at hok
    · rename_i h
      have l1 := r1.length
      refine op_mulT pins s σ _ _ _ v u Q I rx ry ⟨a, j, vs, rfl, rfl, ha.sq, h.1, h.2.1, by rw [← l1]; exact h.2.2, fun e => ?_, fun e1 e2 => ?_⟩
      · have e3 : (List.replicate j.toNat xs).flatten = xs := by
          rcases e with e | e
          · subst e
            have : xs = [] := List.eq_nil_of_length_eq_zero (by simpa using l1)
            subst this
            simp
          · subst e; simp
        rw [e3] at hok
        exact hok.ret rfl hs ra
      · exact hok.mkT hs (r1.rep _)
    · exact hok.elim
  · rename_i x j
    obtain ⟨rfl, o1⟩ := relA_str ra
    cases relA_int rb
    split at hok
    · rename_i h
      have hz : (1000000 : Nat) ≤ sizeLine := by decide
      refine op_mulS pins s σ _ _ _ v u Q I rx ry ⟨x, j, rfl, rfl, h.1, h.2.1, h.2.2, hok.ret rfl hs (str_rel ⟨?_, fun c hc => ?_⟩)⟩
      · rw [List.length_flatten, List.map_replicate, List.sum_replicate_nat, Nat.mul_comm]
        exact Nat.le_trans h.2.2 hz
      · obtain ⟨l, hl, hc⟩ := List.mem_flatten.mp hc
        rw [(List.mem_replicate.mp hl).2] at hc
        exact o1.2 c hc
    · exact hok.elim
  · rename_i a b _ _ _
    split at hok
    · rename_i xs ys e1 e2
      obtain ⟨p, vs, rfl, h1, r1⟩ := der_rd hs ra e1
      obtain ⟨q, us, rfl, h2, r2⟩ := der_rd hs rb e2
      split at hok
      · rename_i h
        have l1 := r1.length
        have l2 := r2.length
        exact op_catR pins s σ _ _ _ v u Q I rx ry ⟨p, q, vs, us, rfl, rfl, h1, h2, by omega, hok.mkL hs (r1.append r2)⟩
      · exact hok.elim
    · exact hok.elim
  · rename_i j _ _ _
    cases relA_int rb
    split at hok
    · rename_i xs e1
      obtain ⟨p, vs, rfl, h1, r1⟩ := der_rd hs ra e1
      split at hok
      · rename_i h
        have l1 := r1.length
        exact op_repR pins s σ _ _ _ v u Q I rx ry ⟨p, j, vs, rfl, rfl, h1, by omega, h.2.1, by rw [← l1]; exact h.2.2, hok.mkL hs (r1.rep _)⟩
      · exact hok.elim
    · exact hok.elim
  · exact hok.elim

/-! ### comparisons -/
def rCmp (K : PySem.W.Frag) (ad : Ad) (op : CmpOp) : R2 := fun x y H Q => ∃ w a b k, w.H = H ∧ RelS K ad.cls w ∧ RelA K w a x ∧ RelA K w b y ∧ cmpO op a b w.S = some k ∧ Q (.bl k) H
theorem mem_any_dats (ys : List A) (a : A) (hp : A.pures ys = true) (ha : a.pure = true) : (A.dats ys).any (fun z => PyData.eqv z a.dat) = ys.any fun z => z.eqv a := by
  induction ys with
  | nil => rfl
  | cons y ys ih =>
    simp only [A.pures, Bool.and_eq_true] at hp
    simp only [A.dats, List.any_cons]
    rw [ih hp.2, eqv_dat y a hp.1 ha]
/-- x in a list, a tuple -/
theorem in_seq (neg : Bool) {pins : List (Addr × Obj)} {s : Shared} {σ : L2.St} {H : Hp} {x y : V} {v u : Value} {Q : VK} {d : PyData} {ds : List PyData} (hu : X.A.units + 66 < cLine) (I : Inv X pins σ H s) (rx : RelV x v) (ry : RelV y u)
    (hd : Dp X.K H x d) (he : Dp X.K H y (.list ds) ∨ Dp X.K H y (.tuple ds)) (sd : d.canLay0 = true) (se : PyData.canLayAll0 ds = true) (hm : min d.depth (PyData.depthAll ds) ≤ 63)
    (q : Q (.bl (if neg then !(ds.any fun z => PyData.eqv z d) else ds.any fun z => PyData.eqv z d)) H) : wpAny (model X.prog X.w) X.A (compareOp (if neg then .NotIn else .In) v u) (EP X pins σ Q) X.xe s := by
  obtain ⟨as, r1⟩ := Dp.reads I d x v hd rx
  have hroom : X.A.units + 1 + min (PyData.depthAll ds) d.depth < cLine := by rw [Nat.min_comm]; omega
  have s1 : PyData.canLay0 (.list ds) = true := by simp only [PyData.canLay0]; exact se
  have s2 : PyData.canLay0 (.tuple ds) = true := by simp only [PyData.canLay0]; exact se
  rcases he with he | he
  · obtain ⟨bs, r2⟩ := Dp.reads I (.list ds) y u he ry
    cases neg with
    | false => exact SeqAt.in_list_reads r2 r1 s1 sd hroom ⟨.bl _, H, I, rfl, q⟩
    | true => exact SeqAt.notIn_list_reads r2 r1 s1 sd hroom ⟨.bl _, H, I, rfl, q⟩
  · obtain ⟨bs, r2⟩ := Dp.reads I (.tuple ds) y u he ry
    cases neg with
    | false => exact SeqAt.in_tuple_reads r2 r1 s2 sd hroom ⟨.bl _, H, I, rfl, q⟩
    | true => exact SeqAt.notIn_tuple_reads r2 r1 s2 sd hroom ⟨.bl _, H, I, rfl, q⟩
theorem keyOf_kV {K : PySem.W.Frag} {w : Wd} {a : A} {v : V} {k : Key} (r : RelA K w a v) (e : keyOf a = some k) : v = kV k := by
  cases a <;> simp only [keyOf] at e <;> first | (cases e; done) | skip
  · cases e; cases relA_int r; rfl
  · cases e; obtain ⟨e1, _⟩ := relA_str r; subst e1; rfl
theorem keysOf_kV {K : PySem.W.Frag} {w : Wd} : ∀ {xs : List A} {vs : List V} {ks : List Key}, RelAs K w xs vs → keysOf xs = some ks → vs = ks.map kV
  | [], vs, ks, r, e => by simp only [RelAs] at r; simp only [keysOf, Option.some.injEq] at e; subst r; subst e; rfl
  | x :: xs, vs, ks, r, e => by
    simp only [RelAs] at r
    obtain ⟨v, us, rfl, r1, r2⟩ := r
    simp only [keysOf] at e
    split at e
    · rename_i k ks' e1 e2
      cases e
      rw [List.map_cons, keyOf_kV r1 e1, keysOf_kV r2 e2]
    · cases e
theorem eqv_key {a b : A} {k l : Key} (ha : keyOf a = some k) (hb : keyOf b = some l) : a.eqv b = decide (k = l) := by
  cases a <;> simp only [keyOf] at ha <;> first | (cases ha; done) | skip
  · cases ha
    cases b <;> simp only [keyOf] at hb <;> first | (cases hb; done) | skip
    · cases hb; rw [Bool.eq_iff_iff]; simp [A.eqv]
    · cases hb; simp [A.eqv]
  · cases ha
    cases b <;> simp only [keyOf] at hb <;> first | (cases hb; done) | skip
    · cases hb; simp [A.eqv]
    · cases hb
      rw [Bool.eq_iff_iff]
      simp only [A.eqv, beq_iff_eq, decide_eq_true_eq, Sum.inr.injEq]
      exact ⟨fun h => by rw [h], mkS_inj⟩
theorem eqv_keys : ∀ {a b : List A} {k l : List Key}, keysOf a = some k → keysOf b = some l → A.eqvs a b = decide (k = l)
  | [], [], k, l, ha, hb => by simp only [keysOf, Option.some.injEq] at ha hb; subst ha; subst hb; simp [A.eqvs]
  | [], y :: ys, k, l, ha, hb => by
    simp only [keysOf, Option.some.injEq] at ha
    simp only [keysOf] at hb
    split at hb
    · cases hb; subst ha; simp [A.eqvs]
    · cases hb
  | x :: xs, [], k, l, ha, hb => by
    simp only [keysOf, Option.some.injEq] at hb
    simp only [keysOf] at ha
    split at ha
    · cases ha; subst hb; simp [A.eqvs]
    · cases ha
  | x :: xs, y :: ys, k, l, ha, hb => by
    simp only [keysOf] at ha hb
    split at ha
    · rename_i k1 ks1 e1 e2
      cases ha
      split at hb
      · rename_i k2 ks2 e3 e4
        cases hb
        simp only [A.eqvs]
        rw [eqv_key e1 e3, eqv_keys e2 e4, Bool.eq_iff_iff]
        simp
      · cases hb
    · cases ha
theorem eqv_tkey {a b : A} {k l : List Key} (ha : tkeyOf a = some k) (hb : tkeyOf b = some l) : a.eqv b = decide (k = l) := by
  cases a <;> simp only [tkeyOf] at ha <;> first | (cases ha; done) | skip
  cases b <;> simp only [tkeyOf] at hb <;> first | (cases hb; done) | skip
  simp only [A.eqv]
  exact eqv_keys ha hb
/-- a look-up is the layer's -/
theorem valO_val {κ : Type} [DecidableEq κ] {K : PySem.W.Frag} {w : Wd} {f : A → Option κ} (hf : ∀ {a b k l}, f a = some k → f b = some l → a.eqv b = decide (k = l)) {a : A} {k : κ} (ha : f a = some k) :
    ∀ {kvs : List (A × A)} {ws : List (κ × V)}, Paired (fun (p : A × A) (q : κ × V) => f p.1 = some q.1 ∧ okKey p.1 ∧ RelA K w p.2 q.2) kvs ws →
      (valO kvs a = none ∧ valV ws k = none) ∨ ∃ x v, valO kvs a = some x ∧ valV ws k = some v ∧ RelA K w x v := by
  intro kvs ws h
  induction h with
  | nil => exact .inl ⟨rfl, rfl⟩
  | @cons p q l₁ l₂ r t ih =>
    have e : p.1.eqv a = decide (q.1 = k) := hf r.1 ha
    by_cases hk : q.1 = k
    · refine .inr ⟨p.2, q.2, ?_, ?_, r.2.2⟩
      · unfold valO; rw [List.find?_cons, e, decide_eq_true hk]; rfl
      · unfold valV; rw [List.find?_cons, decide_eq_true hk]; rfl
    · have e1 : valO (p :: l₁) a = valO l₁ a := by unfold valO; rw [List.find?_cons, e, decide_eq_false hk]
      have e2 : valV (q :: l₂) k = valV l₂ k := by unfold valV; rw [List.find?_cons, decide_eq_false hk]
      rw [e1, e2]; exact ih
/-- a dict, walked or not -/
theorem dicR_rel {K : PySem.W.Frag} {cls : Nat → Addr} {w : Wd} (s : RelS K cls w) {d : A} {v : V} (rd : RelA K w d v) {t : Bool} {kvs : List (A × A)} (e : dicR w.S d = some (t, kvs)) :
    ∃ p, v = .ref p ∧ ((t = false ∧ ∃ ws, Rd w.H p (.dK ws) ∧ Paired (fun (p : A × A) (q : Key × V) => keyOf p.1 = some q.1 ∧ okKey p.1 ∧ RelA K w p.2 q.2) kvs ws) ∨
      (t = true ∧ ∃ ws, Rd w.H p (.dT ws) ∧ Paired (fun (p : A × A) (q : List Key × V) => tkeyOf p.1 = some q.1 ∧ okKey p.1 ∧ RelA K w p.2 q.2) kvs ws)) := by
  cases d <;> simp only [dicR] at e <;> first | (cases e; done) | skip
  rename_i n
  obtain ⟨p, hp, rfl⟩ := relA_ref rd
  refine ⟨p, rfl, ?_⟩
  split at e
  · rename_i t' kvs' hS
    cases e
    have ro := s.obj n p _ hp hS
    cases t with
    | false => obtain ⟨ws, hH, hw⟩ := ro; exact .inl ⟨rfl, ws, .inl hH, hw⟩
    | true => obtain ⟨ws, hH, hw⟩ := ro; exact .inr ⟨rfl, ws, .inl hH, hw⟩
  · rename_i t' kvs' hS
    cases e
    have ro := s.obj n p _ hp hS
    cases t with
    | false => obtain ⟨ws, ob, hH, hw⟩ := ro; exact .inl ⟨rfl, ws, .inr ⟨ob, hH⟩, hw⟩
    | true => obtain ⟨ws, ob, hH, hw⟩ := ro; exact .inr ⟨rfl, ws, .inr ⟨ob, hH⟩, hw⟩
  · cases e
/-- what a dict's object answers -/
theorem dic_get {K : PySem.W.Frag} {cls : Nat → Addr} {w : Wd} (s : RelS K cls w) {d k : A} {v u : V} (rd : RelA K w d v) (rk : RelA K w k u) {t : Bool} {kvs : List (A × A)} (e : dicR w.S d = some (t, kvs)) (hk : fitKey t k = true) :
    ∃ p, v = .ref p ∧ IsD w.H p ∧ ((valO kvs k = none ∧ DGet w.H p u none) ∨ ∃ x y, valO kvs k = some x ∧ DGet w.H p u (some y) ∧ RelA K w x y) := by
  obtain ⟨p, rfl, ro⟩ := dicR_rel s rd e
  refine ⟨p, rfl, ?_⟩
  rcases ro with ⟨rfl, ws, hH, hw⟩ | ⟨rfl, ws, hH, hw⟩
  · refine ⟨.inl ⟨ws, hH⟩, ?_⟩
    simp only [fitKey] at hk
    obtain ⟨kk, hkk⟩ := Option.isSome_iff_exists.mp hk
    have eu := keyOf_kV rk hkk
    subst eu
    have dg : ∀ r, r = valV ws kk → DGet w.H p (kV kk) r := fun r h => .inl ⟨ws, kk, hH, rfl, h⟩
    rcases valO_val (f := keyOf) (fun h1 h2 => eqv_key h1 h2) hkk hw with ⟨e1, e2⟩ | ⟨x, y, e1, e2, r⟩
    · exact .inl ⟨e1, dg _ e2.symm⟩
    · exact .inr ⟨x, y, e1, dg _ e2.symm, r⟩
  · refine ⟨.inr ⟨ws, hH⟩, ?_⟩
    simp only [fitKey] at hk
    obtain ⟨kk, hkk⟩ := Option.isSome_iff_exists.mp hk
    cases k <;> simp only [tkeyOf] at hkk <;> first | (cases hkk; done) | skip
    rename_i xs
    obtain ⟨b, vs, rfl, hb, rs⟩ := relA_tup rk
    have ev := keysOf_kV rs hkk
    have hbt := hb.1
    rw [ev] at hbt
    have hkk' : tkeyOf (.tup xs) = some kk := hkk
    have dg : ∀ r, r = valV ws kk → DGet w.H p (.ref b) r := fun r h => .inr ⟨ws, kk, b, hH, rfl, hbt, h⟩
    rcases valO_val (f := tkeyOf) (fun h1 h2 => eqv_tkey h1 h2) hkk' hw with ⟨e1, e2⟩ | ⟨x, y, e1, e2, r⟩
    · exact .inl ⟨e1, dg _ e2.symm⟩
    · exact .inr ⟨x, y, e1, dg _ e2.symm, r⟩
end

theorem okKey_of {K : PySem.W.Frag} {w : Wd} {k : A} {u : V} (r : RelA K w k u) : okKey k := by
  have str : ∀ {x : A} {v : V}, RelA K w x v → (match x with | .str y => okS y | _ => True) := fun {x v} r => by
    cases x <;> first | trivial | exact (relA_str r).2
  cases k <;> first | trivial | skip
  · exact (relA_str r).2
  · obtain ⟨b, vs, _, _, rs⟩ := relA_tup r
    intro x hx
    obtain ⟨i, hi⟩ := List.getElem?_of_mem hx
    obtain ⟨v, _, rv⟩ := rs.get hi
    exact str rv
theorem putO_put {κ : Type} [DecidableEq κ] {K : PySem.W.Frag} {w : Wd} {f : A → Option κ} (hf : ∀ {a b : A} {k l : κ}, f a = some k → f b = some l → a.eqv b = decide (k = l)) {a x : A} {k : κ} {y : V} (ha : f a = some k) (ok : okKey a) (rx : RelA K w x y)
    {kvs : List (A × A)} {ws : List (κ × V)} (h : Paired (fun (p : A × A) (q : κ × V) => f p.1 = some q.1 ∧ okKey p.1 ∧ RelA K w p.2 q.2) kvs ws) :
    Paired (fun (p : A × A) (q : κ × V) => f p.1 = some q.1 ∧ okKey p.1 ∧ RelA K w p.2 q.2) (putO kvs a x) (putK ws k y) := by
  have hany : (kvs.any fun p => p.1.eqv a) = ws.any fun kv => decide (kv.1 = k) := by
    induction h with
    | nil => rfl
    | cons r t ih => rw [List.any_cons, List.any_cons, ih, hf r.1 ha]
  have hmap : Paired (fun (p : A × A) (q : κ × V) => f p.1 = some q.1 ∧ okKey p.1 ∧ RelA K w p.2 q.2) (kvs.map fun p => if p.1.eqv a then (p.1, x) else p) (ws.map fun kv => if kv.1 = k then (kv.1, y) else kv) := by
    clear hany
    induction h with
    | nil => exact .nil
    | @cons p q l₁ l₂ r t ih =>
      rw [List.map_cons, List.map_cons]
      refine .cons ?_ ih
      have e := hf r.1 ha
      by_cases hk : q.1 = k
      · rw [e, decide_eq_true hk, if_pos rfl, if_pos hk]; exact ⟨r.1, r.2.1, rx⟩
      · rw [e, decide_eq_false hk, if_neg (by decide), if_neg hk]; exact r
  have happ : Paired (fun (p : A × A) (q : κ × V) => f p.1 = some q.1 ∧ okKey p.1 ∧ RelA K w p.2 q.2) (kvs ++ [(a, x)]) (ws ++ [(k, y)]) := by
    clear hany hmap
    induction h with
    | nil => exact .cons ⟨ha, ok, rx⟩ .nil
    | cons r t ih => exact .cons r ih
  unfold putO putK
  rw [hany]
  split
  · exact hmap
  · exact happ
end Lt
/-! comparisons, subscripts, built-ins, methods of built-in types: by values -/
namespace Lt
open PySem L2
section
variable {X : Cx} {ad : Ad} {G : Gt}
theorem mkS_one (c : Nat) : mkS [c] = ⟨#[c]⟩ := rfl
/-- in, not in: by one flag -/
theorem opr_in (neg : Bool) (hu : X.A.units + 66 < cLine) {pins : List (Addr × Obj)} {s : Shared} {σ : L2.St} {w : Wd} {x y : V} {v u : Value} {Q : VK} {a b : A} {k : Bool} (I : Inv X pins σ w.H s) (rx : RelV x v) (ry : RelV y u)
    (hs : RelS X.K ad.cls w) (ra : RelA X.K w a x) (rb : RelA X.K w b y) (h : inO w.S a b = some k) (q : Q (.bl (if neg then !k else k)) w.H) :
    wpAny (model X.prog X.w) X.A (compareOp (if neg then .NotIn else .In) v u) (EP X pins σ Q) X.xe s := by
  have seq : ∀ {ys : List A} {p : Addr} {vs : List V}, y = .ref p → (SqL X.K w.H p vs ∨ SqT X.K w.H p vs) → RelAs X.K w ys vs →
      (if A.pures ys && a.pure && decide (min a.depth (A.depths ys) ≤ 63) then some (ys.any fun z => z.eqv a) else none) = some k →
      wpAny (model X.prog X.w) X.A (compareOp (if neg then .NotIn else .In) v u) (EP X pins σ Q) X.xe s := by
    intro ys p vs ey hp rs h
    split at h
    · rename_i hc
      simp only [Bool.and_eq_true, decide_eq_true_eq] at hc
      obtain ⟨⟨h1, h2⟩, h3⟩ := hc
      have hk := Option.some.inj h
      obtain ⟨d, c⟩ := dat_rel a x h2 ra
      obtain ⟨ds, cs⟩ := dats_rel ys vs h1 rs
      refine in_seq neg (d := a.dat) (ds := A.dats ys) hu I rx ry d ?_ c cs (by rw [depth_dat _ h2, depths_dat _ h1]; exact h3) (by rw [mem_any_dats ys a h1 h2, hk]; exact q)
      subst ey
      exact hp.imp (fun z => .lst z ds) (fun z => .tup z ds)
    · cases h
  unfold inO at h
  split at h
  · -- a sign in a text
    rename_i c yy e
    have hb : b = .str yy := by
      rcases der_rel hs rb with e' | ⟨n, xs, p, vs, rfl, e', _⟩
      · rw [e'] at e; exact e
      · rw [e'] at e; cases e
    subst hb
    obtain ⟨e1, _⟩ := relA_str ra
    obtain ⟨e2, _⟩ := relA_str rb
    subst e1 e2
    have hk := Option.some.inj h
    cases neg with
    | false => exact op_in_sign pins s σ w.H _ _ v u Q I rx ry ⟨c, mkS yy, rfl, rfl, by rw [mkS_cps]; rw [← hk] at q; exact q⟩
    | true => exact op_notIn_sign pins s σ w.H _ _ v u Q I rx ry ⟨c, mkS yy, rfl, rfl, by rw [mkS_cps]; rw [← hk] at q; exact q⟩
  · rename_i ys e
    have hb : b = .tup ys := by
      rcases der_rel hs rb with e' | ⟨n, xs, p, vs, rfl, e', _⟩
      · rw [e'] at e; exact e
      · rw [e'] at e; cases e
    subst hb
    obtain ⟨p, vs, ey, hp, rs⟩ := relA_tup rb
    exact seq ey (.inr hp.sq) rs h
  · rename_i ys e
    have hb : b = .ktup ys := by
      rcases der_rel hs rb with e' | ⟨n, xs, p, vs, rfl, e', _⟩
      · rw [e'] at e; exact e
      · rw [e'] at e; cases e
    subst hb
    obtain ⟨p, vs, ey, hp, rs⟩ := seqO_rel hs rb rfl
    exact seq ey hp rs h
  · rename_i ys e
    obtain ⟨p, vs, ey, hp, rs⟩ := der_rd hs rb e
    exact seq ey (.inl (.inl hp)) rs h
  · rename_i n e
    split at h
    · rename_i t kvs hS
      split at h
      · rename_i hk
        have hb : b = .ref n := by
          rcases der_rel hs rb with e' | ⟨n', xs, p, vs, rfl, e', _⟩
          · rw [e'] at e; exact e
          · rw [e'] at e; cases e
        subst hb
        have hd : dicR w.S (.ref n) = some (t, kvs) := hS
        obtain ⟨p, ey, _, g⟩ := dic_get hs rb ra hd hk
        subst ey
        obtain rfl : u = Value.ref p := ry
        have hk := Option.some.inj h
        have go : ∀ o : Option V, DGet w.H p x o → o.isSome = k → wpAny (model X.prog X.w) X.A (compareOp (if neg then .NotIn else .In) v (.ref p)) (EP X pins σ Q) X.xe s := by
          intro o g ho
          cases neg with
          | false => exact d_in (by omega) I g rx fun s3 I3 => ⟨.bl o.isSome, w.H, I3, rfl, by rw [ho]; exact q⟩
          | true => exact d_notIn (by omega) I g rx fun s3 I3 => ⟨.bl (!o.isSome), w.H, I3, rfl, by rw [ho]; exact q⟩
        rcases g with ⟨e1, g⟩ | ⟨x', y', e1, g, _⟩
        · exact go _ g (by rw [← hk, e1]; rfl)
        · exact go _ g (by rw [← hk, e1]; rfl)
      · cases h
    · cases h
  · cases h
theorem opr_cmp (op : CmpOp) (hu : X.A.units + 66 < cLine) : OpR X (compareOp op) (rCmp X.K ad op) := by
  intro pins s σ H x y v u Q I rx ry h
  obtain ⟨w, a, b, k, rfl, hs, ra, rb, hk, q⟩ := h
  cases op with
  | Eq =>
    simp only [cmpO] at hk
    obtain ⟨d, e, h1, h2, h3, h4, h5, h6⟩ := eqO_rel hs ra rb hk
    exact op_eqM (by omega) pins s σ _ _ _ v u Q I rx ry ⟨d, e, h1, h2, h3, h4, h5, by rw [h6]; exact q⟩
  | NotEq =>
    simp only [cmpO] at hk
    obtain ⟨k', hk', e'⟩ := Option.map_eq_some_iff.mp hk
    obtain ⟨d, e, h1, h2, h3, h4, h5, h6⟩ := eqO_rel hs ra rb hk'
    exact op_neM (by omega) pins s σ _ _ _ v u Q I rx ry ⟨d, e, h1, h2, h3, h4, h5, by rw [h6, e']; exact q⟩
  | In =>
    simp only [cmpO] at hk
    exact opr_in (ad := ad) false hu I rx ry hs ra rb hk q
  | NotIn =>
    simp only [cmpO] at hk
    obtain ⟨k', hk', e'⟩ := Option.map_eq_some_iff.mp hk
    exact opr_in (ad := ad) true hu I rx ry hs ra rb hk' (by rw [if_pos rfl, e']; exact q)
  | Is =>
    simp only [cmpO] at hk
    cases b <;> simp only at hk <;> first | (cases hk; done) | skip
    · cases relA_non rb
      refine op_isN pins s σ _ _ _ v u Q I rx ry ⟨rfl, ?_⟩
      have e : decide (x = V.non) = k := by
        cases a <;> simp only [Option.some.injEq] at hk <;> subst hk
        · cases relA_non ra; rfl
        · cases relA_bl ra; rfl
        · cases relA_int ra; rfl
        · obtain ⟨e, _⟩ := relA_str ra; subst e; rfl
        · obtain ⟨_, _, e⟩ := relA_ref ra; subst e; rfl
        · obtain ⟨_, _, e, _⟩ := relA_tup ra; subst e; rfl
        · obtain ⟨_, _, e, _⟩ := relA_lst ra; subst e; rfl
        · simp only [RelA] at ra; obtain ⟨_, _, e, _⟩ := ra; subst e; rfl
        · simp only [RelA] at ra; obtain ⟨_, _, e, _⟩ := ra; subst e; rfl
      rw [e]; exact q
    · rename_i q0
      cases a <;> simp only at hk <;> first | (cases hk; done) | skip
      rename_i p0
      cases relA_bl ra
      cases relA_bl rb
      have hk := Option.some.inj hk
      refine op_is_bl pins s σ _ _ _ v u Q I rx ry ⟨p0, q0, rfl, rfl, ?_⟩
      have e : (decide (p0 = q0)) = k := by rw [← hk]; cases p0 <;> cases q0 <;> rfl
      rw [e]; exact q
  | IsNot =>
    simp only [cmpO] at hk
    cases b <;> simp only at hk <;> first | (cases hk; done) | skip
    · cases relA_non rb
      refine op_notN pins s σ _ _ _ v u Q I rx ry ⟨rfl, ?_⟩
      have e : (!decide (x = V.non)) = k := by
        cases a <;> simp only [Option.some.injEq] at hk <;> subst hk
        · cases relA_non ra; rfl
        · cases relA_bl ra; rfl
        · cases relA_int ra; rfl
        · obtain ⟨e, _⟩ := relA_str ra; subst e; rfl
        · obtain ⟨_, _, e⟩ := relA_ref ra; subst e; rfl
        · obtain ⟨_, _, e, _⟩ := relA_tup ra; subst e; rfl
        · obtain ⟨_, _, e, _⟩ := relA_lst ra; subst e; rfl
        · simp only [RelA] at ra; obtain ⟨_, _, e, _⟩ := ra; subst e; rfl
        · simp only [RelA] at ra; obtain ⟨_, _, e, _⟩ := ra; subst e; rfl
      rw [e]; exact q
    · rename_i q0
      cases a <;> simp only at hk <;> first | (cases hk; done) | skip
      rename_i p0
      cases relA_bl ra
      cases relA_bl rb
      have hk := Option.some.inj hk
      refine op_isnot_bl pins s σ _ _ _ v u Q I rx ry ⟨p0, q0, rfl, rfl, ?_⟩
      have e : (!decide (p0 = q0)) = k := by rw [← hk]; cases p0 <;> cases q0 <;> rfl
      rw [e]; exact q
  | Lt =>
    simp only [cmpO] at hk
    split at hk
    · cases relA_int ra; cases relA_int rb
      have e := Option.some.inj hk; subst e; exact op_lt pins s σ _ _ _ v u Q I rx ry ⟨_, _, rfl, rfl, q⟩
    · cases hk
  | LtE =>
    simp only [cmpO] at hk
    split at hk
    · cases relA_int ra; cases relA_int rb
      have e := Option.some.inj hk; subst e; exact op_le pins s σ _ _ _ v u Q I rx ry ⟨_, _, rfl, rfl, q⟩
    · cases hk
  | Gt =>
    simp only [cmpO] at hk
    split at hk
    · cases relA_int ra; cases relA_int rb
      have e := Option.some.inj hk; subst e; exact op_gt pins s σ _ _ _ v u Q I rx ry ⟨_, _, rfl, rfl, q⟩
    · cases hk
  | GtE =>
    simp only [cmpO] at hk
    split at hk
    · cases relA_int ra; cases relA_int rb
      have e := Option.some.inj hk; subst e; exact op_ge pins s σ _ _ _ v u Q I rx ry ⟨_, _, rfl, rfl, q⟩
    · cases hk

/-! ### subscripts -/
theorem atI_rel {K : PySem.W.Frag} {w : Wd} {xs : List A} {vs : List V} (r : RelAs K w xs vs) {i : Int} {a : A} (h : atI xs i = some a) : ∃ v, atI vs i = some v ∧ RelA K w a v := by
  unfold atI at h ⊢
  rw [← r.length]
  cases e : ixN xs.length i with
  | none => rw [e] at h; cases h
  | some j =>
    rw [e] at h
    exact r.get h
def rIdx (K : PySem.W.Frag) (ad : Ad) : R2 := fun x y H Q => ∃ w a b c, w.H = H ∧ RelS K ad.cls w ∧ RelA K w a x ∧ RelA K w b y ∧ idxO w.S a b = some c ∧ ∀ v, RelA K w c v → Q v H
theorem ixr_idx (hu : X.A.units + 66 < cLine) : IxR X (rIdx X.K ad) := by
  intro value slice pins s σ H x y v u Q I rx ry h hs'
  obtain ⟨w, a, b, c, rfl, hs, ra, rb, hc, q⟩ := h
  unfold idxO at hc
  split at hc
  · rename_i xx i
    obtain ⟨e, o⟩ := relA_str ra
    subst e
    cases relA_int rb
    obtain ⟨cc, e1, e2⟩ := Option.map_eq_some_iff.mp hc
    subst e2
    refine ix_str value slice pins s σ _ _ _ v u Q I rx ry ⟨mkS xx, i, cc, rfl, rfl, by rw [mkS_length]; exact o.1, by rw [mkS_cps]; exact e1, ?_⟩ hs'
    refine q _ (str_rel (x := [cc]) ⟨?_, fun c hc => ?_⟩)
    · have := o.1
      cases xx with
      | nil => simp [atI, ixN] at e1
      | cons _ _ => simp at this ⊢; omega
    · have : c = cc := by simpa using hc
      subst this
      unfold atI at e1
      cases e3 : ixN xx.length i with
      | none => rw [e3] at e1; cases e1
      | some j => rw [e3] at e1; exact o.2 _ (List.mem_of_getElem? e1)
  · split at hc
    · rename_i xs i hseq _
      cases relA_int rb
      obtain ⟨p, vs, ex, hp, rs⟩ := seqO_rel hs ra hseq
      subst ex
      obtain ⟨vv, e1, r1⟩ := atI_rel rs hc
      rcases hp with hp | hp
      · exact ix_list value slice pins s σ _ _ _ v u Q I rx ry ⟨p, vs, i, vv, rfl, rfl, hp, e1, q _ r1⟩ hs'
      · exact ix_tup value slice pins s σ _ _ _ v u Q I rx ry ⟨p, vs, i, vv, rfl, rfl, hp, e1, q _ r1⟩ hs'
    · split at hc
      · rename_i t kvs hd
        split at hc
        · rename_i hk
          obtain ⟨p, ex, _, g⟩ := dic_get hs ra rb hd hk
          subst ex
          rcases g with ⟨e1, g⟩ | ⟨x', y', e1, g, r⟩
          · rw [e1] at hc; cases hc
          · rw [e1] at hc; cases hc
            obtain rfl : v = Value.ref p := rx
            exact PyProof.Rows.tail_any (dict_typeIs I g) PySem.F.slot_dict_getitem.lookup (d_getItem (by omega) I g ry fun w' s3 I3 rw' => ⟨y', w.H, I3, rw', q _ r⟩) hs'
        · cases hc
      · cases hc
end
end Lt
/-! repr of values without dicts, where another repr is under way -/
namespace Lt
open PySem PySem.Spec PyProof.Rows L2
/-- what repr is busy with: objects that stand in the base and that no value leads to -/
def GdOk (K : PySem.W.Frag) (base : Heap) (A : Around) : Prop := ∃ g, A.guards = some g ∧ ∀ id v rest kw, Code.builtin id ⟨v :: rest, kw⟩ ∈ g → ∀ P, v = .ref P → (∃ o, base.get? P = some o) ∧ K.lookup P = none
theorem GdOk.nil {K : PySem.W.Frag} {base : Heap} {A : Around} (h : A.guards = some []) : GdOk K base A := ⟨[], h, fun _ _ _ _ z => nomatch z⟩
/-- an address that values may lead to -/
def Rch (K : PySem.W.Frag) (H : Hp) (b : Addr) : Prop := H b ≠ none ∨ K.lookup b ≠ none
def GdC (K : PySem.W.Frag) (H : Hp) (g : List Code) : Prop := ∀ b, Rch K H b → PySem.Clear g b
section
variable {X : Cx} {pins : List (Addr × Obj)} {σ : L2.St} {H : Hp} {s : Shared}
theorem GdOk.clear {A : Around} (h : GdOk X.K X.base A) (I : L2.Inv X pins σ H s) : ∃ g, A.guards = some g ∧ GdC X.K H g := by
  obtain ⟨g, hg, hp⟩ := h
  refine ⟨g, hg, fun b hb id v rest kw hm hv => ?_⟩
  obtain ⟨⟨o, ho⟩, hk⟩ := hp id v rest kw hm b hv
  rcases hb with hb | hb
  · exact hb (I.bs b o ho).2
  · exact hb hk
theorem Rch.of_l {a : Addr} {xs : List V} (h : SqL X.K H a xs) : Rch X.K H a := by
  rcases h with (h | ⟨o, h⟩) | ⟨o, its, n, h, _⟩
  · exact .inl (by rw [h]; exact Option.some_ne_none _)
  · exact .inl (by rw [h]; exact Option.some_ne_none _)
  · exact .inr (by rw [h]; exact Option.some_ne_none _)
theorem Rch.of_t {a : Addr} {xs : List V} (h : SqT X.K H a xs) : Rch X.K H a := by
  rcases h with (h | ⟨o, h⟩) | ⟨o, its, n, h, _⟩
  · exact .inl (by rw [h]; exact Option.some_ne_none _)
  · exact .inl (by rw [h]; exact Option.some_ne_none _)
  · exact .inr (by rw [h]; exact Option.some_ne_none _)
mutual
theorem Dp.reprK (I : L2.Inv X pins σ H s) : ∀ (d : PyData) (v : V) (u : Value), Dp X.K H v d → RelV v u → d.showable = true → d.shown.length ≤ sizeLine →
    ∃ bs, ReadAtMost s.heap d.depth bs ∧ (∀ b ∈ bs, Rch X.K H b) ∧ ReprK X.prog X.w bs s.heap d.depth u d.shown
  | .none, _, _, h, r, _, _ => by
    cases h; cases r
    exact ⟨[], (fun _ h => nomatch h), (fun _ h => nomatch h), by simp only [PyData.shown]; exact .of_is ReprIs.none _ _ _⟩
  | .bool b, _, _, h, r, _, _ => by
    cases h; cases r
    exact ⟨[], (fun _ h => nomatch h), (fun _ h => nomatch h), by simp only [PyData.shown]; exact .of_is (ReprIs.bool b) _ _ _⟩
  | .int i, _, _, h, r, hs, _ => by
    cases h
    obtain ⟨t, rfl⟩ := r
    exact ⟨[], (fun _ h => nomatch h), (fun _ h => nomatch h), by simp only [PyData.shown]; exact .of_is (ReprIs.int t (by simpa [PyData.showable] using hs)) _ _ _⟩
  | .str x, _, _, h, r, _, hz => by
    cases h
    obtain ⟨t, rfl⟩ := r
    exact ⟨[], (fun _ h => nomatch h), (fun _ h => nomatch h), by simp only [PyData.shown]; exact .of_is (ReprIs.str x t (by simpa only [PyData.shown] using hz)) _ _ _⟩
  | .list ds, v, u, h, r, hs, hz => by
    have hz' : (listText (PyData.shownAll ds)).length ≤ sizeLine := by simpa only [PyData.shown] using hz
    obtain ⟨as0, rd⟩ := Dp.reads I _ v u h r
    cases h with
    | @lst a xs _ hs1 ha =>
      cases r
      obtain ⟨its, rv, ⟨o, n, ho, hc, _, hd⟩, _⟩ := I.list hs1
      obtain ⟨bs, hb, hr, hk⟩ := Dp.reprAllK I ds _ its ha rv (by simpa [PyData.showable] using hs) (fun t ht => Nat.le_trans (listText_mem_le ht) hz')
      have hna : a ∉ bs := not_mem_of_deeper rd (by simp only [PyData.depth]; omega) hb
      refine ⟨a :: bs, ReadAtMost.cons rd (by simp only [PyData.depth]; omega) hb, fun b hm => ?_, ?_⟩
      · rcases List.mem_cons.mp hm with rfl | hm
        · exact Rch.of_l hs1
        · exact hr b hm
      simp only [PyData.depth, PyData.shown]
      cases its with
      | nil =>
        have e0 : PyData.shownAll ds = [] := List.length_eq_zero_iff.mp hk.length_eq
        simp only [e0, listText_nil]
        exact ReprK.listEmpty ho hc hd
      | cons x l => exact ReprK.list ho hc hd hna (by simpa using hk.length_eq) (fun i y e => hk.item i y (by simpa using e))
  | .tuple ds, v, u, h, r, hs, hz => by
    have hz' : (tupleText (PyData.shownAll ds)).length ≤ sizeLine := by simpa only [PyData.shown] using hz
    obtain ⟨as0, rd⟩ := Dp.reads I _ v u h r
    cases h with
    | @tup a xs _ hs1 ha =>
      cases r
      obtain ⟨its, rv, ⟨o, ho, hc, n, hd⟩, _⟩ := I.tuple hs1
      obtain ⟨bs, hb, hr, hk⟩ := Dp.reprAllK I ds _ its ha rv (by simpa [PyData.showable] using hs) (fun t ht => Nat.le_trans (tupleText_mem_le ht) hz')
      have hna : a ∉ bs := not_mem_of_deeper rd (by simp only [PyData.depth]; omega) hb
      refine ⟨a :: bs, ReadAtMost.cons rd (by simp only [PyData.depth]; omega) hb, fun b hm => ?_, ?_⟩
      · rcases List.mem_cons.mp hm with rfl | hm
        · exact Rch.of_t hs1
        · exact hr b hm
      simp only [PyData.depth, PyData.shown]
      exact ReprK.tuple ho hc hd hna hk
  | .dict _, _, _, h, _, _, _ => by cases h
theorem Dp.reprAllK (I : L2.Inv X pins σ H s) : ∀ (ds : List PyData) (vs : List V) (us : List Value), DpAll X.K H vs ds → Vals vs us → PyData.showableAll ds = true → (∀ t ∈ PyData.shownAll ds, t.length ≤ sizeLine) →
    ∃ bs, ReadAtMost s.heap (PyData.depthAll ds) bs ∧ (∀ b ∈ bs, Rch X.K H b) ∧ ReprAllK X.prog X.w bs s.heap (PyData.depthAll ds) us (PyData.shownAll ds)
  | [], _, _, h, r, _, _ => by
    cases h; cases r
    exact ⟨[], (fun _ h => nomatch h), (fun _ h => nomatch h), by simp only [PyData.shownAll]; exact .nil⟩
  | d :: ds, _, _, h, r, hs, hz => by
    have hs' : d.showable = true ∧ PyData.showableAll ds = true := by simpa [PyData.showableAll] using hs
    cases h with
    | cons h1 h2 =>
      cases r with
      | cons r1 r2 =>
        obtain ⟨b1, hb1, q1, k1⟩ := Dp.reprK I d _ _ h1 r1 hs'.1 (hz _ (by simp only [PyData.shownAll]; exact List.mem_cons_self ..))
        obtain ⟨b2, hb2, q2, k2⟩ := Dp.reprAllK I ds _ _ h2 r2 hs'.2 (fun t ht => hz t (by simp only [PyData.shownAll]; exact List.mem_cons_of_mem _ ht))
        refine ⟨b1 ++ b2, ?_, fun b hm => (List.mem_append.mp hm).elim (q1 b) (q2 b), ?_⟩
        · intro b hm
          simp only [PyData.depthAll]
          rcases List.mem_append.mp hm with hm | hm
          · obtain ⟨d', as', r', hd'⟩ := hb1 b hm
            exact ⟨d', as', r', Nat.le_trans hd' (Nat.le_max_left _ _)⟩
          · obtain ⟨d', as', r', hd'⟩ := hb2 b hm
            exact ⟨d', as', r', Nat.le_trans hd' (Nat.le_max_right _ _)⟩
        · simp only [PyData.depthAll, PyData.shownAll]
          exact .cons ((k1.more fun b hb => List.mem_append_left _ hb).level_le (Nat.le_max_left _ _)) (k2.more_le (fun b hb => List.mem_append_right _ hb) (Nat.le_max_right _ _))
end
/-- how a list's or a tuple's text comes about -/
structure ShowsG (X : Cx) (H : Hp) (h₀ : Heap) (a : Addr) (d : PyData) (T idr : String) : Prop where
  slotRepr : SlotG T "__repr__" idr
  typeIs : ∀ s : Shared, (∀ b o, h₀.get? b = some o → s.heap.get? b = some o) → s.TypeIs (.ref a) T
  call : ∀ (A : Around) (g : List Code) (E : Value → Shared → Prop) (s : Shared) (Q : Value → Shared → Prop), A.guards = some g → GdC X.K H g → A.units + d.depth < cLine → (∀ b o, h₀.get? b = some o → s.heap.get? b = some o) →
    (∀ h' u tk, (∀ b o, s.heap.get? b = some o → h'.get? b = some o) → Q (.str d.shown u) { s with heap := h', toks := tk }) → wpAny (model X.prog X.w) A (call (.builtin idr) [.ref a]) Q E s
/-- texts of leaves, or of a list or a tuple -/
inductive Shw (X : Cx) (H : Hp) (h₀ : Heap) : Value → PyData → Prop
  | none : Shw X H h₀ .none .none
  | bool (b : Bool) : Shw X H h₀ (.bool b) (.bool b)
  | int (i : Int) (t : Tok) : Shw X H h₀ (.int i t) (.int i)
  | str (x : Str) (t : Tok) : Shw X H h₀ (.str x t) (.str x)
  | seq {a : Addr} {d : PyData} {T idr : String} : ShowsG X H h₀ a d T idr → Shw X H h₀ (.ref a) d
theorem shw_of (I : L2.Inv X pins σ H s) {d : PyData} {v : V} {u : Value} (h : Dp X.K H v d) (r : RelV v u) (hs : d.showable = true) (hz : d.shown.length ≤ sizeLine) : Shw X H s.heap u d := by
  obtain ⟨as0, rd⟩ := Dp.reads I _ v u h r
  cases h with
  | non => cases r; exact .none
  | bl b => cases r; exact .bool b
  | int i => obtain ⟨t, rfl⟩ := r; exact .int i t
  | str x => obtain ⟨t, rfl⟩ := r; exact .str x t
  | @lst a xs ds hs1 ha =>
    cases r
    have hz' : (listText (PyData.shownAll ds)).length ≤ sizeLine := by simpa only [PyData.shown] using hz
    obtain ⟨its, rv, ⟨o, n, ho, hc, _, hd⟩, _⟩ := I.list hs1
    obtain ⟨bs, hb, hr, hk⟩ := Dp.reprAllK I ds _ its ha rv (by simpa [PyData.showable] using hs) (fun t ht => Nat.le_trans (listText_mem_le ht) hz')
    have hna : a ∉ bs := not_mem_of_deeper rd (by simp only [PyData.depth]; omega) hb
    refine .seq (T := "list") (idr := "list.__repr__") ⟨F.slot_list_repr.toG, fun s hk0 => ⟨o, hk0 _ _ ho, hc⟩, fun A g E s Q hg hgc hu hk0 hQ => ?_⟩
    simp only [PyData.depth] at hu
    simp only [PyData.shown] at hQ
    cases its with
    | nil =>
      have e0 : PyData.shownAll ds = [] := List.length_eq_zero_iff.mp hk.length_eq
      simp only [e0, listText_nil] at hQ
      exact call_list_repr_empty ⟨o, hk0 _ _ ho, hc⟩ (hk0 _ _ ho) hd (hQ s.heap _ _ fun _ _ e => e)
    | cons x l =>
      refine call_list_reprK ho hc hd hna (by simpa using hk.length_eq) (fun i y e => hk.item i y (by simpa using e)) hg (fun b hm => ?_) hu hk0 hQ hz'
      rcases List.mem_cons.mp hm with rfl | hm
      · exact hgc _ (Rch.of_l hs1)
      · exact hgc _ (hr b hm)
  | @tup a xs ds hs1 ha =>
    cases r
    have hz' : (tupleText (PyData.shownAll ds)).length ≤ sizeLine := by simpa only [PyData.shown] using hz
    obtain ⟨its, rv, ⟨o, ho, hc, n, hd⟩, _⟩ := I.tuple hs1
    obtain ⟨bs, hb, hr, hk⟩ := Dp.reprAllK I ds _ its ha rv (by simpa [PyData.showable] using hs) (fun t ht => Nat.le_trans (tupleText_mem_le ht) hz')
    have hna : a ∉ bs := not_mem_of_deeper rd (by simp only [PyData.depth]; omega) hb
    refine .seq (T := "tuple") (idr := "tuple.__repr__") ⟨F.slot_tuple_repr, fun s hk0 => ⟨o, hk0 _ _ ho, hc⟩, fun A g E s Q hg hgc hu hk0 hQ => ?_⟩
    simp only [PyData.depth] at hu
    simp only [PyData.shown] at hQ
    refine call_tuple_reprK ho hc hd hna hk hg (fun b hm => ?_) hu hk0 hQ hz'
    rcases List.mem_cons.mp hm with rfl | hm
    · exact hgc _ (Rch.of_t hs1)
    · exact hgc _ (hr b hm)
/-- repr(v), where the guards know nothing of what is shown -/
theorem repr_call (I : L2.Inv X pins σ H s) {A : Around} {Q : VK} {E : Value → Shared → Prop} {d : PyData} {v : V} {u : Value} (h : Dp X.K H v d) (r : RelV v u) (hs : d.showable = true) (hz : d.shown.length ≤ sizeLine) (hg : GdOk X.K X.base A) (hu : A.units + (d.depth + 1) < cLine) (q : Q (.str d.shown) H) :
    wpAny (model X.prog X.w) A (call (.builtin "repr") [u]) (EP X pins σ Q) E s := by
  have fin : ∀ s', L2.Inv X pins σ H s' → ∀ tk, EP X pins σ Q (.str d.shown tk) s' := fun s' I' tk => ⟨.str d.shown, H, I', ⟨_, rfl⟩, q⟩
  cases shw_of I h r hs hz with
  | none => exact PySem.P.repr_of_none (fin _ (I.tok _) _)
  | bool b => exact PySem.P.repr_of_bool (fin _ (I.tok _) _)
  | int i t => exact PySem.P.repr_of_int (by simpa [PyData.showable] using hs) (fin _ (I.tok _) _)
  | str x t => exact PySem.P.repr_of_str (fin _ (I.tok _) _) hz
  | seq S =>
    obtain ⟨g, hg1, hgc⟩ := hg.clear I
    exact call_repr_slot (by omega) (S.typeIs s fun _ _ e => e) S.slotRepr (S.call A.in1 g E s _ hg1 hgc (by show A.units + 1 + d.depth < cLine; omega) (fun _ _ e => e) fun h' u tk hk => ⟨_, _, rfl, fin _ (I.kept (t' := tk) fun b o e => hk b o e) _⟩)
/-- .. as an f-string asks for it -/
theorem reprObj_call (I : L2.Inv X pins σ H s) {A : Around} {Q : Value → Shared → Prop} {E : Value → Shared → Prop} {d : PyData} {v : V} {u : Value} (h : Dp X.K H v d) (r : RelV v u) (hs : d.showable = true) (hz : d.shown.length ≤ sizeLine) (hg : GdOk X.K X.base A) (hu : A.units + (d.depth + 1) < cLine)
    (ha : ∃ a, u = .ref a) (q : ∀ s' tk, L2.Inv X pins σ H s' → Q (.str d.shown tk) s') : wpAny (model X.prog X.w) A (pyReprObj u) Q E s := by
  obtain ⟨a, rfl⟩ := ha
  cases shw_of I h r hs hz with
  | seq S =>
    obtain ⟨g, hg1, hgc⟩ := hg.clear I
    exact wpAny_pyReprObj_slot (by omega) (S.typeIs s fun _ _ e => e) S.slotRepr (S.call A g E s _ hg1 hgc (by omega) (fun _ _ e => e) fun h' u tk hk => ⟨_, _, rfl, q _ _ (I.kept (t' := tk) fun b o e => hk b o e)⟩)
end
end Lt
/-! truth, built-in functions, isinstance, what a loop walks -/
namespace Lt
open PySem L2
theorem relA_scr {K : PySem.W.Frag} {w : Wd} {xs : List A} {v : V} (r : RelA K w (.scr xs) v) : ∃ a vs, v = .ref a ∧ (VL w a vs ∨ KL K a vs) ∧ RelAs K w xs vs := by simpa only [RelA] using r
theorem relA_ktup {K : PySem.W.Frag} {w : Wd} {xs : List A} {v : V} (r : RelA K w (.ktup xs) v) : ∃ a vs, v = .ref a ∧ KT K a vs ∧ RelAs K w xs vs := by simpa only [RelA] using r
theorem RelAs.isEmpty {K : PySem.W.Frag} {w : Wd} {xs : List A} {vs : List V} (h : RelAs K w xs vs) : xs.isEmpty = vs.isEmpty := by
  have := h.length
  cases xs <;> cases vs <;> simp_all
theorem tru_rel {K : PySem.W.Frag} {cls : Nat → Addr} {w : Wd} (s : RelS K cls w) {a : A} {v : V} (r : RelA K w a v) {k : Bool} (h : truO w.S a = some k) : TruV K v w.H k := by
  cases a with
  | non => cases relA_non r; cases h; rfl
  | bl b => cases relA_bl r; cases h; rfl
  | int i => cases relA_int r; cases h; rfl
  | str x =>
    obtain ⟨e, o⟩ := relA_str r
    subst e; cases h
    refine ⟨by rw [mkS_length]; exact o.1, ?_⟩
    rw [mkS_length]
    cases x with
    | nil => rfl
    | cons a l =>
      show true = _
      have : ((l.length + 1 : Nat) : Int) ≠ 0 := by omega
      simpa using this
  | tup xs =>
    obtain ⟨p, vs, e, hp, rs⟩ := relA_tup r
    subst e; cases h
    exact .inr (.inl ⟨vs, hp.sq, by rw [rs.isEmpty]⟩)
  | lst xs =>
    obtain ⟨p, vs, e, hp, rs⟩ := relA_lst r
    subst e; cases h
    exact .inl ⟨vs, hp.sq, by rw [rs.isEmpty]⟩
  | scr xs =>
    obtain ⟨p, vs, e, hp, rs⟩ := relA_scr r
    subst e; cases h
    exact .inl ⟨vs, hp.elim (fun z => z.sq) (fun z => .inr z), by rw [rs.isEmpty]⟩
  | ktup xs =>
    obtain ⟨p, vs, e, hp, rs⟩ := relA_ktup r
    subst e; cases h
    exact .inr (.inl ⟨vs, .inr hp, by rw [rs.isEmpty]⟩)
  | ref n =>
    obtain ⟨p, e, rfl⟩ := relA_ref r
    simp only [truO] at h
    split at h
    · rename_i xs hS
      cases h
      obtain ⟨vs, q, rs⟩ := s.obj n p _ e hS
      exact .inl ⟨vs, SqL.of q, by rw [rs.isEmpty]⟩
    · rename_i kvs hS
      cases h
      obtain ⟨ws, q, rs⟩ := s.obj n p _ e hS
      have hl := rs.length
      refine .inr (.inr ⟨ws, q, ?_⟩)
      cases kvs <;> cases ws <;> simp_all
    · cases h

/-! ### built-in functions -/
theorem lstO_rel {K : PySem.W.Frag} {cls : Nat → Addr} {w : Wd} (s : RelS K cls w) {a : A} {v : V} (r : RelA K w a v) {xs : List A} (e : lstO w.S a = some xs) : ∃ p vs, v = .ref p ∧ SqL K w.H p vs ∧ RelAs K w xs vs := by
  unfold lstO at e
  split at e
  · rename_i ys h
    cases e
    obtain ⟨p, vs, e1, h1, rs⟩ := der_rd s r h
    exact ⟨p, vs, e1, .inl h1, rs⟩
  · rename_i ys h
    cases e
    have ha : a = .scr xs := by
      rcases der_rel s r with e' | ⟨n, ys, p, vs, rfl, e', _⟩
      · rw [e'] at h; exact h
      · rw [e'] at h; cases h
    subst ha
    obtain ⟨p, vs, e, hp, rs⟩ := relA_scr r
    exact ⟨p, vs, e, hp.elim (fun z => z.sq) (fun z => .inr z), rs⟩
  · cases e
theorem bools_rel {K : PySem.W.Frag} {w : Wd} : ∀ {xs : List A} {vs : List V} {bs : List Bool}, RelAs K w xs vs → boolsO xs = some bs → vs = bs.map V.bl
  | [], vs, bs, r, e => by simp only [RelAs] at r; subst r; cases e; rfl
  | x :: xs, vs, bs, r, e => by
    simp only [RelAs] at r
    obtain ⟨v, rr, rfl, h1, h2⟩ := r
    cases x <;> simp only [boolsO] at e <;> first | (cases e; done) | skip
    obtain ⟨cs, e1, e2⟩ := Option.map_eq_some_iff.mp e
    subst e2
    cases relA_bl h1
    rw [bools_rel h2 e1]; rfl
theorem ints_rel {K : PySem.W.Frag} {w : Wd} : ∀ {xs : List A} {vs : List V} {bs : List Int}, RelAs K w xs vs → intsO xs = some bs → vs = bs.map V.int
  | [], vs, bs, r, e => by simp only [RelAs] at r; subst r; cases e; rfl
  | x :: xs, vs, bs, r, e => by
    simp only [RelAs] at r
    obtain ⟨v, rr, rfl, h1, h2⟩ := r
    cases x <;> simp only [intsO] at e <;> first | (cases e; done) | skip
    obtain ⟨cs, e1, e2⟩ := Option.map_eq_some_iff.mp e
    subst e2
    cases relA_int h1
    rw [ints_rel h2 e1]; rfl
theorem strs_rel {K : PySem.W.Frag} {w : Wd} : ∀ {xs : List A} {vs : List V} {bs : List (List Nat)}, RelAs K w xs vs → strsO xs = some bs → vs = bs.map (fun x => V.str (mkS x)) ∧ ∀ b ∈ bs, okS b
  | [], vs, bs, r, e => by simp only [RelAs] at r; subst r; cases e; exact ⟨rfl, fun b h => by cases h⟩
  | x :: xs, vs, bs, r, e => by
    simp only [RelAs] at r
    obtain ⟨v, rr, rfl, h1, h2⟩ := r
    cases x <;> simp only [strsO] at e <;> first | (cases e; done) | skip
    obtain ⟨cs, e1, e2⟩ := Option.map_eq_some_iff.mp e
    subst e2
    obtain ⟨ev, o⟩ := relA_str h1
    subst ev
    obtain ⟨e3, o3⟩ := strs_rel h2 e1
    exact ⟨by rw [e3]; rfl, fun b h => by
      rcases List.mem_cons.mp h with rfl | h
      · exact o
      · exact o3 b h⟩
theorem one_of {K : PySem.W.Frag} {w : Wd} {a : A} {vs : List V} (r : RelAs K w [a] vs) : ∃ v, vs = [v] ∧ RelA K w a v := by
  simp only [RelAs] at r
  obtain ⟨v, _, rfl, h, rfl⟩ := r
  exact ⟨v, rfl, h⟩
theorem two_of {K : PySem.W.Frag} {w : Wd} {a b : A} {vs : List V} (r : RelAs K w [a, b] vs) : ∃ v u, vs = [v, u] ∧ RelA K w a v ∧ RelA K w b u := by
  simp only [RelAs] at r
  obtain ⟨v, _, rfl, h, u, _, rfl, h2, rfl⟩ := r
  exact ⟨v, u, rfl, h, h2⟩

/-- the object that the name gives -/
def biV : Bi → Value
  | .len => .builtin "len" | .all => .builtin "all" | .any => .builtin "any" | .sum => .builtin "sum" | .max => .builtin "max" | .min => .builtin "min" | .abs => .builtin "abs"
  | .int => .type "int" | .bool => .type "bool" | .list _ => .type "list" | .tuple => .type "tuple" | .str => .type "str" | .dict _ => .type "dict" | .repr => .builtin "repr" | .sorted _ => .builtin "sorted" | .ord => .builtin "ord" | .chr => .builtin "chr"
def rBi (K : PySem.W.Frag) (ad : Ad) (G : Gt) (b : Bi) : List V → Hp → VK → Prop := fun vs H Q => ∃ E w as, w.H = H ∧ RelS K ad.cls w ∧ RelAs K w as vs ∧ okR K ad G Q E w (biO b as w.S)
section
variable {X : Cx} {ad : Ad} {G : Gt}
theorem sgn_items {x : List Nat} {acc : Array Value} (h : ItemsOf (SignAt (mkS x)) acc (mkS x).cps.size) : Vals (x.map fun c => V.str (mkS [c])) acc.toList := by
  refine L2.vals_of_at ?_ fun j v u h1 h2 => ?_
  · have e := h.1
    have e2 : acc.toList.length = acc.size := by simp
    rw [List.length_map, e2, e]
    simp [mkS]
  · obtain ⟨c, t, e1, e2⟩ := h.2 j u (by rw [← Array.getElem?_toList]; exact h2)
    have e3 : x[j]? = some c := by
      rw [← Array.getElem?_toList, mkS_cps] at e1
      exact e1
    rw [List.getElem?_map, e3] at h1
    cases h1
    exact ⟨t, e2⟩
theorem call_list_S (hc : X.calm = true) : CallR X (.type "list") (fun vs H Q => ∃ x : List Nat, vs = [.str (mkS x)] ∧ x.length ≤ sizeLine ∧ ∀ l, H l = none → Q (.ref l) (upd H l (.lst (x.map fun c => V.str (mkS [c]))))) := by
  intro pins s σ H vs us Q I r h
  obtain ⟨x, rfl, hz, q⟩ := h
  cases r with
  | cons r rr =>
    cases rr
    obtain ⟨t, rfl⟩ := r
    have hz' : (mkS x).cps.size ≤ sizeLine := by simpa [mkS] using hz
    refine call_list_str (I.ok.hd hc) (mkS x) t (fun h' tk acc c kp e hi => ?_) hz'
    exact ⟨.ref s.heap.objs.size, _, I.laid (t' := tk) kp (Nat.le_refl _) (show ObjOk X.prog X.w _ h' _ (.lst (x.map fun c => V.str (mkS [c]))) from ⟨by rw [List.length_map]; exact hz, acc.toList, c, sgn_items hi, e⟩), rfl, q _ (I.hok.fresh (Nat.le_refl _))⟩
theorem sgn_rel {K : PySem.W.Frag} {w : Wd} {x : List Nat} (o : okS x) : RelAs K w (x.map fun c => A.str [c]) (x.map fun c => V.str (mkS [c])) := by
  have one : ∀ c ∈ x, okS [c] := fun c hc => ⟨by show 1 ≤ sizeLine; decide, fun d hd => by
    have : d = c := by simpa using hd
    subst this
    exact o.2 d hc⟩
  clear o
  induction x with
  | nil => exact RelAs.nil
  | cons a l ih => exact RelAs.cons (str_rel (one a List.mem_cons_self)) (ih fun c hc => one c (List.mem_cons_of_mem _ hc))
end
end Lt
/-! sorted: ints; (int, text) pairs whose ints tell them apart -/
namespace Lt
open PySem L2
theorem insI_perm (x : Int) : ∀ l : List Int, (insI x l).Perm (x :: l)
  | [] => List.Perm.refl _
  | y :: r => by
    unfold insI
    split
    · exact List.Perm.refl _
    · exact ((insI_perm x r).cons y).trans (List.Perm.swap x y r)
theorem srtI_perm : ∀ l : List Int, (srtI l).Perm l
  | [] => List.Perm.refl _
  | x :: r => (insI_perm x (srtI r)).trans ((srtI_perm r).cons x)
theorem insI_srt (x : Int) : ∀ l : List Int, l.Pairwise (· ≤ ·) → (insI x l).Pairwise (· ≤ ·)
  | [], _ => by simp [insI]
  | y :: r, h => by
    obtain ⟨h1, h2⟩ := List.pairwise_cons.mp h
    unfold insI
    split
    · rename_i hxy
      exact List.pairwise_cons.mpr ⟨fun z hz => by
        rcases List.mem_cons.mp hz with rfl | hz
        · exact hxy
        · exact Int.le_trans hxy (h1 z hz), h⟩
    · rename_i hxy
      refine List.pairwise_cons.mpr ⟨fun z hz => ?_, insI_srt x r h2⟩
      rcases List.mem_cons.mp ((insI_perm x r).mem_iff.mp hz) with rfl | hz
      · omega
      · exact h1 z hz
theorem srtI_srt : ∀ l : List Int, (srtI l).Pairwise (· ≤ ·)
  | [] => List.Pairwise.nil
  | x :: r => insI_srt x _ (srtI_srt r)
theorem srt_uniq : ∀ {l m : List Int}, l.Pairwise (· ≤ ·) → m.Pairwise (· ≤ ·) → l.Perm m → l = m
  | [], m, _, _, h => (List.Perm.eq_nil h.symm).symm
  | x :: l, [], _, _, h => absurd h.length_eq (by simp)
  | x :: l, y :: m, hl, hm, h => by
    obtain ⟨h1, h2⟩ := List.pairwise_cons.mp hl
    obtain ⟨h3, h4⟩ := List.pairwise_cons.mp hm
    have e : x = y := by
      have a : y ≤ x := by
        rcases List.mem_cons.mp (h.mem_iff.mp (List.mem_cons_self (a := x) (l := l))) with e | hx
        · omega
        · exact h3 x hx
      have b : x ≤ y := by
        rcases List.mem_cons.mp (h.mem_iff.mpr (List.mem_cons_self (a := y) (l := m))) with e | hy
        · omega
        · exact h1 y hy
      omega
    subst e
    rw [srt_uniq h2 h4 h.cons_inv]
theorem srtI_eq {l m : List Int} (h1 : l.Perm m) (h2 : l.Pairwise (· ≤ ·)) : l = srtI m := srt_uniq h2 (srtI_srt m) (h1.trans (srtI_perm m).symm)

/-! ### pairs of an int and a text -/
section
open PyProof.Rows Srt
variable {prog : Program} {w : World} {A : Around} {E : Value → Shared → Prop} {s : Shared}
def IsPS (h : Heap) (v : Value) (x : Int) (y : Str) : Prop := ∃ a o t u n, v = .ref a ∧ h.get? a = some o ∧ o.cls = .type "tuple" ∧ o.data = .seq #[.int x t, .str y u] n
theorem IsPS.keeps {h h' : Heap} {v : Value} {x : Int} {y : Str} (p : IsPS h v x y) (k : ∀ b o, h.get? b = some o → o.cls = .type "tuple" → h'.get? b = some o) : IsPS h' v x y := by
  obtain ⟨a, o, t, u, n, e, ho, hc, hd⟩ := p
  exact ⟨a, o, t, u, n, e, k _ _ ho hc, hc, hd⟩
theorem ps_cmp {vs : List Value} {k : Value → Int} {g : Value → Str} (hp : ∀ v ∈ vs, IsPS s.heap v (k v) (g v)) (inj : ∀ v ∈ vs, ∀ u ∈ vs, k v = k u → g v = g u) :
    SrtO.Cmp prog w A s (tuples' true) (fun p => p.1 ∈ vs) (SrtO.lt2 fun v u => decide (k v < k u)) := by
  intro p q hm hm'
  have h1 := hp _ hm
  have h2 := hp _ hm'
  have hi := inj _ hm _ hm'
  show wpAny (model prog w) A (keyLt' (tuples' true) p.1 q.1) (fun r s' => s' = s ∧ r = decide (k p.1 < k q.1)) (fun _ _ => False) s
  generalize k p.1 = x at h1 hi ⊢
  generalize k q.1 = x' at h2 hi ⊢
  generalize g p.1 = y at h1 hi
  generalize g q.1 = y' at h2 hi
  obtain ⟨a, o, t, u, n, ep, ho, hc, hd⟩ := h1
  obtain ⟨a', o', t', u', n', eq', ho', hc', hd'⟩ := h2
  rw [ep, eq']
  refine PySem.W.kat_lt ho hd ho' hd' ?_
  show PySem.W.KatLex prog w A true (decide (2 < 2)) _ [(.int x t, .int x' t'), (.str y u, .str y' u')] 0 s
  refine PySem.W.kat_cons (SeqAt.EqAt.int_int x t x' t' prog w _ _ ?_)
  refine PySem.W.kat_go (fun e1 => ?_) (fun e1 => ?_)
  · have ex : x = x' := by simpa using e1
    have ey := hi ex
    refine PySem.W.kat_yes (PySem.W.kat_cons (SeqAt.EqAt.str_str y u y' u' prog w _ _ ?_))
    refine PySem.W.kat_go (fun e2 => ?_) (fun e2 => ?_)
    · have e3 : decide (x < x') = false := decide_eq_false (by omega)
      exact PySem.W.kat_yes (PySem.W.kat_nil ⟨rfl, e3.symm⟩)
    · rw [ey] at e2
      simp at e2
  · exact PySem.W.kat_no (oneLt_int ⟨rfl, rfl⟩)
theorem ps_firsts {h : Heap} {k : Value → Int} {g : Value → Str} : ∀ {vs : List Value}, (∀ v ∈ vs, IsPS h v (k v) (g v)) → ∃ fs : List Value, PySem.W.KatTups h vs fs ∧ fs.length = vs.length ∧ ∀ f ∈ fs, ∃ x t, f = Value.int x t
  | [], _ => ⟨[], PySem.W.KatTups.nil, rfl, fun _ hm => by simp at hm⟩
  | v :: vs, hp => by
    obtain ⟨fs, h1, h2, h3⟩ := ps_firsts (vs := vs) fun v' hm => hp v' (List.mem_cons_of_mem _ hm)
    obtain ⟨a, o, t, u, n, e, ho, hc, hd⟩ := hp v List.mem_cons_self
    rw [e]
    refine ⟨.int (k v) t :: fs, PySem.W.KatTups.cons ho hc hd rfl h1, by simp [h2], fun f hm => ?_⟩
    rcases List.mem_cons.mp hm with rfl | hm
    · exact ⟨_, t, rfl⟩
    · exact h3 f hm
theorem ps_sortable {a : Addr} {vs : List Value} {k : Value → Int} {g : Value → Str} (h0 : 0 < vs.length) (hp : ∀ v ∈ vs, IsPS s.heap v (k v) (g v)) (inj : ∀ v ∈ vs, ∀ u ∈ vs, k v = k u → g v = g u) (ha : ∀ o, s.heap.get? a = some o → o.cls ≠ .type "tuple") :
    SrtO.SortableO prog w A s a vs fun v u => decide (k v < k u) := by
  intro h' keep
  have hp' : ∀ v ∈ vs, IsPS h' v (k v) (g v) := fun v hm => (hp v hm).keeps fun b o e c => keep b o (fun z => by subst z; exact ha o e c) e
  obtain ⟨fs, h1, h2, h3⟩ := ps_firsts hp'
  refine ⟨tuples' true, fun Q E hq => ?_, ps_cmp hp' inj⟩
  refine PySem.W.kat_kind (T := .type "int") h1 (by omega) (fun f hm => ?_) (by rfl) ?_
  · obtain ⟨x, t, rfl⟩ := h3 f hm
    exact PySem.W.Looks.now
  · have e : (Value.type "int" != Value.type "tuple") = true := by first | decide +kernel | rfl | decide
    rw [e]
    exact hq
theorem swo_int {α : Type} (k : α → Int) : SrtO.Swo fun v u => decide (k v < k u) := by
  refine ⟨fun x y h => ?_, fun x y z h1 h2 => ?_⟩
  · have := of_decide_eq_true h; exact decide_eq_false (by omega)
  · have := of_decide_eq_false h1
    have := of_decide_eq_false h2
    exact decide_eq_false (by omega)
end
/-- sorted(xs), xs a list of (int, text), the ints tell the items apart: a new list of the same items -/
def rSortPS (K : PySem.W.Frag) : List V → Hp → VK → Prop := fun vs H Q => ∃ (a : Addr) (xs : List V) (k : V → Int) (g : V → Str), vs = [V.ref a] ∧ SqL K H a xs ∧ (∀ x ∈ xs, ∃ t, x = V.ref t ∧ H t = some (.tup [.int (k x), .str (g x)])) ∧ (∀ v ∈ xs, ∀ u ∈ xs, k v = k u → g v = g u) ∧
  ∀ ys p, ys.Perm xs → ys.Pairwise (fun x y => k x ≤ k y) → H p = none → Q (.ref p) (upd H p (.lst ys))
theorem cr_sortPS {X : Cx} : CallR X (.builtin "sorted") (rSortPS X.K) := by
  intro pins s σ H vs us Q I r h
  obtain ⟨a, xs, k, g, rfl, hs, hx, inj, q⟩ := h
  obtain ⟨its, rv, hl, hz⟩ := I.list hs
  obtain ⟨u, rfl, ru⟩ := vals1 r
  obtain rfl : u = Value.ref a := ru
  obtain ⟨e1, e2⟩ := refs_back rv fun x m => by
    obtain ⟨t, e, _⟩ := hx x m
    exact ⟨t, e⟩
  have hps : ∀ v ∈ its, IsPS s.heap v (k (backV v)) (g (backV v)) := by
    intro v hv
    obtain ⟨t, rfl⟩ := e2 v hv
    have hm : V.ref t ∈ xs := by rw [e1]; exact List.mem_map.mpr ⟨_, hv, rfl⟩
    obtain ⟨t', e, ht⟩ := hx _ hm
    cases e
    obtain ⟨_, its2, r2, o, ho, hc, n, hd⟩ := I.hok _ _ ht
    obtain ⟨u1, u2, rfl, ri, rj⟩ := vals2 r2
    obtain ⟨t1, rfl⟩ := ri
    obtain ⟨t2, rfl⟩ := rj
    exact ⟨t, o, t1, t2, n, rfl, ho, hc, hd⟩
  have hin : ∀ v ∈ its, backV v ∈ xs := fun v hv => by rw [e1]; exact List.mem_map.mpr ⟨v, hv, rfl⟩
  refine SrtO.sorted_ord (swo_int fun v => k (backV v)) hl.isList (by rw [← rv.length]; exact hz) (fun h2 h₁ a' ha' kk => ?_) fun out h1 h2 => ?_
  · refine ps_sortable (s := { s with heap := h₁ }) (by omega) (fun v hm => (hps v hm).keeps fun b o e _ => (kk b o e).2) (fun v hv u hu => inj _ (hin v hv) _ (hin u hu)) fun o e => ?_
    have e' : some o = some (PyProof.Rows.seqObj "list" its.toArray 0) := e.symm.trans ha'
    cases e'
    intro c
    exact absurd (Value.type.inj c) (by decide)
  · have h3 : ∀ u ∈ out, ∃ a, u = Value.ref a := fun u hu => e2 u (h2.perm.mem_iff.mp hu)
    have hb : (out.map backV).Perm xs := by rw [e1]; exact h2.perm.map backV
    have hsrt : (out.map backV).Pairwise (fun x y => k x ≤ k y) := by
      rw [List.pairwise_map]
      exact h1.imp fun {x y} h => by have := of_decide_eq_false h; omega
    obtain ⟨n, hn⟩ := PyProof.Rows.sortedAll_at s.heap its out.toArray
    refine ⟨.ref (s.heap.objs.size + 1), upd H (s.heap.objs.size + 1) (.lst (out.map backV)), I.laid (t' := s.toks) (fun b o e => PyProof.Rows.sortedAll_old e) (Nat.le_succ _) ⟨?_, out, n, vals_back h3, hn⟩, rfl, q _ _ hb hsrt (I.hok.fresh (Nat.le_succ _))⟩
    rw [hb.length_eq]; exact hz

/-! ### by the values -/
def insV (k : V → Int) (x : V) : List V → List V
  | [] => [x]
  | y :: r => if k x ≤ k y then x :: y :: r else y :: insV k x r
def srtV (k : V → Int) : List V → List V
  | [] => []
  | x :: r => insV k x (srtV k r)
theorem insV_perm (k : V → Int) (x : V) : ∀ l : List V, (insV k x l).Perm (x :: l)
  | [] => List.Perm.refl _
  | y :: r => by
    unfold insV
    split
    · exact List.Perm.refl _
    · exact ((insV_perm k x r).cons y).trans (List.Perm.swap x y r)
theorem srtV_perm (k : V → Int) : ∀ l : List V, (srtV k l).Perm l
  | [] => List.Perm.refl _
  | x :: r => (insV_perm k x (srtV k r)).trans ((srtV_perm k r).cons x)
theorem insV_srt (k : V → Int) (x : V) : ∀ l : List V, l.Pairwise (fun x y => k x ≤ k y) → (insV k x l).Pairwise (fun x y => k x ≤ k y)
  | [], _ => by simp [insV]
  | y :: r, h => by
    obtain ⟨h1, h2⟩ := List.pairwise_cons.mp h
    unfold insV
    split
    · rename_i hxy
      exact List.pairwise_cons.mpr ⟨fun z hz => by
        rcases List.mem_cons.mp hz with rfl | hz
        · exact hxy
        · exact Int.le_trans hxy (h1 z hz), h⟩
    · rename_i hxy
      refine List.pairwise_cons.mpr ⟨fun z hz => ?_, insV_srt k x r h2⟩
      rcases List.mem_cons.mp ((insV_perm k x r).mem_iff.mp hz) with rfl | hz
      · omega
      · exact h1 z hz
theorem srtV_srt (k : V → Int) : ∀ l : List V, (srtV k l).Pairwise (fun x y => k x ≤ k y)
  | [] => List.Pairwise.nil
  | x :: r => insV_srt k x _ (srtV_srt k r)
theorem uniqV {k : V → Int} : ∀ {l m : List V}, (∀ x ∈ l, ∀ y ∈ l, k x = k y → x = y) → l.Pairwise (fun x y => k x ≤ k y) → m.Pairwise (fun x y => k x ≤ k y) → l.Perm m → l = m
  | [], m, _, _, _, h => (List.Perm.eq_nil h.symm).symm
  | x :: l, [], _, _, _, h => absurd h.length_eq (by simp)
  | x :: l, y :: m, hi, hl, hm, h => by
    obtain ⟨h1, h2⟩ := List.pairwise_cons.mp hl
    obtain ⟨h3, h4⟩ := List.pairwise_cons.mp hm
    have hy' : y ∈ x :: l := h.mem_iff.mpr List.mem_cons_self
    have e : x = y := by
      refine hi x List.mem_cons_self y hy' ?_
      have a : k y ≤ k x := by
        rcases List.mem_cons.mp (h.mem_iff.mp (List.mem_cons_self (a := x) (l := l))) with e | hx
        · rw [e]; exact Int.le_refl _
        · exact h3 x hx
      have b : k x ≤ k y := by
        rcases List.mem_cons.mp hy' with e | hy
        · rw [e]; exact Int.le_refl _
        · exact h1 y hy
      omega
    subst e
    rw [uniqV (fun a ha b hb => hi a (List.mem_cons_of_mem _ ha) b (List.mem_cons_of_mem _ hb)) h2 h4 h.cons_inv]
theorem ins_rel {K : PySem.W.Frag} {w : Wd} {k : V → Int} {x : A} {v : V} (r : RelA K w x v) (hx : keyI x = k v) : ∀ {xs : List A} {vs : List V}, Paired (fun x v => RelA K w x v ∧ keyI x = k v) xs vs → Paired (fun x v => RelA K w x v ∧ keyI x = k v) (insP x xs) (insV k v vs)
  | _, _, .nil => .cons ⟨r, hx⟩ .nil
  | y :: xs, u :: vs, .cons h t => by
    have ih := ins_rel r hx t
    unfold insP insV
    rw [hx, h.2]
    split
    · exact .cons ⟨r, hx⟩ (.cons h t)
    · exact .cons h ih
theorem srt_rel {K : PySem.W.Frag} {w : Wd} {k : V → Int} : ∀ {xs : List A} {vs : List V}, Paired (fun x v => RelA K w x v ∧ keyI x = k v) xs vs → Paired (fun x v => RelA K w x v ∧ keyI x = k v) (srtP xs) (srtV k vs)
  | _, _, .nil => .nil
  | x :: xs, v :: vs, .cons h t => ins_rel h.1 h.2 (srt_rel t)
/-- the int and the text that stand at an address -/
def psK (H : Hp) : V → Int
  | .ref t => match H t with
    | some (.tup [.int i, .str _]) => i
    | _ => 0
  | _ => 0
def psG (H : Hp) : V → Str
  | .ref t => match H t with
    | some (.tup [.int _, .str s]) => s
    | _ => default
  | _ => default
theorem ps_rel {K : PySem.W.Frag} {w : Wd} : ∀ {xs : List A} {vs : List V}, psO xs = true → RelAs K w xs vs → Paired (fun x v => (RelA K w x v ∧ keyI x = psK w.H v) ∧ ∃ t, v = V.ref t ∧ w.H t = some (.tup [.int (psK w.H v), .str (psG w.H v)])) xs vs
  | [], vs, _, r => by simp only [RelAs] at r; subst r; exact .nil
  | x :: xs, vs, h, r => by
    simp only [RelAs] at r
    obtain ⟨v, rr, rfl, r1, r2⟩ := r
    simp only [psO, List.all_cons, Bool.and_eq_true] at h
    refine .cons ?_ (ps_rel (by simp only [psO]; exact h.2) r2)
    have hx := h.1
    unfold isPS at hx
    split at hx
    · rename_i i s
      obtain ⟨a, us, rfl, hv, rs⟩ := relA_tup r1
      obtain ⟨u1, u2, rfl, q1, q2⟩ := two_of rs
      cases relA_int q1
      obtain ⟨rfl, _⟩ := relA_str q2
      have e : w.H a = some (.tup [.int i, .str (mkS s)]) := hv.1
      refine ⟨⟨r1, ?_⟩, a, rfl, ?_⟩
      · simp only [psK, e]; rfl
      · simp only [psK, psG, e]
    · cases hx
theorem paired_nodup {K : PySem.W.Frag} {w : Wd} {k : V → Int} : ∀ {xs : List A} {vs : List V}, Paired (fun x v => RelA K w x v ∧ keyI x = k v) xs vs → (xs.map keyI).Nodup → ∀ x ∈ vs, ∀ y ∈ vs, k x = k y → x = y
  | _, _, .nil, _, x, hx, _, _, _ => by cases hx
  | a :: xs, v :: vs, .cons h t, hn, x, hx, y, hy, e => by
    rw [List.map_cons, List.nodup_cons] at hn
    have mem : ∀ {xs : List A} {vs : List V}, Paired (fun x v => RelA K w x v ∧ keyI x = k v) xs vs → ∀ z ∈ vs, k z ∈ xs.map keyI := by
      intro xs vs h
      induction h with
      | nil => intro z hz; cases hz
      | cons h t ih =>
        intro z hz
        rcases List.mem_cons.mp hz with rfl | hz
        · rw [List.map_cons, h.2]; exact List.mem_cons_self
        · rw [List.map_cons]; exact List.mem_cons_of_mem _ (ih z hz)
    rcases List.mem_cons.mp hx with ex | hx' <;> rcases List.mem_cons.mp hy with ey | hy'
    · rw [ex, ey]
    · exact absurd (by rw [h.2, ← ex, e]; exact mem t y hy') hn.1
    · exact absurd (by rw [h.2, ← ey, ← e]; exact mem t x hx') hn.1
    · exact paired_nodup t hn.2 x hx' y hy' e
end Lt
/-! list.extend of a tuple -/
namespace Lt
open PySem PySem.Spec PyProof.Rows L2
section
open PySem.AutoSeq1
theorem meets_extT (l : Addr) (items : Array Value) (n : Nat) (b : Addr) (dt : Option Addr) (sl : Array (Option Value)) (items2 : Array Value) (n2 : Nat) (hs0 : ¬(!items.isEmpty && Builtin.List.listTooLong (items.size + items2.size)) = true) (hs1 : items.size ≤ sizeLine) (hs2 : items.size + items2.size ≤ sizeLine + 1) :
    Meets (Builtin.«list.extend» ⟨[.ref l, .ref b], []⟩) (fun _ R s => s.heap.get? l = some { cls := .type "list", dict := none, data := .seq items n, slots := #[] } ∧ s.heap.get? b = some { cls := .type "tuple", dict := dt, data := .seq items2 n2, slots := sl } ∧ R (.ok (.ret Value.none)) { s with heap := s.heap.update l (Obj.mapSeq fun x => x ++ items2), toks := s.toks }) :=
  .of_wp fun prog w A R s h => by
    obtain ⟨hp, g, d, tk, os⟩ := s
    obtain ⟨hl, hb, h⟩ := h
    have f1 := idx_int
    have f2 := AutoSeq1.sub_tuple_tuple
    have f3 := AutoSeq1.sub_list_list
    have f4 := AutoSeq1.sub_tuple_list
    have f5 := AutoSeq1.sub_list_tuple
    have hz' : (items ++ items2).size ≤ sizeLine + 1 := by rw [Array.size_append]; exact hs2
    wp_walk using (wpAny_updateSeq hl rfl (hz := hs1) (_hz' := hz')), wpAny_loadPart' hl, wpAny_loadPart' hb
    exact ⟨_, rfl, h⟩
end
end Lt
/-! built-in functions: what each gives -/
namespace Lt
open PySem L2
section
variable {X : Cx} {ad : Ad} {G : Gt}
theorem ints_rels {K : PySem.W.Frag} {w : Wd} : ∀ ns : List Int, RelAs K w (ns.map A.int) (ns.map V.int)
  | [] => RelAs.nil
  | n :: ns => RelAs.cons int_rel (ints_rels ns)
theorem rel_size {K : PySem.W.Frag} {cls : Nat → Addr} {w : Wd} {xs : List A} {vs : List V} (r : RelAs K w xs vs) : xs.length = vs.length := r.length
theorem kV_rel {K : PySem.W.Frag} {w : Wd} {a : A} {k : Key} (e : keyOf a = some k) (o : okKey a) : RelA K w a (kV k) := by
  cases a <;> simp only [keyOf] at e <;> first | (cases e; done) | skip
  · cases e; exact int_rel
  · cases e; exact str_rel o
theorem fold_rel {K : PySem.W.Frag} {w : Wd} {more acc : List (A × A)} {mw ws : List (Key × V)} (hm : Paired (fun (p : A × A) (q : Key × V) => keyOf p.1 = some q.1 ∧ okKey p.1 ∧ RelA K w p.2 q.2) more mw)
    (h : Paired (fun (p : A × A) (q : Key × V) => keyOf p.1 = some q.1 ∧ okKey p.1 ∧ RelA K w p.2 q.2) acc ws) : Paired (fun (p : A × A) (q : Key × V) => keyOf p.1 = some q.1 ∧ okKey p.1 ∧ RelA K w p.2 q.2) (more.foldl (fun acc p => putO acc p.1 p.2) acc) (mergeK ws mw) := by
  induction hm generalizing acc ws with
  | nil => exact h
  | cons r t ih => exact ih (putO_put (f := keyOf) (fun h1 h2 => eqv_key h1 h2) r.1 r.2.1 r.2.2 h)
theorem pairs_rel {K : PySem.W.Frag} {w : Wd} : ∀ {xs : List A} {vs : List V} {kvs : List (A × A)}, RelAs K w xs vs → pairsO xs = some kvs →
    ∃ (as : List Addr) (kws : List (Key × V)), vs = as.map V.ref ∧ Paired (fun p (kv : Key × V) => SqT K w.H p [kV kv.1, kv.2]) as kws ∧ Paired (fun (p : A × A) (q : Key × V) => keyOf p.1 = some q.1 ∧ okKey p.1 ∧ RelA K w p.2 q.2) kvs kws
  | [], vs, kvs, r, e => by
    simp only [RelAs] at r
    subst r
    cases e
    exact ⟨[], [], rfl, .nil, .nil⟩
  | x :: xs, vs, kvs, r, e => by
    simp only [RelAs] at r
    obtain ⟨v, vs', rfl, r1, r2⟩ := r
    obtain ⟨zs, rfl⟩ : ∃ zs, x = .tup zs := by
      cases x with
      | tup zs => exact ⟨zs, rfl⟩
      | _ => simp [pairsO] at e
    rcases zs with _ | ⟨k, _ | ⟨y, _ | ⟨z, zs⟩⟩⟩ <;> simp only [pairsO] at e <;> first | (cases e; done) | skip
    split at e
    case isFalse => cases e
    rename_i hk
    obtain ⟨kvs', e2, rfl⟩ := Option.map_eq_some_iff.mp e
    obtain ⟨kk, ek⟩ := Option.isSome_iff_exists.mp hk
    obtain ⟨p, us, rfl, hp, rs⟩ := relA_tup r1
    simp only [RelAs] at rs
    obtain ⟨u1, _, rfl, q1, u2, _, rfl, q2, rfl⟩ := rs
    obtain ⟨as, kws, rfl, h1, h2⟩ := pairs_rel r2 e2
    have := keyOf_kV q1 ek
    subst this
    exact ⟨p :: as, (kk, u2) :: kws, rfl, .cons hp.sq h1, .cons ⟨ek, okKey_of q1, q2⟩ h2⟩
/-- what a built-in function gives -/
theorem callR_bi (hc : X.calm = true) (hG : GdOk X.K X.base X.A) (hu : X.A.units + 66 < cLine) : ∀ b : Bi, CallR X (biV b) (rBi X.K ad G b) := by
  intro b pins s σ H vs us Q I r h
  obtain ⟨E, w, as, rfl, hs, ra, ok⟩ := h
  unfold biO at ok
  split at ok
  · -- len
    rename_i a
    obtain ⟨v, rfl, r1⟩ := one_of ra
    obtain ⟨y, e, ok⟩ := ok.of
    obtain ⟨k, e1, rfl⟩ := Option.map_eq_some_iff.mp e
    refine call_len pins s σ _ _ _ Q I r ⟨v, k, rfl, ?_, ok.ret rfl hs int_rel⟩
    unfold lenO at e1
    split at e1
    · obtain ⟨e2, o⟩ := relA_str r1
      subst e2; cases e1
      exact ⟨by rw [mkS_length]; exact o.1, by rw [mkS_length]⟩
    · obtain ⟨xs, e2, rfl⟩ := Option.map_eq_some_iff.mp e1
      obtain ⟨p, vs, rfl, hp, rs⟩ := seqO_rel hs r1 e2
      rcases hp with hp | hp
      · exact .inl ⟨vs, hp, rs.length⟩
      · exact .inr ⟨vs, hp, rs.length⟩
  · -- all
    rename_i a
    obtain ⟨v, rfl, r1⟩ := one_of ra
    obtain ⟨y, e, ok⟩ := ok.of
    obtain ⟨n, e1, rfl⟩ := Option.map_eq_some_iff.mp e
    obtain ⟨xs, e2, e3⟩ := Option.bind_eq_some_iff.mp e1
    obtain ⟨p, vs, rfl, hp, rs⟩ := lstO_rel hs r1 e2
    exact cr_all hc pins s σ _ _ _ Q I r ⟨p, n, rfl, by rw [← bools_rel rs e3]; exact hp, ok.ret rfl hs bl_rel⟩
  · -- any
    rename_i a
    obtain ⟨v, rfl, r1⟩ := one_of ra
    obtain ⟨y, e, ok⟩ := ok.of
    obtain ⟨n, e1, rfl⟩ := Option.map_eq_some_iff.mp e
    obtain ⟨xs, e2, e3⟩ := Option.bind_eq_some_iff.mp e1
    obtain ⟨p, vs, rfl, hp, rs⟩ := lstO_rel hs r1 e2
    exact cr_any hc pins s σ _ _ _ Q I r ⟨p, n, rfl, by rw [← bools_rel rs e3]; exact hp, ok.ret rfl hs bl_rel⟩
  · -- sum
    rename_i a
    obtain ⟨v, rfl, r1⟩ := one_of ra
    obtain ⟨y, e, ok⟩ := ok.of
    obtain ⟨n, e1, rfl⟩ := Option.map_eq_some_iff.mp e
    obtain ⟨xs, e2, e3⟩ := Option.bind_eq_some_iff.mp e1
    obtain ⟨p, vs, rfl, hp, rs⟩ := lstO_rel hs r1 e2
    exact cr_sum hc pins s σ _ _ _ Q I r ⟨p, n, rfl, by rw [← ints_rel rs e3]; exact hp, ok.ret rfl hs int_rel⟩
  · -- max
    obtain ⟨v, u, rfl, r1, r2⟩ := two_of ra
    cases relA_int r1; cases relA_int r2
    exact call_max2 hc pins s σ _ _ _ Q I r ⟨_, _, rfl, ok.ret rfl hs int_rel⟩
  · -- min
    obtain ⟨v, u, rfl, r1, r2⟩ := two_of ra
    cases relA_int r1; cases relA_int r2
    exact call_min2 hc pins s σ _ _ _ Q I r ⟨_, _, rfl, ok.ret rfl hs int_rel⟩
  · -- abs
    obtain ⟨v, rfl, r1⟩ := one_of ra
    cases relA_int r1
    exact call_abs pins s σ _ _ _ Q I r ⟨_, rfl, ok.ret rfl hs int_rel⟩
  · -- int
    obtain ⟨v, rfl, r1⟩ := one_of ra
    cases relA_int r1
    exact call_int1 pins s σ _ _ _ Q I r (.inl ⟨_, rfl, ok.ret rfl hs int_rel⟩)
  · obtain ⟨v, rfl, r1⟩ := one_of ra
    cases relA_bl r1
    exact call_int1 pins s σ _ _ _ Q I r (.inr ⟨_, rfl, ok.ret rfl hs int_rel⟩)
  · -- bool
    obtain ⟨v, rfl, r1⟩ := one_of ra
    cases relA_int r1
    exact call_bool1 pins s σ _ _ _ Q I r (.inl ⟨_, rfl, ok.ret rfl hs bl_rel⟩)
  · obtain ⟨v, rfl, r1⟩ := one_of ra
    cases relA_bl r1
    exact call_bool1 pins s σ _ _ _ Q I r (.inr ⟨_, rfl, ok.ret rfl hs bl_rel⟩)
  · -- list of signs
    rename_i fl x
    obtain ⟨v, rfl, r1⟩ := one_of ra
    obtain ⟨e2, o⟩ := relA_str r1
    subst e2
    exact call_list_S hc pins s σ _ _ _ Q I r ⟨x, rfl, o.1, ok.mkL hs (sgn_rel o)⟩
  · -- list
    rename_i fl a _
    obtain ⟨v, rfl, r1⟩ := one_of ra
    split at ok
    · rename_i xs e
      obtain ⟨p, vs, rfl, hp, rs⟩ := seqO_rel hs r1 e
      exact call_list_of pins s σ _ _ _ Q I r ⟨p, vs, rfl, hp, ok.mkL hs rs⟩
    · split at ok
      · rename_i kvs e
        unfold dicO at e
        split at e
        · obtain ⟨p, e1, rfl⟩ := relA_ref r1
          split at e
          · rename_i t kvs' hS
            cases e
            obtain ⟨ws, q, rs⟩ := hs.obj _ p _ e1 hS
            refine call_list_dK hc pins s σ _ _ _ Q I r ⟨p, ws, rfl, q, ok.mkL hs ?_⟩
            clear ok hS q r ra
            induction rs with
            | nil => exact RelAs.nil
            | cons h t ih => exact RelAs.cons (kV_rel h.1 h.2.1) ih
          · cases e
        · cases e
      · exact ok.elim
  · -- sorted
    rename_i fl a
    obtain ⟨v, rfl, r1⟩ := one_of ra
    split at ok
    · rename_i xs e
      obtain ⟨p, vs, rfl, hp, rs⟩ := lstO_rel hs r1 e
      split at ok
      · rename_i ns e2
        have ev := ints_rel rs e2
        refine cr_sortedI pins s σ _ _ _ Q I r ⟨p, ns, rfl, by rw [← ev]; exact hp, fun ns' p' h1 h2 hf => ?_⟩
        rw [srtI_eq h1 h2]
        exact ok.mkL hs (ints_rels _) p' hf
      · rename_i hno
        clear hno
        split at ok
        · rename_i hc
          have hps := ps_rel hc.1 rs
          have hk : Paired (fun x v => RelA X.K w x v ∧ keyI x = psK w.H v) xs vs := Paired.mapP hps fun _ _ z => z.1
          have inj := paired_nodup hk hc.2
          have hat : ∀ x ∈ vs, ∃ t, x = V.ref t ∧ w.H t = some (.tup [.int (psK w.H x), .str (psG w.H x)]) := by
            clear ok hk inj e hp hc
            induction hps with
            | nil => intro x hx; cases hx
            | cons h t ih =>
              intro x hx
              rcases List.mem_cons.mp hx with rfl | hx
              · exact h.2
              · exact ih (by simp only [RelAs] at rs; obtain ⟨_, _, e, _, rs⟩ := rs; cases e; exact rs) x hx
          refine cr_sortPS pins s σ _ _ _ Q I r ⟨p, vs, psK w.H, psG w.H, rfl, hp, hat, fun x hx y hy e => by rw [inj x hx y hy e], fun ys p' h1 h2 hf => ?_⟩
          have e3 : ys = srtV (psK w.H) vs := uniqV (fun x hx y hy e => inj x (h1.mem_iff.mp hx) y (h1.mem_iff.mp hy) e) h2 (srtV_srt _ _) (h1.trans (srtV_perm _ _).symm)
          rw [e3]
          exact ok.mkL hs (RelAs.paired.mpr (Paired.mapP (srt_rel hk) fun _ _ z => z.1)) p' hf
        · exact ok.elim
    · split at ok
      · rename_i kvs e
        split at ok
        · rename_i ns e2
          split at ok
          · rename_i h64
            unfold dicO at e
            split at e
            · obtain ⟨p, e1, rfl⟩ := relA_ref r1
              split at e
              · rename_i t kvs' hS
                cases e
                obtain ⟨ws, q, rs⟩ := hs.obj _ p _ e1 hS
                have hkeys : ws.map (·.1) = ns.map Sum.inl := by
                  clear ok hS q r ra h64
                  induction rs generalizing ns with
                  | nil => cases e2; rfl
                  | @cons pp qq l1 l2 h t ih =>
                    rw [List.map_cons] at e2
                    obtain ⟨h1, _, _⟩ := h
                    cases hp1 : pp.1 <;> rw [hp1] at e2 h1 <;> simp only [intsO] at e2 <;> first | (cases e2; done) | skip
                    obtain ⟨ms, e3, rfl⟩ := Option.map_eq_some_iff.mp e2
                    simp only [keyOf, Option.some.injEq] at h1
                    rw [List.map_cons, List.map_cons, ih ms e3, ← h1]
                refine call_sortedDI hc pins s σ _ _ _ Q I r ⟨p, ws, ns, rfl, .inl q, hkeys, h64, fun ys p' h1 h2 hf => ?_⟩
                rw [srtI_eq h1 h2]
                exact ok.mkL hs (ints_rels _) p' hf
              · cases e
            · cases e
          · exact ok.elim
        · exact ok.elim
      · exact ok.elim
  · -- dict of pairs
    obtain ⟨v, rfl, r1⟩ := one_of ra
    split at ok
    · rename_i kvs e
      unfold dicO at e
      split at e
      · obtain ⟨p, e1, rfl⟩ := relA_ref r1
        split at e
        · rename_i t kvs' hS
          cases e
          obtain ⟨ws, q, rs⟩ := hs.obj _ p _ e1 hS
          exact call_dictD pins s σ _ _ _ Q I r ⟨p, ws, rfl, .inl q, ok.mkD hs rs⟩
        · cases e
      · cases e
    split at ok
    · rename_i kvs e
      obtain ⟨ps, e2, e3⟩ := Option.bind_eq_some_iff.mp e
      obtain ⟨p, vs, rfl, hp, rs⟩ := lstO_rel hs r1 e2
      obtain ⟨as, kws, rfl, h1, h2⟩ := pairs_rel rs e3
      exact call_dictP hc pins s σ _ _ _ Q I r ⟨p, as, kws, rfl, hp, h1, ok.mkD hs (fold_rel h2 .nil)⟩
    · exact ok.elim
  · -- repr
    rename_i a
    obtain ⟨v, rfl, r1⟩ := one_of ra
    obtain ⟨y, e, ok2⟩ := ok.of
    obtain ⟨z, e1, rfl⟩ := Option.map_eq_some_iff.mp e
    unfold reprO at e1
    by_cases hed : isEd w.S a = true
    · rw [if_pos hed] at e1
      cases e1
      cases a <;> first | (cases hed; done) | skip
      rename_i n
      simp only [isEd] at hed
      split at hed
      · rename_i kvs hS
        have : kvs = [] := List.isEmpty_iff.mp hed
        subst this
        obtain ⟨p, e2, rfl⟩ := relA_ref r1
        obtain ⟨ws, q, rs⟩ := hs.obj _ p _ e2 hS
        cases rs
        obtain ⟨_, hsm, vs, kv, hD⟩ := I.hok _ _ q
        cases kv
        rcases r with _ | ⟨ru, rr⟩
        cases rr
        cases ru
        obtain ⟨o, es, ep, g1, g2, g3, g4, g5⟩ := hD
        obtain ⟨g5, _⟩ := g5
        have hes : es.toList = [] := by
          generalize es.toList = l at g5
          cases g5
          rfl
        have hsys : (p == sysModules) = false := hsm
        obtain ⟨g, hg1, hgc⟩ := hG.clear I
        refine call_repr_slot (T := "dict") (idr := "dict.__repr__") (by omega) ⟨o, g1, g2.1⟩ F.slot_dict_repr (call_dict_reprK (as := []) (d := 0) (ps := []) (h₀ := s.heap) g1 g2.1 g3 hsys (by simp) (by rw [hes]; exact .nil) (A := X.A.in1) (g := g) hg1 (fun b hb => hgc b (.inl ?_)) (by show X.A.units + 1 + 1 < cLine; omega) (fun _ _ e => e) (fun h' u tk hk => ⟨_, _, rfl, .str (PyData.dict []).shown, w.H, I.kept (t' := tk) fun b o e => hk b o e, ⟨u, congrArg (fun x => Value.str x u) (by decide : dictText [] = (PyData.dict []).shown)⟩, ?_⟩) (by decide))
        · rw [List.mem_singleton.mp hb, q]; exact Option.some_ne_none _
        · have hsh : (PyData.dict []).shown = mkS [123, 125] := by decide
          have := ok2.ret rfl hs (str_rel (K := X.K) (w := w) (x := [123, 125]) ⟨by decide, by decide⟩)
          rw [hsh]
          exact this
      · cases hed
    rw [if_neg hed] at e1
    split at e1
    case isFalse => cases e1
    rename_i hc2
    cases e1
    simp only [Bool.and_eq_true, decide_eq_true_eq, List.all_eq_true] at hc2
    obtain ⟨⟨⟨⟨c1, c2⟩, c3⟩, c4⟩, c5⟩ := hc2
    obtain ⟨dp, cl⟩ := derD_dat hs 6 _ _ r1 c1
    generalize (derD w.S 6 a).dat = d at dp c2 c3 c4 c5 ok2
    rcases r with _ | ⟨ru, rr⟩
    cases rr
    refine repr_call I dp ru c2 c4 hG (by omega) ?_
    have := ok2.ret rfl hs (str_rel (K := X.K) (w := w) (x := d.shown.cps.toList) ⟨by rw [Array.length_toList]; exact c4, c5⟩)
    rw [mkS_tl] at this
    exact this
  · -- str
    rename_i i
    obtain ⟨v, rfl, r1⟩ := one_of ra
    cases relA_int r1
    obtain ⟨y, e, ok⟩ := ok.of
    obtain ⟨z, e1, rfl⟩ := Option.map_eq_some_iff.mp e
    unfold strI at e1
    split at e1
    case isFalse => cases e1
    rename_i hc2
    cases e1
    unfold okT at hc2
    simp only [Bool.and_eq_true, decide_eq_true_eq, List.all_eq_true] at hc2
    refine call_str_int pins s σ _ _ _ Q I r ⟨i, rfl, hc2.1, ?_⟩
    have := ok.ret (v := .str (mkS (intT i))) rfl hs (str_rel (K := X.K) (w := w) (x := intT i) hc2.2)
    rw [show mkS (intT i) = Str.ofString (toString i) from mkS_tl _] at this
    exact this
  · -- tuple
    obtain ⟨v, rfl, r1⟩ := one_of ra
    obtain ⟨p, vs, rfl, hp, rs⟩ := relA_tup r1
    exact call_tuple_of pins s σ _ _ _ Q I r ⟨p, vs, rfl, .inr ⟨hp.sq, ok.ret rfl hs r1⟩⟩
  · obtain ⟨v, rfl, r1⟩ := one_of ra
    obtain ⟨p, vs, rfl, hp, rs⟩ := relA_ktup r1
    exact call_tuple_of pins s σ _ _ _ Q I r ⟨p, vs, rfl, .inr ⟨.inr hp, ok.ret rfl hs r1⟩⟩
  · obtain ⟨v, rfl, r1⟩ := one_of ra
    split at ok
    · rename_i xs e
      obtain ⟨p, vs, rfl, hp, rs⟩ := lstO_rel hs r1 e
      exact call_tuple_of pins s σ _ _ _ Q I r ⟨p, vs, rfl, .inl ⟨hp, ok.mkT hs rs⟩⟩
    · exact ok.elim
  · exact ok.elim
end
end Lt
/-! slices; methods of built-in types -/
namespace Lt
open PySem L2
theorem okS.sub {x y : List Nat} (h : okS x) (l : y.length ≤ x.length) (m : ∀ c ∈ y, c ∈ x) : okS y := ⟨Nat.le_trans l h.1, fun c hc => h.2 c (m c hc)⟩
theorem cutA_len {α : Type} (xs : List α) (lo hi : Option Int) : (cutA xs lo hi).length ≤ xs.length := by
  unfold cutA
  rw [List.length_take, List.length_drop]; omega
theorem cutA_mem {α : Type} {xs : List α} {lo hi : Option Int} {c : α} (h : c ∈ cutA xs lo hi) : c ∈ xs := List.mem_of_mem_drop (List.mem_of_mem_take h)
theorem cut_rel {K : PySem.W.Frag} {w : Wd} {xs : List A} {vs : List V} (r : RelAs K w xs vs) (lo hi : Option Int) : RelAs K w (cutA xs lo hi) (cutV vs lo hi) := by
  unfold cutA cutV
  rw [r.length]
  exact (r.drop _).take _
theorem cutS_mk (x : List Nat) (lo hi : Option Int) : cutS (mkS x) lo hi = mkS (cutA x lo hi) := by
  unfold cutS
  rw [mkS_length, mkS_cps]; rfl
theorem cutA_all {α : Type} {xs : List α} {lo hi : Option Int} (h : HT.sIx xs.length 0 lo = 0 ∧ HT.sIx xs.length xs.length hi = xs.length) : cutA xs lo hi = xs := by
  unfold cutA
  rw [h.1, h.2]; simp
def rSl (K : PySem.W.Frag) (ad : Ad) (G : Gt) (fl : Bool) : V → Option Int → Option Int → Hp → VK → Prop := fun x lo hi H Q => ∃ E w a, w.H = H ∧ RelS K ad.cls w ∧ RelA K w a x ∧ okR K ad G Q E w (slO fl a lo hi w.S)
section
variable {X : Cx} {ad : Ad} {G : Gt}
theorem slr_o (fl : Bool) : SlR X (rSl X.K ad G fl) := by
  intro pins s σ H x v vl vu lo hi sl Q I rx hs pl pu h
  obtain ⟨E, w, a, rfl, s', ra, ok⟩ := h
  unfold slO at ok
  split at ok
  · rename_i x e
    have ha : a = .str x := by
      rcases der_rel s' ra with e' | ⟨n, ys, p, vs, rfl, e', _⟩
      · rw [e'] at e; exact e
      · rw [e'] at e; cases e
    subst ha
    obtain ⟨rfl, o⟩ := relA_str ra
    exact sl_str pins s σ _ _ _ vl vu lo hi sl Q I rx hs pl pu ⟨mkS x, rfl, by rw [mkS_length]; exact o.1, by rw [cutS_mk]; exact ok.ret rfl s' (str_rel (o.sub (cutA_len _ _ _) fun c hc => cutA_mem hc))⟩
  · rename_i xs e
    have ha : a = .tup xs := by
      rcases der_rel s' ra with e' | ⟨n, ys, p, vs, rfl, e', _⟩
      · rw [e'] at e; exact e
      · rw [e'] at e; cases e
    subst ha
    obtain ⟨p, vs, rfl, hp, rs⟩ := relA_tup ra
    refine sl_tupA pins s σ _ _ _ vl vu lo hi sl Q I rx hs pl pu ⟨p, vs, rfl, hp.sq, fun hw => ?_, fun hw => ?_⟩
    · rw [← rs.length] at hw
      rw [cutA_all hw] at ok
      exact ok.ret rfl s' ra
    · exact ok.mkT s' (cut_rel rs lo hi)
  · rename_i xs e
    obtain ⟨p, vs, rfl, hp, rs⟩ := der_rd s' ra e
    exact sl_list pins s σ _ _ _ vl vu lo hi sl Q I rx hs pl pu ⟨p, vs, rfl, .inl hp, ok.mkL s' (cut_rel rs lo hi)⟩
  · exact ok.elim
/-! ### methods -/
def bmT : Bm → String
  | .join => "str" | .get => "dict" | .update => "dict" | _ => "list"
def bmN : Bm → Str
  | .append => "append" | .pop => "pop" | .clear => "clear" | .index => "index" | .join => "join" | .get => "get" | .update => "update" | .insert => "insert" | .extend => "extend"
def bmI : Bm → String
  | .append => "list.append" | .pop => "list.pop" | .clear => "list.clear" | .index => "list.index" | .join => "str.join" | .get => "dict.get" | .update => "dict.update" | .insert => "list.insert" | .extend => "list.extend"
def rBm (K : PySem.W.Frag) (ad : Ad) (G : Gt) (m : Bm) : V → List V → Hp → VK → Prop := fun x vs H Q => ∃ E w a as, w.H = H ∧ RelS K ad.cls w ∧ RelA K w a x ∧ RelAs K w as vs ∧ okR K ad G Q E w (bmO m a as w.S)
theorem bm_ty {K : PySem.W.Frag} {cls : Nat → Addr} {w : Wd} (s : RelS K cls w) {m : Bm} {a : A} {v : V} (r : RelA K w a v) (h : bmFit m w.S a = true) : tyV K (bmT m) v w.H := by
  have lst : (lstO w.S a).isSome = true → tyV K "list" v w.H := fun h => by
    obtain ⟨xs, e⟩ := Option.isSome_iff_exists.mp h
    obtain ⟨p, vs, rfl, hp, _⟩ := lstO_rel s r e
    exact .inl ⟨rfl, vs, hp⟩
  have dct : (dicO w.S a).isSome = true → tyV K "dict" v w.H := fun h => by
    obtain ⟨⟨t, kvs⟩, e⟩ := Option.isSome_iff_exists.mp (show (dicO w.S a).isSome = true from h)
    unfold dicO at e
    split at e
    · obtain ⟨p, e1, rfl⟩ := relA_ref r
      split at e
      · rename_i t' kvs' hS
        have ro := s.obj _ p _ e1 hS
        refine .inr (.inr (.inl ⟨rfl, ?_⟩))
        cases t' with
        | false => obtain ⟨ws, q, _⟩ := ro; exact .inl ⟨ws, q⟩
        | true => obtain ⟨ws, q, _⟩ := ro; exact .inr ⟨ws, q⟩
      · cases e
    · cases e
  cases m with
  | join =>
    cases a <;> first | (cases h; done) | skip
    obtain ⟨rfl, _⟩ := relA_str r
    rfl
  | get => exact dct h
  | update => exact dct h
  | _ => exact lst h
theorem join_mk (sep : List Nat) : ∀ ys : List (List Nat), Txt.join (mkS sep) (ys.map mkS) = mkS (joinN sep ys) := by
  intro ys
  show Builtin.Str.glued (mkS sep) (ys.map mkS) = _
  rw [StrLaws.glued_eq_join]
  induction ys with
  | nil => rfl
  | cons x r ih =>
    cases r with
    | nil => rfl
    | cons y r =>
      show mkS x ++ mkS sep ++ Str.join (mkS sep) ((y :: r).map mkS) = mkS (x ++ sep ++ joinN sep (y :: r))
      rw [ih, mkS_append, mkS_append]
theorem joinN_len (sep : List Nat) : ∀ ys : List (List Nat), (joinN sep ys).length ≤ (ys.map List.length).sum + ys.length * sep.length
  | [] => by simp [joinN]
  | [x] => by simp [joinN]
  | x :: y :: r => by
    have ih := joinN_len sep (y :: r)
    simp only [joinN, List.length_append, List.map_cons, List.sum_cons, List.length_cons] at ih ⊢
    have : (r.length + 1 + 1) * sep.length = (r.length + 1) * sep.length + sep.length := by rw [Nat.add_mul (r.length + 1) 1]; simp
    omega
theorem joinN_mem (sep : List Nat) : ∀ (ys : List (List Nat)) (c : Nat), c ∈ joinN sep ys → c ∈ sep ∨ ∃ y ∈ ys, c ∈ y
  | [], c, h => by simp [joinN] at h
  | [x], c, h => .inr ⟨x, by simp, h⟩
  | x :: y :: r, c, h => by
    simp only [joinN, List.mem_append] at h
    rcases h with (h | h) | h
    · exact .inr ⟨x, by simp, h⟩
    · exact .inl h
    · rcases joinN_mem sep (y :: r) c h with h | ⟨z, hz, h⟩
      · exact .inl h
      · exact .inr ⟨z, List.mem_cons_of_mem _ hz, h⟩
theorem dats_get {xs : List A} {j : Nat} : ∀ {xs : List A} {j : Nat}, (A.dats xs)[j]? = (xs[j]?).map A.dat
  | [], j => by simp [A.dats]
  | x :: xs, 0 => by simp [A.dats]
  | x :: xs, j + 1 => by simp [A.dats, dats_get (xs := xs) (j := j)]
theorem pures_at {xs : List A} (h : A.pures xs = true) {j : Nat} {x : A} (e : xs[j]? = some x) : x.pure = true := by
  induction xs generalizing j with
  | nil => cases e
  | cons y xs ih =>
    simp only [A.pures, Bool.and_eq_true] at h
    cases j with
    | zero => cases e; exact h.1
    | succ j => exact ih h.2 (by simpa using e)
theorem mt_update : MtR X "dict.update" (fun x vs H Q => ∃ a b kvs more, x = .ref a ∧ vs = [.ref b] ∧ H a = some (.dK kvs) ∧ H b = some (.dK more) ∧ a ≠ b ∧ kvs.length + more.length ≤ sizeLine ∧ Q .non (upd H a (.dK (mergeK kvs more)))) := by
  intro pins s σ H x vs v us Q I rx rv h
  obtain ⟨a, b, kvs, more, rfl, rfl, ha, hb, hab, hz, q⟩ := h
  cases rx
  obtain ⟨u, rfl, ru⟩ := rv.one
  cases ru
  obtain ⟨z1, hd1, v1, r1, d1⟩ := dk_of I.hok ha
  obtain ⟨z2, hd2, v2, r2, d2⟩ := dk_of I.hok hb
  have l1 := r1.length
  have l2 := r2.length
  refine call_meetsIn PySem.F.slot_dict_update d1.typeIs PySem.F.entry_dict_update (PySem.F.args_dict_update_2 _ _) (meets_dict_update (mixKind X.prog X.w) a b hab hd2) ⟨v1, v2, d1, d2, by omega, fun h' e1 e2 hs => ?_⟩
  have he : ∃ q, h'.get? a = some q := let ⟨q, _, _, hq, _⟩ := e1; ⟨q, hq⟩
  have hl : (mergeK kvs more).length ≤ sizeLine := by
    have e3 := (KV.merge r2 r1).length
    have e4 := merged_length_le v1 v2
    omega
  exact ⟨.non, _, d_write (t' := s.toks) I (by rw [ha]; exact True.intro) hs he (dk_new hl hd1 (KV.merge r2 r1) e1), rfl, q⟩
theorem mt_extendR : MtR X "list.extend" (fun x vs H Q => ∃ l b xs zs, x = .ref l ∧ vs = [.ref b] ∧ H l = some (.lst xs) ∧ Rd H b (.lst zs) ∧ xs.length + zs.length ≤ sizeLine ∧ Q .non (upd H l (.lst (xs ++ zs)))) := by
  intro pins s σ H x vs v us Q I rx rv h
  obtain ⟨l, b, xs, zs, rfl, rfl, hH, hB, hz, q⟩ := h
  cases rx
  obtain ⟨u, rfl, ru⟩ := rv.one
  cases ru
  obtain ⟨z, its, n, r, hl, e⟩ := I.lstM hH
  obtain ⟨z2, its2, n2, r2, e2⟩ := hB.ok I.hok
  have hl2 := r2.length
  have hsz : its.toArray.size + its2.toArray.size ≤ sizeLine := by rw [List.size_toArray, List.size_toArray]; omega
  have hlong : ¬ (!its.toArray.isEmpty && Builtin.List.listTooLong (its.toArray.size + its2.toArray.size)) = true := by
    rw [notLongL hsz, Bool.and_false]
    exact Bool.false_ne_true
  refine call_meets PySem.F.slot_list_extend ⟨_, e, rfl⟩ PySem.F.entry_list_extend (PySem.F.args_list_extend_2 _ _)
    (AutoSeq1.list_extend_list_list_0 l its.toArray n b its2.toArray n2 hlong (by rw [List.size_toArray]; omega) (by omega)) ⟨e, e2, ?_⟩
  refine ⟨.non, _, I.lset (its' := its ++ its2) hH e (by simp) (r.append r2) ?_, rfl, q⟩
  rw [List.length_append]
  omega
theorem mt_extendT : MtR X "list.extend" (fun x vs H Q => ∃ l b xs zs, x = .ref l ∧ vs = [.ref b] ∧ H l = some (.lst xs) ∧ SqT X.K H b zs ∧ xs.length + zs.length ≤ sizeLine ∧ Q .non (upd H l (.lst (xs ++ zs)))) := by
  intro pins s σ H x vs v us Q I rx rv h
  obtain ⟨l, b, xs, zs, rfl, rfl, hH, hB, hz, q⟩ := h
  cases rx
  obtain ⟨u, rfl, ru⟩ := rv.one
  cases ru
  obtain ⟨z, its, n, r, hl, e⟩ := I.lstM hH
  obtain ⟨its2, r2, ⟨o2, e2, c2, n2, d2⟩, _⟩ := I.tuple hB
  obtain ⟨oc, od, dt, osl⟩ := o2
  dsimp only at c2 d2
  subst c2 d2
  have hl2 := r2.length
  have hsz : its.toArray.size + its2.toArray.size ≤ sizeLine := by rw [List.size_toArray, List.size_toArray]; omega
  have hlong : ¬ (!its.toArray.isEmpty && Builtin.List.listTooLong (its.toArray.size + its2.toArray.size)) = true := by
    rw [notLongL hsz, Bool.and_false]
    exact Bool.false_ne_true
  refine call_meets PySem.F.slot_list_extend ⟨_, e, rfl⟩ PySem.F.entry_list_extend (PySem.F.args_list_extend_2 _ _)
    (meets_extT l its.toArray n b od osl its2.toArray n2 hlong (by rw [List.size_toArray]; omega) (by omega)) ⟨e, e2, ?_⟩
  refine ⟨.non, _, I.lset (its' := its ++ its2) hH e (by simp) (r.append r2) ?_, rfl, q⟩
  rw [List.length_append]
  omega
theorem der_tup {S : List O} {a : A} {ys : List A} (h : der S a = .tup ys) : a = .tup ys := by
  cases a <;> simp only [der] at h <;> first | exact h | skip
  split at h <;> cases h
theorem mtr_bm (hu : X.A.units + 66 < cLine) : ∀ m : Bm, MtR X (bmI m) (rBm X.K ad G m) := by
  intro m pins s σ H x vs v us Q I rx rxs h
  obtain ⟨E, w, a, as, rfl, hs, ra, ras, ok⟩ := h
  unfold bmO at ok
  split at ok
  · -- append
    rename_i n y
    obtain ⟨p, e1, rfl⟩ := relA_ref ra
    obtain ⟨u, rfl, r1⟩ := one_of ras
    split at ok
    · rename_i xs hS
      split at ok
      · rename_i hz
        obtain ⟨vs, hH, rs⟩ := hs.obj n p _ e1 hS
        have nd : (O.lst xs).Lv := trivial
        refine mt_append pins s σ _ _ _ v us Q I rx rxs ⟨p, vs, u, rfl, rfl, hH, by rw [← rs.length]; exact hz, ?_⟩
        have le := Le.put (o' := .lst (xs ++ [y])) (h := .lst (vs ++ [u])) hs e1 hS nd
        exact ok _ _ rfl le (hs.put e1 hS nd ⟨_, upd_same, (rs.append (RelAs.cons r1 RelAs.nil)).mono le.mo⟩) non_rel
      · exact ok.elim
    · exact ok.elim
  · -- clear
    rename_i n
    obtain ⟨p, e1, rfl⟩ := relA_ref ra
    simp only [RelAs] at ras
    subst ras
    split at ok
    · rename_i xs hS
      obtain ⟨vs, hH, rs⟩ := hs.obj n p _ e1 hS
      have nd : (O.lst xs).Lv := trivial
      refine mt_clear pins s σ _ _ _ v us Q I rx rxs ⟨p, vs, rfl, rfl, hH, ?_⟩
      have le := Le.put (o' := .lst []) (h := .lst []) hs e1 hS nd
      exact ok _ _ rfl le (hs.put e1 hS nd ⟨_, upd_same, RelAs.nil⟩) non_rel
    · exact ok.elim
  · -- pop
    rename_i n
    obtain ⟨p, e1, rfl⟩ := relA_ref ra
    simp only [RelAs] at ras
    subst ras
    split at ok
    · rename_i xs hS
      split at ok
      · rename_i y hy
        obtain ⟨vs, hH, rs⟩ := hs.obj n p _ e1 hS
        have nd : (O.lst xs).Lv := trivial
        obtain ⟨u, hu', ru⟩ := rs.get hy
        rw [rs.length] at hu'
        refine mt_pop pins s σ _ _ _ v us Q I rx rxs ⟨p, vs, u, rfl, rfl, hH, hu', ?_⟩
        have le := Le.put (o' := .lst xs.dropLast) (h := .lst vs.dropLast) hs e1 hS nd
        have rd : RelAs X.K w xs.dropLast vs.dropLast := by rw [List.dropLast_eq_take, List.dropLast_eq_take, rs.length]; exact rs.take _
        exact ok _ _ rfl le (hs.put e1 hS nd ⟨_, upd_same, rd.mono le.mo⟩) (ru.mono le.mo)
      · exact ok.elim
    · exact ok.elim
  · -- pop at
    rename_i n i
    obtain ⟨p, e1, rfl⟩ := relA_ref ra
    obtain ⟨u0, rfl, r1⟩ := one_of ras
    cases relA_int r1
    split at ok
    · rename_i xs hS
      split at ok
      · rename_i hi
        split at ok
        · rename_i kk hk
          split at ok
          · rename_i y hy
            obtain ⟨vs, hH, rs⟩ := hs.obj n p _ e1 hS
            have nd : (O.lst xs).Lv := trivial
            obtain ⟨u, hu', ru⟩ := rs.get hy
            rw [rs.length] at hk
            refine mt_popAt pins s σ _ _ _ v us Q I rx rxs ⟨p, vs, i, kk, u, rfl, rfl, hH, hi.1, hi.2, hk, hu', ?_⟩
            have le := Le.put (o' := .lst (xs.eraseIdx kk)) (h := .lst (vs.eraseIdx kk)) hs e1 hS nd
            have rd : RelAs X.K w (xs.eraseIdx kk) (vs.eraseIdx kk) := by rw [List.eraseIdx_eq_take_drop_succ, List.eraseIdx_eq_take_drop_succ]; exact (rs.take _).append (rs.drop _)
            exact ok _ _ rfl le (hs.put e1 hS nd ⟨_, upd_same, rd.mono le.mo⟩) (ru.mono le.mo)
          · exact ok.elim
        · exact ok.elim
      · exact ok.elim
    · exact ok.elim
  · -- index
    rename_i y
    obtain ⟨u, rfl, r1⟩ := one_of ras
    split at ok
    · rename_i xs e
      split at ok
      · rename_i hc
        simp only [Bool.and_eq_true, decide_eq_true_eq] at hc
        obtain ⟨⟨⟨h1, h2⟩, h3⟩, h4⟩ := hc
        split at ok
        · rename_i j hj
          obtain ⟨p, vs, rfl, hp, rs⟩ := lstO_rel hs ra e
          obtain ⟨d, cd⟩ := dat_rel _ u h2 r1
          obtain ⟨dd, cds⟩ := dats_rel xs vs h1 rs
          rw [List.findIdx?_eq_some_iff_getElem] at hj
          obtain ⟨hjl, hje, hjn⟩ := hj
          have shl : SeqAt.shaped (.list (A.dats xs)) = true := by
            unfold SeqAt.shaped
            rw [Bool.and_eq_true, decide_eq_true_eq]
            refine ⟨by simp only [PyData.canLay0]; exact cds, ?_⟩
            show PyData.depthAll (A.dats xs) + 1 ≤ 64
            rw [depths_dat _ h1]; omega
          have shd : SeqAt.shaped (A.dat y) = true := by
            unfold SeqAt.shaped
            rw [Bool.and_eq_true, decide_eq_true_eq]
            exact ⟨cd, by rw [depth_dat _ h2]; omega⟩
          refine mt_indexD (by omega) pins s σ _ _ _ v us Q I rx rxs ⟨p, u, A.dat y, A.dats xs, j, A.dat xs[j], rfl, rfl, .lst hp dd, d, shl, shd, ?_, ?_, ?_, ok.ret rfl hs int_rel⟩
          · rw [dats_get (xs := xs) (j := j), List.getElem?_eq_getElem hjl]; rfl
          · rw [eqv_dat _ _ (pures_at h1 (List.getElem?_eq_getElem hjl)) h2]; exact hje
          · intro m z' hm hz
            rw [dats_get (xs := xs) (j := m), List.getElem?_eq_getElem (by omega)] at hz
            cases hz
            rw [eqv_dat _ _ (pures_at h1 (List.getElem?_eq_getElem (by omega : m < xs.length))) h2]
            have := hjn m hm
            simpa using this
        · exact ok.elim
      · exact ok.elim
    · exact ok.elim
  · -- get
    rename_i k
    obtain ⟨u, rfl, r1⟩ := one_of ras
    split at ok
    · rename_i t kvs hd
      split at ok
      · rename_i hk
        obtain ⟨p, rfl, _, g⟩ := dic_get hs ra r1 (dicR_of hd) hk
        cases rx
        cases rxs with
        | cons ru rr =>
          cases rr
          rcases g with ⟨e1, g⟩ | ⟨x', y', e1, g, r⟩
          · rw [e1] at ok
            exact d_get1 (by omega) I g ru fun w' s3 I3 rw' => ⟨_, w.H, I3, rw', ok.ret rfl hs non_rel⟩
          · rw [e1] at ok
            exact d_get1 (by omega) I g ru fun w' s3 I3 rw' => ⟨_, w.H, I3, rw', ok.ret rfl hs r⟩
      · exact ok.elim
    · exact ok.elim
  · rename_i k d
    obtain ⟨u, ud, rfl, r1, r2⟩ := two_of ras
    split at ok
    · rename_i t kvs hd
      split at ok
      · rename_i hk
        obtain ⟨p, rfl, _, g⟩ := dic_get hs ra r1 (dicR_of hd) hk
        cases rx
        cases rxs with
        | cons ru rr =>
          cases rr with
          | cons rd rr =>
            cases rr
            rcases g with ⟨e1, g⟩ | ⟨x', y', e1, g, r⟩
            · rw [e1] at ok
              exact d_get2 (by omega) I g ru rd fun w' s3 I3 rw' => ⟨_, w.H, I3, rw', ok.ret rfl hs r2⟩
            · rw [e1] at ok
              exact d_get2 (by omega) I g ru rd fun w' s3 I3 rw' => ⟨_, w.H, I3, rw', ok.ret rfl hs r⟩
      · exact ok.elim
    · exact ok.elim
  · -- update
    rename_i n m
    obtain ⟨u, rfl, r1⟩ := one_of ras
    obtain ⟨p, e1, rfl⟩ := relA_ref ra
    obtain ⟨q, e2, rfl⟩ := relA_ref r1
    split at ok
    · rename_i kvs more h1 h2
      split at ok
      · rename_i hc
        obtain ⟨ws, g1, r1'⟩ := hs.obj n p _ e1 h1
        obtain ⟨us', g2, r2'⟩ := hs.obj m q _ e2 h2
        have nd : (O.dic false kvs).Lv := trivial
        have ne : p ≠ q := fun z => by
          subst z
          have q1 := List.getElem?_eq_some_iff.mp e1
          have q2 := List.getElem?_eq_some_iff.mp e2
          exact hc.1 ((List.getElem_inj hs.nd).mp (q1.2.trans q2.2.symm))
        have hz : (1000000 : Nat) ≤ sizeLine := by decide
        have le := Le.put (o' := .dic false (more.foldl (fun acc p => putO acc p.1 p.2) kvs)) (h := .dK (mergeK ws us')) hs e1 h1 nd
        refine mt_update pins s σ _ _ _ v us Q I rx rxs ⟨p, q, ws, us', rfl, rfl, g1, g2, ne, by rw [← r1'.length, ← r2'.length]; omega, ?_⟩
        exact ok _ _ rfl le (hs.put e1 h1 nd ⟨_, upd_same, Paired.mapP (fold_rel r2' r1') fun _ _ z => ⟨z.1, z.2.1, z.2.2.mono le.mo⟩⟩) non_rel
      · exact ok.elim
    · exact ok.elim
  · -- insert
    rename_i n i y
    obtain ⟨u0, u1, rfl, r0, r1⟩ := two_of ras
    obtain ⟨p, e1, rfl⟩ := relA_ref ra
    cases relA_int r0
    split at ok
    · rename_i xs hS
      split at ok
      · rename_i hc
        obtain ⟨vs, hH, rs⟩ := hs.obj n p _ e1 hS
        have nd : (O.lst xs).Lv := trivial
        refine mt_insert pins s σ _ _ _ v us Q I rx rxs ⟨p, vs, i, u1, rfl, rfl, hH, by rw [← rs.length]; exact hc.1, hc.2.1, hc.2.2, ?_⟩
        have le := Le.put (o' := .lst (xs.take i.toNat ++ [y] ++ xs.drop i.toNat)) (h := .lst (vs.take i.toNat ++ [u1] ++ vs.drop i.toNat)) hs e1 hS nd
        exact ok _ _ rfl le (hs.put e1 hS nd ⟨_, upd_same, (((rs.take _).append (RelAs.cons r1 RelAs.nil)).append (rs.drop _)).mono le.mo⟩) non_rel
      · exact ok.elim
    · exact ok.elim
  · -- extend
    rename_i n b
    obtain ⟨u0, rfl, r0⟩ := one_of ras
    obtain ⟨p, e1, rfl⟩ := relA_ref ra
    split at ok
    · rename_i xs ys hS hd
      split at ok
      · rename_i hc
        obtain ⟨vs, hH, rs⟩ := hs.obj n p _ e1 hS
        obtain ⟨q, us', rfl, hq, rt⟩ := der_rd hs r0 hd
        have nd : (O.lst xs).Lv := trivial
        refine mt_extendR pins s σ _ _ _ v us Q I rx rxs ⟨p, q, vs, us', rfl, rfl, hH, hq, by rw [← rs.length, ← rt.length]; exact hc, ?_⟩
        have le := Le.put (o' := .lst (xs ++ ys)) (h := .lst (vs ++ us')) hs e1 hS nd
        exact ok _ _ rfl le (hs.put e1 hS nd ⟨_, upd_same, (rs.append rt).mono le.mo⟩) non_rel
      · exact ok.elim
    · rename_i xs ys hS hd
      split at ok
      · rename_i hc
        obtain ⟨vs, hH, rs⟩ := hs.obj n p _ e1 hS
        have hb := der_tup hd
        subst hb
        obtain ⟨q, us', rfl, hq, rt⟩ := relA_tup r0
        have nd : (O.lst xs).Lv := trivial
        refine mt_extendT pins s σ _ _ _ v us Q I rx rxs ⟨p, q, vs, us', rfl, rfl, hH, .inl (.inl hq.1), by rw [← rs.length, ← rt.length]; exact hc, ?_⟩
        have le := Le.put (o' := .lst (xs ++ ys)) (h := .lst (vs ++ us')) hs e1 hS nd
        exact ok _ _ rfl le (hs.put e1 hS nd ⟨_, upd_same, (rs.append rt).mono le.mo⟩) non_rel
      · exact ok.elim
    · exact ok.elim
  · -- join
    rename_i sep a
    obtain ⟨u, rfl, r1⟩ := one_of ras
    obtain ⟨rfl, o⟩ := relA_str ra
    split at ok
    · rename_i ys e
      split at ok
      · rename_i hz
        obtain ⟨xs, e1, e2⟩ := Option.bind_eq_some_iff.mp e
        obtain ⟨p, vs, rfl, hp, rs⟩ := seqO_rel hs r1 e1
        obtain ⟨e3, o3⟩ := strs_rel rs e2
        have e4 : vs = (ys.map mkS).map V.str := by rw [e3, List.map_map]; rfl
        refine mt_join pins s σ _ _ _ v us Q I rx rxs ⟨mkS sep, p, ys.map mkS, rfl, rfl, by rw [← e4]; exact hp, ?_, ?_⟩
        · rw [List.map_map, List.length_map, mkS_length]
          have : (ys.map ((fun x : Str => x.length) ∘ mkS)) = ys.map List.length := List.map_congr_left fun y _ => mkS_length y
          rw [this]; exact hz
        · rw [join_mk]
          refine ok.ret rfl hs (str_rel ⟨?_, fun c hc => ?_⟩)
          · have := joinN_len sep ys
            have hs' : (16777216 : Nat) ≤ sizeLine := by decide
            omega
          · rcases joinN_mem sep ys c hc with h | ⟨y, hy, h⟩
            · exact o.2 c h
            · exact (o3 y hy).2 c h
      · exact ok.elim
    · exact ok.elim
  · exact ok.elim
end
end Lt
/-! isinstance; what a loop walks; comprehensions' and loops' turns -/
namespace Lt
open PySem L2
def tyN : Ty → String
  | .int => "int" | .str => "str" | .bool => "bool" | .list => "list" | .tuple => "tuple" | .dict => "dict" | .own _ => ""
/-- what is known of an own class, for isinstance -/
structure CF (K : PySem.W.Frag) (cls : Nat → Addr) (nc : Nat) (C : Addr) : Prop where
  cl : Cls K C
  ha : PySem.W.findIn K (.ref C) "__class__" = some (some (.builtin "object.__class__"))
  hn : PySem.W.specialIn K (.builtin "object.__class__") "__get__" = some (some (.builtin "getset_descriptor.__get__"))
  htk : PySem.W.takesIn K (.builtin "object.__class__") = some true
  hm : PySem.W.mroIn K C (.type "object") = some true
  ne : PySem.W.findIn K (.ref C) "__ne__" = some (some (.builtin "object.__ne__"))
  nb : PySem.W.findIn K (.ref C) "__bool__" = some none
  no : ∀ T ∈ ["int", "str", "bool", "list", "tuple", "dict"], PySem.W.kitOne K (.ref C) (.type T) = some false
  is : ∀ T ∈ ["NoneType", "int", "str", "bool", "list", "tuple", "dict"], PySem.W.kitOne K (.type T) (.ref C) = some false
def tyV (cls : Nat → Addr) : Ty → V
  | .own c => .ref (cls c)
  | t => .ty (tyN t)
def tyU (cls : Nat → Addr) : Ty → Value
  | .own c => .ref (cls c)
  | t => .type (tyN t)
theorem tyV_cls {cls : Nat → Addr} (t : Ty) : ClsV (tyV cls t) (tyU cls t) := by cases t <;> first | exact .ty _ | exact .own _
def bt : Ty → Bool | .own _ => false | _ => true
theorem kit_bt {K : PySem.W.Frag} (s t : Ty) (hs : bt s = true) (ht : bt t = true) : PySem.W.kitOne K (.type (tyN s)) (.type (tyN t)) = some (tyK s t) := by
  cases s <;> (try cases hs) <;> cases t <;> (try cases ht) <;> rfl
theorem kit_non {K : PySem.W.Frag} (t : Ty) (ht : bt t = true) : PySem.W.kitOne K (.type "NoneType") (.type (tyN t)) = some false := by
  cases t <;> (try cases ht) <;> rfl
/-- one isinstance, whatever the value -/
theorem isi_rel {K : PySem.W.Frag} {cls : Nat → Addr} {nc : Nat} {w : Wd} (s : RelS K cls w) (cf : ∀ c, c < nc → CF K cls nc (cls c)) (ow : ∀ c d, c < nc → d < nc → PySem.W.kitOne K (.ref (cls c)) (.ref (cls d)) = some (c == d))
    {a : A} {v : V} (r : RelA K w a v) {t : Ty} (ht : ∀ c, t = .own c → c < nc) {k : Bool} (h : tyO nc w.S a t = some k) : ∃ tt, TyX K w.H v tt ∧ PySem.W.kitOne K tt (tyU cls t) = some k := by
  have base : ∀ (s' : Ty), bt s' = true → TyX K w.H v (.type (tyN s')) → tyK s' t = k → ∃ tt, TyX K w.H v tt ∧ PySem.W.kitOne K tt (tyU cls t) = some k := by
    intro s' hb hx e
    refine ⟨_, hx, ?_⟩
    rw [← e]
    cases t with
    | own c =>
      have e2 : tyK s' (.own c) = false := by cases s' <;> rfl
      rw [e2]
      refine (cf c (ht c rfl)).is _ ?_
      cases s' <;> (try cases hb) <;> decide
    | _ => exact kit_bt s' _ hb rfl
  cases a with
  | non =>
    cases relA_non r
    refine ⟨_, .base .non, ?_⟩
    cases h
    cases t <;> first | exact kit_non _ rfl | skip
    rename_i c
    exact (cf c (ht c rfl)).is _ (by decide)
  | bl b =>
    cases relA_bl r
    exact base .bool rfl (.base (.bl b)) (Option.some.inj h)
  | int i =>
    cases relA_int r
    exact base .int rfl (.base (.int i)) (Option.some.inj h)
  | str x =>
    obtain ⟨e, o⟩ := relA_str r
    subst e
    exact base .str rfl (.base (.str _)) (Option.some.inj h)
  | tup xs =>
    obtain ⟨p, vs, e, hp, rs⟩ := relA_tup r
    subst e
    exact base .tuple rfl (.base (.tup hp.1)) (Option.some.inj h)
  | lst xs =>
    obtain ⟨p, vs, e, hp, rs⟩ := relA_lst r
    subst e
    have hx : TyX K w.H (.ref p) (.type "list") := by
      rcases hp.1 with z | ⟨o, z⟩
      · exact .base (.lst z)
      · exact .base (.frz z)
    exact base .list rfl hx (Option.some.inj h)
  | scr xs => cases h
  | ktup xs => cases h
  | ref n =>
    obtain ⟨p, e, rfl⟩ := relA_ref r
    simp only [tyO] at h
    split at h
    · rename_i xs eS
      obtain ⟨vs, q, _⟩ := s.obj n p _ e eS
      exact base .list rfl (.base (.lst q)) (Option.some.inj h)
    · rename_i b kvs eS
      have ro := s.obj n p _ e eS
      have hx : TyX K w.H (.ref p) (.type "dict") := by
        cases b with
        | false => obtain ⟨ws, q, _⟩ := ro; exact .base (.dK q)
        | true => obtain ⟨ws, q, _⟩ := ro; exact .base (.dT q)
      exact base .dict rfl hx (Option.some.inj h)
    · rename_i c fs eS
      obtain ⟨dx, ws, q, _⟩ := s.obj n p _ e eS
      split at h
      · rename_i hc
        have C := cf c hc
        refine ⟨.ref (cls c), .base (.ins q C.cl C.ha C.hn C.htk C.hm), ?_⟩
        cases h
        cases t <;> first | exact C.no _ (by decide) | skip
        rename_i d
        exact ow c d hc (ht d rfl)
      · cases h
    · cases h
end Lt
/-! zip of two of a list, a tuple, a text each -/
namespace Lt
open PySem PySem.Spec PyProof.Rows L2
inductive Zs where
  | l (a : Addr) | t (a : Addr) | s (x : Str)
def Zs.val : Zs → V
  | .l a => .ref a
  | .t a => .ref a
  | .s x => .str x
def Zs.src : Zs → List Addr
  | .l a => [a]
  | .t a => [a]
  | .s _ => []
def signsV (x : Str) : List V := x.cps.toList.map fun c => V.str ⟨#[c]⟩
def Zs.at_ (K : PySem.W.Frag) (H : Hp) (z : Zs) (xs : List V) : Prop := match z with
  | .l a => SqL K H a xs
  | .t a => SqT K H a xs
  | .s x => xs = signsV x
/-- the iterator's own cell -/
def Zs.st (z : Zs) (it : Addr) (i : Nat) (h : Heap) : Prop := match z with
  | .l a => h.IsListIter it a i
  | .t a => h.IsTupleIter it a i
  | .s x => ∃ t, h.IsStrIter it (strIterType x) x t i
theorem Zs.st_obj {z : Zs} {it : Addr} {i : Nat} {h : Heap} (st : z.st it i h) : ∃ o, h.get? it = some o ∧ ∀ v, o.data ≠ .cell v := by
  cases z with
  | l a => obtain ⟨o, e, _, d⟩ := st; exact ⟨o, e, fun v q => by rw [d] at q; cases q⟩
  | t a => obtain ⟨o, e, _, d⟩ := st; exact ⟨o, e, fun v q => by rw [d] at q; cases q⟩
  | s x => obtain ⟨t, o, e, _, d⟩ := st; exact ⟨o, e, fun v q => by rw [d] at q; cases q⟩
theorem Zs.st_at {z : Zs} {it : Addr} {i : Nat} {h h' : Heap} (st : z.st it i h) (k : ∀ o, h.get? it = some o → h'.get? it = some o) : z.st it i h' := by
  cases z with
  | l a => obtain ⟨o, e, r⟩ := st; exact ⟨o, k o e, r⟩
  | t a => obtain ⟨o, e, r⟩ := st; exact ⟨o, k o e, r⟩
  | s x => obtain ⟨t, o, e, r⟩ := st; exact ⟨t, o, k o e, r⟩
theorem signsV_len (x : Str) : (signsV x).length = x.cps.size := by simp [signsV]
section
variable {X : Cx} {pins : List (Addr × Obj)} {σ : L2.St} {H : Hp} {s : Shared}
/-- what it draws -/
theorem Zs.draws (I : Inv X pins σ H s) {A : Around} (hh : A.handled = none) (z : Zs) {it : Addr} {i : Nat} {xs : List V} (hx : z.at_ X.K H xs) (st : z.st it i s.heap) (ne : ∀ a ∈ z.src, a ≠ it) :
    ∃ (P : Nat → Value → Prop) (St : Nat → Heap → Prop), Draws X.prog X.w A it (it :: z.src) xs.length P St ∧ St i s.heap ∧ (∀ j v, P j v → ∃ x, xs[j]? = some x ∧ RelV x v) ∧ ∀ j h, St j h → z.st it j h := by
  cases z with
  | l a =>
    obtain ⟨its, rv, p, _⟩ := I.list hx
    have hl := rv.length
    have hz : its.toArray.size = xs.length := by simp [hl]
    refine ⟨_, _, hz ▸ Draws.list hh it a (ne a (by simp [Zs.src])) its.toArray, ⟨st, p.isList⟩, fun j v e => ?_, fun j h q => q.1⟩
    have e' : its[j]? = some v := by simpa using e
    have hj : j < xs.length := by rw [hl]; exact (List.getElem?_eq_some_iff.mp e').1
    obtain ⟨u, hu, ru⟩ := rv.get (List.getElem?_eq_getElem hj)
    rw [e'] at hu; cases hu
    exact ⟨_, List.getElem?_eq_getElem hj, ru⟩
  | t a =>
    obtain ⟨its, rv, p, _⟩ := I.tuple hx
    have hl := rv.length
    have hz : its.toArray.size = xs.length := by simp [hl]
    refine ⟨_, _, hz ▸ Draws.tuple hh it a (ne a (by simp [Zs.src])) its.toArray, ⟨st, p⟩, fun j v e => ?_, fun j h q => q.1⟩
    have e' : its[j]? = some v := by simpa using e
    have hj : j < xs.length := by rw [hl]; exact (List.getElem?_eq_some_iff.mp e').1
    obtain ⟨u, hu, ru⟩ := rv.get (List.getElem?_eq_getElem hj)
    rw [e'] at hu; cases hu
    exact ⟨_, List.getElem?_eq_getElem hj, ru⟩
  | s x =>
    obtain ⟨t, st⟩ := st
    have hx : xs = signsV x := hx
    subst hx
    refine ⟨_, _, (signsV_len x) ▸ Draws.text hh it x t, st, fun j v e => ?_, fun j h q => ⟨t, q⟩⟩
    obtain ⟨c, u, e1, rfl⟩ := e
    refine ⟨.str ⟨#[c]⟩, ?_, ⟨u, rfl⟩⟩
    have e2 : x.cps.toList[j]? = some c := by simpa using e1
    simp [signsV, e2]
theorem Zs.lt (I : Inv X pins σ H s) (z : Zs) {xs : List V} (hx : z.at_ X.K H xs) : ∀ a ∈ z.src, a < s.heap.objs.size := by
  intro a ha
  cases z with
  | l b =>
    have : a = b := by simpa [Zs.src] using ha
    subst this
    obtain ⟨its, rv, p, _⟩ := I.list hx
    exact p.lt
  | t b =>
    have : a = b := by simpa [Zs.src] using ha
    subst this
    obtain ⟨its, rv, p, _⟩ := I.tuple hx
    obtain ⟨o, e, _⟩ := p
    exact Heap.lt_size e
  | s x => cases ha
theorem Zs.begins (I : Inv X pins σ H s) (z : Zs) {xs : List V} (hx : z.at_ X.K H xs) {u : Value} (r : RelV z.val u) :
    ∃ (o : Obj) (H1 : Heap → Prop), Begins u o H1 ∧ H1 s.heap ∧ ∀ it h, h.get? it = some o → z.st it 0 h := by
  cases z with
  | l a =>
    cases r
    obtain ⟨its, rv, p, _⟩ := I.list hx
    exact ⟨_, _, begins_list a its.toArray, p.isList, fun it h e => ⟨_, e, rfl, rfl⟩⟩
  | t a =>
    cases r
    obtain ⟨its, rv, p, _⟩ := I.tuple hx
    exact ⟨_, _, begins_tuple a its.toArray, p, fun it h e => ⟨_, e, rfl, rfl⟩⟩
  | s x =>
    obtain ⟨t, rfl⟩ := r
    exact ⟨_, _, begins_text x t, trivial, fun it h e => ⟨t, _, e, rfl, rfl⟩⟩
theorem Zs.inj (I : Inv X pins σ H s) {z : Zs} {xs ys : List V} (h : z.at_ X.K H xs) (k : z.at_ X.K H ys) : xs = ys := by
  cases z with
  | l a => exact I.list_inj h k
  | t a => exact I.tuple_inj h k
  | s x => exact (show xs = signsV x from h).trans (show ys = signsV x from k).symm
end
/-- the two as they stand at each turn, the items in new pairs -/
def Itzs (K : PySem.W.Frag) (p q : Zs) : It :=
  ⟨fun i H => ∃ (xs ys : List V) (x y : V), p.at_ K H xs ∧ q.at_ K H ys ∧ xs[i]? = some x ∧ ys[i]? = some y,
    fun i H v H' => ∃ T x y, v = .ref T ∧ H T = none ∧ H' = upd H T (.tup [x, y]) ∧ (∀ xs, p.at_ K H xs → xs[i]? = some x) ∧ ∀ ys, q.at_ K H ys → ys[i]? = some y,
    fun i H => ∃ xs ys : List V, p.at_ K H xs ∧ q.at_ K H ys ∧ i ≤ xs.length ∧ i ≤ ys.length ∧ (i = xs.length ∨ i = ys.length)⟩
theorem turn_zs {P : Program} {w : World} {K : PySem.W.Frag} {elts : List Expr} {kk : Nat} {tpos : Pos} {p q : Zs} {z TI TO i1 i2 : Addr} (D : ZipSep2 z TI TO i1 i2 (i1 :: p.src) (i2 :: q.src)) (ne1 : ∀ a ∈ p.src, a ≠ i1) (ne2 : ∀ a ∈ q.src, a ≠ i2) :
    Turn P w K (.Tuple elts kk tpos) (Itzs K p q) [z, TI, TO, i1, i2] z (fun i h => IsZip h z TI TO .none ∧ IsPair h TI (.ref i1) (.ref i2) ∧ (∃ x y, IsPair h TO x y) ∧ p.st i1 i h ∧ q.st i2 i h) where
  mem := by simp
  obj := fun i h st c hc => by
    obtain ⟨hz, hTI, ⟨x, y, hTO⟩, h1, h2⟩ := st
    have e' : c = z ∨ c = TI ∨ c = TO ∨ c = i1 ∨ c = i2 := by simpa using hc
    rcases e' with q | q | q | q | q
    · rw [q]; exact ⟨_, hz, fun v q => nomatch q⟩
    · rw [q]; exact ⟨_, hTI, fun v q => nomatch q⟩
    · rw [q]; exact ⟨_, hTO, fun v q => nomatch q⟩
    · rw [q]; exact (Zs.st_obj h1)
    · rw [q]; exact (Zs.st_obj h2)
  keep := fun i h h' st k => by
    obtain ⟨hz, hTI, ⟨x, y, hTO⟩, h1, h2⟩ := st
    exact ⟨k z (by simp) _ hz, k TI (by simp) _ hTI, ⟨x, y, k TO (by simp) _ hTO⟩, Zs.st_at h1 fun o q => k i1 (by simp) o q, Zs.st_at h2 fun o q => k i2 (by simp) o q⟩
  item := by
    intro X hP hw hK hc i pins s σ H E I hf st hg
    subst hP hw hK
    obtain ⟨hz, hTI, ⟨x0, y0, hTO⟩, h1, h2⟩ := st
    obtain ⟨xs, ys, x, y, hqx, hqy, hx, hy⟩ := hg
    have hh : X.A.in1.handled = none := I.ok.hd hc
    obtain ⟨P1, St1, D1, s1, g1, k1⟩ := p.draws I hh hqx h1 ne1
    obtain ⟨P2, St2, D2, s2, g2, k2⟩ := q.draws I hh hqy h2 ne2
    have hzl : z < s.heap.objs.size := Heap.lt_size hz
    refine wpAny_pyNext_zipD2_item D D1 D2 hz hTI hTO s1 s2 (List.getElem?_eq_some_iff.mp hx).1 (List.getElem?_eq_some_iff.mp hy).1 fun u u2 h' tk y1 y2 z' TO' h1' h2' hT hsz hk => ?_
    obtain ⟨x', ex, ru⟩ := g1 i u y1
    rw [hx] at ex; cases ex
    obtain ⟨y', ey, ru2⟩ := g2 i u2 y2
    rw [hy] at ey; cases ey
    refine ⟨_, rfl, wpAny_letOwnedTupleGo_zip (s := { s with heap := h', toks := tk }) z' fun h'' z'' sb => ?_⟩
    have hT2 : h''.get? s.heap.objs.size = some { cls := .type "tuple", data := .seq #[u, u2] } := (sb.2 _ (Nat.ne_of_gt hzl)).trans hT
    have new : ObjOk X.prog X.w (upd H s.heap.objs.size (.tup [x, y])) h'' s.heap.objs.size (.tup [x, y]) :=
      ⟨by show 2 ≤ sizeLine; decide, [u, u2], .cons ru (.cons ru2 .nil), ⟨_, hT2, rfl, _, rfl⟩⟩
    have I1 : Inv X pins σ (upd H s.heap.objs.size (.tup [x, y])) { s with heap := h'', toks := tk } :=
      I.turnedNew (t' := tk) (ch := [z, TI, TO, i1, i2]) (fun c o hb q => (sb.2 c (fun q' => hb (by simp [q']))).trans (hk c o (fun q' => hb (by simp [q'])) (fun q' => hb (by simp [q'])) (fun q' => hb (by simp [q'])) (fun q' => hb (by simp [q'])) q)) hf (Nat.le_refl _) new
    refine ⟨.ref s.heap.objs.size, _, I1, rfl, ⟨_, x, y, rfl, I.hok.fresh (Nat.le_refl _), rfl, fun l hl => by rw [Zs.inj I hl hqx]; exact hx, fun l hl => by rw [Zs.inj I hl hqy]; exact hy⟩, ⟨z'', ?_, ⟨u, u2, ?_⟩, ?_, ?_⟩, fun c hcm => ?_⟩
    · exact (sb.2 _ D.TIz).trans (hk _ _ D.TIz D.TITO D.TIi1 D.TIi2 hTI)
    · exact (sb.2 _ D.TOz).trans TO'
    · exact Zs.st_at (k1 _ _ h1') fun o q => (sb.2 _ (Ne.symm D.zi1)).trans q
    · exact Zs.st_at (k2 _ _ h2') fun o q => (sb.2 _ (Ne.symm D.zi2)).trans q
    · have hlt : c < s.heap.objs.size := by
        have e' : c = z ∨ c = TI ∨ c = TO ∨ c = i1 ∨ c = i2 := by simpa using hcm
        rcases e' with q | q | q | q | q
        · rw [q]; exact hzl
        · rw [q]; exact Heap.lt_size hTI
        · rw [q]; exact Heap.lt_size hTO
        · rw [q]; obtain ⟨_, e1, _⟩ := (Zs.st_obj h1); exact Heap.lt_size e1
        · rw [q]; obtain ⟨_, e2, _⟩ := (Zs.st_obj h2); exact Heap.lt_size e2
      rw [upd_ne (Nat.ne_of_lt hlt)]
      exact (hf c hcm).1
  done := by
    intro X hP hw hK hc i pins s σ H E I hf st hg
    subst hP hw hK
    obtain ⟨hz, hTI, ⟨x0, y0, hTO⟩, h1, h2⟩ := st
    obtain ⟨xs, ys, hqx, hqy, l1, l2, hend⟩ := hg
    have hh : X.A.in1.handled = none := I.ok.hd hc
    obtain ⟨P1, St1, D1, s1, g1, k1⟩ := p.draws I hh hqx h1 ne1
    obtain ⟨P2, St2, D2, s2, g2, k2⟩ := q.draws I hh hqy h2 ne2
    exact wpAny_pyNext_zipD2_end D D1 D2 hz hTI hTO s1 s2 l1 l2 hend fun h' tk hk => ⟨rfl, I.turnedL (t' := tk) (ch := [z, TI, TO, i1, i2]) (fun c o hb q =>
      hk c o (fun q' => hb (by simp [q'])) (fun q' => hb (by simp [q'])) (fun q' => hb (by simp [q'])) (fun q' => hb (by simp [q'])) q) hf⟩
  self := fun A i s Q E st h => wpAny_pyIter_zip st.1 h
def iZs (K : PySem.W.Frag) (ta : TA) : TI := fun σ H R => ta σ H fun vs H1 => ∃ (p q : Zs) (xs ys : List V), vs = [p.val, q.val] ∧ p.at_ K H1 xs ∧ q.at_ K H1 ys ∧ R (Itzs K p q) H1
theorem pi_zs {X : Cx} {e e2 : Expr} {ta : TA} {p pos tpos : Pos} {elts : List Expr} {kk : Nat} (hg : Gl X "zip") (hm : X.mg "zip" = none) (ha : PA X [e, e2] ta)
    (hs : starEach [e, e2] X.env = (false, eval e X.env) :: starEach [e2] X.env := by rfl) (hpl : (backTo pos (starEach [e2] X.env)).any (·.1) = false := by rfl) :
    PI X (.Tuple elts kk tpos) (.Call (.Name "zip" p) [e, e2] [] pos) (iZs X.K ta) := by
  refine ⟨fun pins s σ H R I h => ?_⟩
  refine Call_ (ld_blt I hg hm PyProof.Rows.boot_zip (PyProof.Rows.callWith_type1 (thn (ha.run pos pins s σ H _ I h) fun us s1 ⟨vs, H1, I1, r1, q1⟩ => ?_) hs hpl))
  obtain ⟨p', q', xs, ys, ex, hqx, hqy, q⟩ := q1
  subst ex
  cases r1 with
  | cons r rr =>
    cases rr with
    | cons r' rr =>
      cases rr
      obtain ⟨o1, H1', B1, b1, c1⟩ := p'.begins I1 hqx r
      obtain ⟨o2, H2', B2, b2, c2⟩ := q'.begins I1 hqy r'
      have lt1 := p'.lt I1 hqx
      have lt2 := q'.lt I1 hqy
      refine zip_begins2 B1 B2 b1 b2 fun h' hz hTI hTO h1 h2 hsz hk => wpAny_pyIter_zip hz ?_
      have I2 : Inv X pins σ H1 { s1 with heap := h' } := I1.kept (t' := s1.toks) hk
      refine ⟨s1.heap.objs.size + 4, [s1.heap.objs.size + 4, s1.heap.objs.size + 2, s1.heap.objs.size + 3, s1.heap.objs.size, s1.heap.objs.size + 1], _, _, H1, rfl, I2, turn_zs (p := p') (q := q') (zip_sep2 lt1 lt2) (fun a ha => Nat.ne_of_lt (lt1 a ha)) (fun a ha => Nat.ne_of_lt (Nat.lt_succ_of_lt (lt2 a ha))), ⟨hz, hTI, ⟨_, _, hTO⟩, c1 _ _ h1, c2 _ _ h2⟩, fun c hcm => ?_, q⟩
      have e' : c = s1.heap.objs.size + 4 ∨ c = s1.heap.objs.size + 2 ∨ c = s1.heap.objs.size + 3 ∨ c = s1.heap.objs.size ∨ c = s1.heap.objs.size + 1 := by simpa using hcm
      have hle : s1.heap.objs.size ≤ c := by
        rcases e' with z | z | z | z | z
        · rw [z]; exact Nat.le_add_right _ _
        · rw [z]; exact Nat.le_add_right _ _
        · rw [z]; exact Nat.le_add_right _ _
        · rw [z]; exact Nat.le_refl _
        · rw [z]; exact Nat.le_add_right _ _
      exact I1.fpOk hle (I1.hok.fresh hle)
end Lt
/-! enumerate of a list, a tuple, a text -/
namespace Lt
open PySem PySem.Spec PyProof.Rows L2
theorem meets_enum1 {v : Value} {o : Obj} {H : Heap → Prop} (B : Begins v o H) : Meets (Builtin.«enumerate.__new__» ⟨[.type "enumerate", v], []⟩) (fun _ R s => H s.heap ∧
    R (.ok (.ret (.ref (s.heap.push o).objs.size))) { s with heap := (s.heap.push o).push { cls := .type "enumerate", data := .fields #[.none, .bool false, .ref s.heap.objs.size, rawInt 0, .none, .none] } }) :=
  .of_wp fun prog w A R s h => by
    obtain ⟨hp, gs, dd, tk, os⟩ := s; obtain ⟨h1, h⟩ := h
    have hsub := sub_enumerate
    have q1 : ∀ {A' : Around} {E : Value → Shared → Prop} {Q : Value → Shared → Prop}, Q (.ref hp.objs.size) ⟨hp.push o, gs, dd, tk, os⟩ → wpAny (model prog w) A' (pyIter v) Q E ⟨hp, gs, dd, tk, os⟩ :=
      fun q => B.iter prog w _ _ ⟨hp, gs, dd, tk, os⟩ _ h1 q
    wp_walk using q1
    refine wpAny_stack_any fun st => wpAny_pure ?_
    split
    · rename_i cc _ _ _ _ _
      cases (cc == Value.type "enumerate") <;> (wp_walk using q1; exact ⟨_, rfl, h⟩)
    · wp_walk using q1
      exact ⟨_, rfl, h⟩
theorem enum_begins1 {prog : Program} {w : World} {A : Around} {E : Value → Shared → Prop} {s : Shared} {v : Value} {o : Obj} {H : Heap → Prop} {Q : Value → Shared → Prop} (B : Begins v o H) (h1 : H s.heap)
    (h : ∀ h', IsEnum h' (s.heap.objs.size + 1) s.heap.objs.size 0 .none → h'.get? s.heap.objs.size = some o → h'.objs.size = s.heap.objs.size + 2 → (∀ b o, s.heap.get? b = some o → h'.get? b = some o) → Q (.ref (s.heap.objs.size + 1)) { s with heap := h' }) :
    wpAny (model prog w) A (call (.type "enumerate") [v]) Q E s := by
  refine callType_new F.called_enumerate (by decide) (F.typeCall_enumerate_1 _) (F.newCall_enumerate_1 _) (fun obj => F.args_object_init_2 obj _) F.entry_enumerate_new (meets_enum1 B) ⟨h1, ?_⟩
  have z1 : (s.heap.push o).objs.size = s.heap.objs.size + 1 := Heap.size_push ..
  show _ ∧ _
  rw [z1]
  have he : IsEnum ((s.heap.push o).push { cls := .type "enumerate", data := .fields #[.none, .bool false, .ref s.heap.objs.size, rawInt 0, .none, .none] }) (s.heap.objs.size + 1) s.heap.objs.size 0 .none := by
    have y := Heap.get?_push_size (s.heap.push o) (o := { cls := .type "enumerate", data := .fields #[.none, .bool false, .ref s.heap.objs.size, rawInt 0, .none, .none] }) rfl
    rw [z1] at y; exact y
  exact ⟨⟨_, he, rfl⟩, h _ he (Heap.get?_push_of_some _ (Heap.get?_push_size _ B.free)) (by rw [Heap.size_push, z1]) fun b o x => Heap.get?_push_of_some _ (Heap.get?_push_of_some _ x)⟩
/-- the items as they stand at each turn, each in a new pair -/
def Itez (K : PySem.W.Frag) (p : Zs) : It :=
  ⟨fun i H => ∃ (xs : List V) (x : V), p.at_ K H xs ∧ xs[i]? = some x, fun i H v H' => ∃ T x, v = .ref T ∧ H T = none ∧ H' = upd H T (.tup [.int (i : Nat), x]) ∧ ∀ xs, p.at_ K H xs → xs[i]? = some x,
    fun i H => ∃ xs : List V, p.at_ K H xs ∧ i = xs.length⟩
theorem turn_ez {P : Program} {w : World} {K : PySem.W.Frag} {elts : List Expr} {kk : Nat} {tpos : Pos} {p : Zs} {e it : Addr} (ne : ∀ a ∈ p.src, a ≠ it) (ne2 : ∀ a ∈ p.src, a ≠ e) (hei : e ≠ it) :
    Turn P w K (.Tuple elts kk tpos) (Itez K p) [e, it] e (fun i h => (∃ old, IsEnum h e it ((i : Nat) : Int) old) ∧ p.st it i h) where
  mem := by simp
  obj := fun i h st c hc => by
    obtain ⟨⟨old, he⟩, h1⟩ := st
    have e' : c = e ∨ c = it := by simpa using hc
    rcases e' with q | q
    · rw [q]; exact ⟨_, he, fun v q => nomatch q⟩
    · rw [q]; exact (Zs.st_obj h1)
  keep := fun i h h' st k => let ⟨⟨old, he⟩, h1⟩ := st; ⟨⟨old, k e (by simp) _ he⟩, Zs.st_at h1 fun o q => k it (by simp) o q⟩
  item := by
    intro X hP hw hK hc i pins s σ H E I hf st hg
    subst hP hw hK
    obtain ⟨⟨old, he⟩, h1⟩ := st
    obtain ⟨xs, x, hqx, hx⟩ := hg
    have hh : X.A.in1.handled = none := I.ok.hd hc
    obtain ⟨P1, St1, D1, s1, g1, k1⟩ := p.draws I hh hqx h1 ne
    have hel : e < s.heap.objs.size := Heap.lt_size he
    have hil : it < s.heap.objs.size := by obtain ⟨_, q, _⟩ := Zs.st_obj h1; exact Heap.lt_size q
    have hef : e ∉ it :: p.src := fun z => by
      rcases List.mem_cons.mp z with z | z
      · exact hei z
      · exact ne2 e z rfl
    refine wpAny_pyNext_enum_itemD D1 he s1 (List.getElem?_eq_some_iff.mp hx).1 hei hef fun u h' tk y1 ho hit' hT hsz hk => ?_
    obtain ⟨x', ex, ru⟩ := g1 i u y1
    rw [hx] at ex; cases ex
    refine ⟨_, rfl, wpAny_letOwnedTupleGo_enum (s := { s with heap := h', toks := tk + 1 }) ho fun h'' he' sb => ?_⟩
    have hT2 : h''.get? s.heap.objs.size = some { cls := .type "tuple", data := .seq #[.int i tk, u] } := (sb.2 _ (Nat.ne_of_gt hel)).trans hT
    have new : ObjOk X.prog X.w (upd H s.heap.objs.size (.tup [.int (i : Nat), x])) h'' s.heap.objs.size (.tup [.int (i : Nat), x]) :=
      ⟨by show 2 ≤ sizeLine; decide, [.int i tk, u], .cons ⟨_, rfl⟩ (.cons ru .nil), ⟨_, hT2, rfl, _, rfl⟩⟩
    have I1 : Inv X pins σ (upd H s.heap.objs.size (.tup [.int (i : Nat), x])) { s with heap := h'', toks := tk + 1 } :=
      I.turnedNew (t' := tk + 1) (ch := [e, it]) (fun b ob hb q => (sb.2 b (fun z => hb (by simp [z]))).trans (hk b ob (fun z => hb (by simp [z])) (fun z => hb (by simp [z])) q)) hf (Nat.le_refl _) new
    refine ⟨.ref s.heap.objs.size, _, I1, rfl, ⟨_, x, rfl, I.hok.fresh (Nat.le_refl _), rfl, fun l hl => by rw [Zs.inj I hl hqx]; exact hx⟩, ⟨⟨u, ?_⟩, Zs.st_at (k1 _ _ hit') fun o q => (sb.2 it (Ne.symm hei)).trans q⟩, fun b hb => ?_⟩
    · have e1 : ((i + 1 : Nat) : Int) = (i : Int) + 1 := by omega
      rw [e1]; exact he'
    · have hb' : b < s.heap.objs.size := by
        have e' : b = e ∨ b = it := by simpa using hb
        rcases e' with z | z
        · rw [z]; exact hel
        · rw [z]; exact hil
      rw [upd_ne (Nat.ne_of_lt hb')]
      exact (hf b hb).1
  done := by
    intro X hP hw hK hc i pins s σ H E I hf st hg
    subst hP hw hK
    obtain ⟨⟨old, he⟩, h1⟩ := st
    obtain ⟨xs, hqx, hx⟩ := hg
    have hh : X.A.in1.handled = none := I.ok.hd hc
    obtain ⟨P1, St1, D1, s1, g1, k1⟩ := p.draws I hh hqx h1 ne
    rw [hx] at s1
    obtain ⟨f0, f1, f2, f3, f4, f5⟩ := hf it (by simp)
    exact wpAny_pyNext_enum_endD D1 he s1 fun h' eb => ⟨rfl, I.turned (t' := s.toks) (fun b o hb q => eb b o hb q) f0 f1 f3 f4 f5⟩
  self := fun A i s Q E st h => let ⟨⟨_, he⟩, _⟩ := st; wpAny_pyIter_enum he h
def iEz (K : PySem.W.Frag) (ta : TA) : TI := fun σ H R => ta σ H fun vs H1 => ∃ (p : Zs) (xs : List V), vs = [p.val] ∧ p.at_ K H1 xs ∧ R (Itez K p) H1
theorem pi_ez {X : Cx} {e : Expr} {ta : TA} {p pos tpos : Pos} {elts : List Expr} {kk : Nat} (hg : Gl X "enumerate") (hm : X.mg "enumerate" = none) (ha : PA X [e] ta) (hs : starEach [e] X.env = [(false, eval e X.env)] := by rfl) :
    PI X (.Tuple elts kk tpos) (.Call (.Name "enumerate" p) [e] [] pos) (iEz X.K ta) := by
  refine ⟨fun pins s σ H R I h => ?_⟩
  refine Call_ (ld_blt I hg hm boot_enumerate (PyProof.Rows.callWith_type1 (thn (ha.run pos pins s σ H _ I h) fun us s1 ⟨vs, H1, I1, r1, q1⟩ => ?_) hs rfl))
  obtain ⟨p', xs, ex, hqx, q⟩ := q1
  subst ex
  cases r1 with
  | cons r rr =>
    cases rr
    obtain ⟨o1, H1', B1, b1, c1⟩ := p'.begins I1 hqx r
    have lt1 := p'.lt I1 hqx
    refine enum_begins1 B1 b1 fun h' he hit hsz hk => wpAny_pyIter_enum he ?_
    have I2 : Inv X pins σ H1 { s1 with heap := h' } := I1.kept (t' := s1.toks) hk
    refine ⟨s1.heap.objs.size + 1, [s1.heap.objs.size + 1, s1.heap.objs.size], _, _, H1, rfl, I2, turn_ez (p := p') (fun a ha => Nat.ne_of_lt (lt1 a ha)) (fun a ha => Nat.ne_of_lt (Nat.lt_succ_of_lt (lt1 a ha))) (Nat.succ_ne_self _), ⟨⟨.none, he⟩, c1 _ _ hit⟩, fun b hb => ?_, q⟩
    have e' : b = s1.heap.objs.size + 1 ∨ b = s1.heap.objs.size := by simpa using hb
    have hle : s1.heap.objs.size ≤ b := by
      rcases e' with z | z
      · rw [z]; exact Nat.le_add_right _ _
      · rw [z]; exact Nat.le_refl _
    exact I1.fpOk hle (I1.hok.fresh hle)
end Lt
/-! a, .., *rest = a tuple -/
namespace Lt
open PySem PySem.Spec PyProof.Rows L2
section
variable {prog : Program} {w : World} {A : Around} {E : Value → Shared → Prop} {s : Shared}
/-- a tuple's iterator from a place on -/
theorem walks_from (hh : A.handled = none) (it t : Addr) (ne : t ≠ it) (items : Array Value) (k : Nat) (hk : k ≤ items.size) :
    Walks prog w A it [it, t] [it] (items.size - k) (fun i v => items[k + i]? = some v) (fun i h => h.IsTupleIter it t (k + i) ∧ h.IsTuple t items) where
  sub := fun b hb => by simp at hb; simp [hb]
  frame := fun _ _ _ st hk => ⟨st.1.at fun o e => hk it (by simp) o e, st.2.at fun o e => hk t (by simp) o e⟩
  item := fun i s Q E hi st hQ => by
    have W := Walks.tuple (prog := prog) (w := w) hh it t ne items
    refine W.item (k + i) s Q E (by omega) st fun v h' tk hv st' kk => hQ v h' tk hv ?_ kk
    rw [← Nat.add_assoc]; exact st'
  done := fun s Q E st hQ => by
    have W := Walks.tuple (prog := prog) (w := w) hh it t ne items
    have e : k + (items.size - k) = items.size := by omega
    exact W.done s Q E (by rw [e] at st; exact st) hQ
  self := fun i s Q E st hQ => (Walks.tuple (prog := prog) (w := w) hh it t ne items).self (k + i) s Q E st hQ
theorem unpack_star {t : Addr} {items : Array Value} {targets : List (Bool × (Value → Sem Unit))} {k : Nat} {Q : Unit → Shared → Prop} (hh : A.handled = none) (ht : IsTup s.heap t items)
    (hn : targets.length = k + 1) (hstar : targets.findIdx? (·.1) = some k) (hk : k ≤ items.size) (hz : items.size ≤ sizeLine)
    (h : ∀ (h' : Heap) tk, (∀ b o, s.heap.get? b = some o → h'.get? b = some o) →
      wpAny (model prog w) A (assignInOrder (targets.map (·.2)) (items.toList.take k ++ [.ref h'.objs.size])) Q E { s with heap := h'.push { cls := .type "list", data := .seq (items.toList.drop k).toArray }, toks := tk }) :
    wpAny (model prog w) A (unpack (.ref t) targets) Q E s := by
  have hlt : t ≠ s.heap.objs.size := by obtain ⟨o, ho, _⟩ := ht; exact Nat.ne_of_lt (Heap.lt_size ho)
  unfold unpack
  rw [hn, hstar]
  refine wpAny_bind (wpAny_holding ?_)
  unfold unpackItems
  refine wpAny_bind ?_
  unfold notIterableAtAll
  refine wpAny_bind (wpAny_specialOf ht.typeIs slot_tuple_iter.lookup ?_)
  refine wpAny_pure ?_
  simp only [Bool.false_eq_true, if_false]
  refine wpAny_bind (wpAny_holding (iter_tuple ht ?_))
  refine wpAny_bind (wpAny_holding (draw_tuple hlt k 0 _ _ ⟨_, Heap.get?_push_size _ rfl, rfl, rfl⟩ (ht.push _) (by omega) fun h₁ hit₁ hs₁ => ?_))
  rw [List.drop_zero]
  rw [if_neg (by simp; omega)]
  have ht₁ : IsTup h₁ t items := (ht.push _).extBut hs₁.extBut hlt
  rw [Nat.zero_add] at hit₁
  have W := (walks_from (prog := prog) (w := w) (A := A.in1) hh s.heap.objs.size t hlt items k hk).toS
  have hlt1 : t < h₁.objs.size := by obtain ⟨o, ho, _⟩ := ht₁; exact Heap.lt_size ho
  have hlt2 : s.heap.objs.size < h₁.objs.size := by obtain ⟨o, ho, _⟩ := hit₁; exact Heap.lt_size ho
  refine wpAny_bind (wpAny_holding (wpAny_collect_iter (T := "tuple_iterator") (.inr (.inr (.inr rfl))) W (fun i s st => ?_) ⟨hit₁, ht₁⟩ (fun b hb => ?_) (by simp) (fun s' acc mv hacc => ?_) (by omega)))
  · exact Heap.IsTupleIter.typeIs st.1
  · have e : b = s.heap.objs.size ∨ b = t := by simpa using hb
    rcases e with rfl | rfl
    · exact hlt2
    · exact hlt1
  · have el : acc.toList = items.toList.drop k := by
      apply List.ext_getElem?
      intro j
      rw [List.getElem?_drop]
      by_cases hj : j < acc.size
      · have := hacc.2 j acc[j] (by simp [hj])
        rw [Array.getElem?_toList, Array.getElem?_toList, this]; simp [hj]
      · have h1 := hacc.1
        rw [List.getElem?_eq_none (by simpa using hj), List.getElem?_eq_none (by simp; omega)]
    show wpAny _ _ (if acc.toList.length < k + 1 - 1 - k then _ else _) _ _ _
    rw [if_neg (by omega)]
    have em : acc.toList.length - (k + 1 - 1 - k) = acc.toList.length := by omega
    rw [em]
    refine wpAny_bind (wpAny_newList ?_ (by rw [List.length_take, el]; simp; omega))
    rw [List.take_length, List.drop_length, List.append_nil, el]
    refine wpAny_pure ?_
    have kp : ∀ b o, s.heap.get? b = some o → s'.heap.get? b = some o := fun b o e => by
      have nb : b ≠ s.heap.objs.size := Nat.ne_of_lt (Heap.lt_size e)
      exact mv.heap b o (by simpa using nb) (hs₁.extBut b o nb (Heap.get?_push_of_some _ e))
    have es : s' = { s with heap := s'.heap, toks := s'.toks } := by
      obtain ⟨hp, g, d, tk, os⟩ := s'
      have e1 : g = s.gens := mv.gens
      have e2 : d = s.drawn := mv.drawn
      have e3 : os = s.os := mv.os
      rw [e1, e2, e3]
    rw [es]
    exact h _ _ kp
end
def gStar (K : PySem.W.Frag) (k : Nat) (t : TGs) : TG := fun v σ H Q => ∃ a xs, v = .ref a ∧ SqT K H a xs ∧ k ≤ xs.length ∧ ∀ p, H p = none → t (xs.take k ++ [.ref p]) σ (upd H p (.lst (xs.drop k))) Q
theorem Paired.take' {α β : Type} {R : α → β → Prop} : ∀ {xs : List α} {ys : List β} (k : Nat), Paired R xs ys → Paired R (xs.take k) (ys.take k)
  | _, _, 0, _ => by simp; exact .nil
  | _, _, k + 1, .nil => by simp; exact .nil
  | _, _, k + 1, .cons a r => by simp only [List.take_succ_cons]; exact .cons a (Paired.take' k r)
theorem Paired.drop' {α β : Type} {R : α → β → Prop} : ∀ {xs : List α} {ys : List β} (k : Nat), Paired R xs ys → Paired R (xs.drop k) (ys.drop k)
  | _, _, 0, h => h
  | _, _, k + 1, .nil => by simp; exact .nil
  | _, _, k + 1, .cons a r => by simp only [List.drop_succ_cons]; exact Paired.drop' k r
theorem Paired.snoc' {α β : Type} {R : α → β → Prop} {x : α} {y : β} (h : R x y) : ∀ {xs : List α} {ys : List β}, Paired R xs ys → Paired R (xs ++ [x]) (ys ++ [y])
  | _, _, .nil => .cons h .nil
  | _, _, .cons a r => .cons a (Paired.snoc' h r)
theorem pg_star {X : Cx} {ts es : List Expr} {kk : Nat} {pos : Pos} {t : TGs} {k : Nat} (hc : X.calm = true) (h : PGs X es t) (he : (assignEach ts X.env).map (·.2) = (assignEach es X.env).map (·.2))
    (hn : (assignEach ts X.env).length = k + 1) (hst : (assignEach ts X.env).findIdx? (·.1) = some k) : PG X (.Tuple ts kk pos) (gStar X.K k t) := by
  refine ⟨fun pins s σ H v u Q I r hw => ?_⟩
  obtain ⟨a, xs, rfl, hq, hl, hw⟩ := hw
  cases r
  obtain ⟨its, rv, ht, hz⟩ := I.tuple hq
  have hlen := rv.length
  rw [assign_Tuple]
  refine wpAny_bind (wpAny_standAt (unpack_star (I.ok.hd hc) ht hn hst (by simp; omega) (by simp; omega) fun h' tk kp => ?_))
  have I0 : Inv X pins σ H { s with heap := h', toks := tk } := I.kept (t' := tk) kp
  have I1 : Inv X pins σ (upd H h'.objs.size (.lst (xs.drop k))) { s with heap := h'.push { cls := .type "list", data := .seq (its.drop k).toArray }, toks := tk } :=
    I0.laid (t' := tk) (a := h'.objs.size) (fun b o e => Heap.get?_push_of_some _ e) (Nat.le_refl _) (show ObjOk X.prog X.w _ _ _ (.lst (xs.drop k)) from ⟨by simp; omega, its.drop k, 0, Paired.drop' k rv, Heap.get?_push_size _ rfl⟩)
  rw [he]
  have r2 : Vals (xs.take k ++ [.ref h'.objs.size]) (its.take k ++ [.ref h'.objs.size]) := Paired.snoc' (R := RelV) (by rfl) (Paired.take' (R := RelV) k rv)
  exact h.run pins _ σ _ _ _ Q I1 r2 (hw h'.objs.size (I0.hok.fresh (Nat.le_refl _)))
end Lt
/-! zip(.., strict=True) of two of a list, a tuple, a text each, as many on both sides -/
namespace Lt
open PySem PySem.Spec PyProof.Rows L2
/-- a strict zip's object -/
abbrev ZS (h : Heap) (z TI TO : Addr) (f0 : Value) : Prop := h.get? z = some { cls := .type "zip", data := .fields #[f0, .bool false, .bool true, .ref TI, .ref TO] }
section
variable {prog : Program} {w : World} {A : Around} {E : Value → Shared → Prop} {s : Shared}
theorem noe_item {it : Addr} {fp : List Addr} {n i : Nat} {P : Nat → Value → Prop} {St : Nat → Heap → Prop} {Q : Option Value → Shared → Prop} (D : Draws prog w A it fp n P St) (hi : i < n) (st : St i s.heap)
    (h : ∀ x g tk, P i x → St (i + 1) g → Heap.SameBut it s.heap g → Q (some x) { s with heap := g, toks := tk }) : wpAny (model prog w) A (Builtin.SmallTypes.nextOrEnd (.ref it)) Q E s := by
  unfold Builtin.SmallTypes.nextOrEnd
  exact wpAny_bind (wpAny_attempt (D.item i s _ _ hi st fun x g tk a b c => wpAny_pure (h x g tk a b c)))
theorem noe_done {it : Addr} {fp : List Addr} {n : Nat} {P : Nat → Value → Prop} {St : Nat → Heap → Prop} {Q : Option Value → Shared → Prop} (D : Draws prog w A it fp n P St) (st : St n s.heap)
    (h : ∀ g, Heap.ExtBut it s.heap g → Q none { s with heap := g }) : wpAny (model prog w) A (Builtin.SmallTypes.nextOrEnd (.ref it)) Q E s := by
  unfold Builtin.SmallTypes.nextOrEnd
  refine wpAny_bind (wpAny_attempt (D.done s _ _ st fun g e a b => ?_))
  obtain ⟨o, ho, hc⟩ := b
  exact wpAny_bind (wpAny_isInstance (T := "StopIteration") (b := true) ⟨o, ho, hc⟩ isSubtype_stop (wpAny_pure (h g a)))
end
section
variable {prog : Program} {w : World} {A : Around} {E : Value → Shared → Prop} {s : Shared} {z TI TO i1 i2 : Addr} {fp1 fp2 : List Addr} {n i : Nat} {P1 P2 : Nat → Value → Prop} {St1 St2 : Nat → Heap → Prop} {a1 a2 : Value}
theorem zs_item {Q : Value → Shared → Prop} (S : ZipSep2 z TI TO i1 i2 fp1 fp2) (D1 : Draws prog w A i1 fp1 n P1 St1) (D2 : Draws prog w A i2 fp2 n P2 St2)
    (hz : ZS s.heap z TI TO .none) (hTI : IsTupOf2 s.heap TI (.ref i1) (.ref i2)) (hTO : IsTupOf2 s.heap TO a1 a2) (st1 : St1 i s.heap) (st2 : St2 i s.heap) (hi : i < n)
    (hQ : ∀ x1 x2 h' tk, P1 i x1 → P2 i x2 → ZS h' z TI TO (rawInt s.heap.objs.size) → IsTupOf2 h' TO x1 x2 → St1 (i + 1) h' → St2 (i + 1) h' → IsTupOf2 h' s.heap.objs.size x1 x2 → h'.objs.size = s.heap.objs.size + 1 →
      (∀ c o, c ≠ z → c ≠ TO → c ≠ i1 → c ≠ i2 → s.heap.get? c = some o → h'.get? c = some o) → Q (.ref s.heap.objs.size) { s with heap := h', toks := tk }) :
    wpAny (model prog w) A (Builtin.«zip.__next__» ⟨[.ref z], []⟩) (fun fin s' => ∃ v, fin = .done (.ret v) ∧ Q v s') E s := by
  obtain ⟨hp, gl, dd, t0, os⟩ := s
  show wpAny _ _ (field (.ref z) 2 >>= _) _ _ _
  refine wpAny_bind (wpAny_field hz rfl (x := .bool true) rfl ?_)
  show wpAny _ _ (field (.ref z) 3 >>= _) _ _ _
  refine wpAny_bind (wpAny_field hz rfl (x := .ref TI) rfl (wpAny_bind (wpAny_seqItems hTI rfl ?_)))
  show wpAny _ _ (Builtin.SmallTypes.ownedTupleIsFree (.ref z) >>= _) _ _ _
  refine wpAny_bind ?_
  unfold Builtin.SmallTypes.ownedTupleIsFree
  refine wpAny_bind (wpAny_field hz rfl (x := .none) rfl (wpAny_pure ?_))
  simp only [if_true]
  refine wpAny_bind (wpAny_rule (wpAny_bind (wpAny_field hz rfl (x := .ref TO) rfl (wpAny_bind (wpAny_setField_rec hz (by simp) fun g0 hz0 hs0 => ?_)))))
  have hz0 : ZS g0 z TI TO .ellipsis := hz0
  have hs0 : Heap.SameBut z hp g0 := hs0
  refine wpAny_bind ?_
  simp only [List.zipIdx_cons, List.zipIdx_nil, List.forIn_cons, List.forIn_nil]
  refine wpAny_bind (wpAny_bind (wpAny_onRaise ?_))
  show wpAny _ _ (Builtin.SmallTypes.nextOrEnd (.ref i1)) _ _ ⟨g0, gl, dd, t0, os⟩
  refine noe_item D1 hi (D1.over st1 hs0 S.zf1) fun x1 p1 tk1 hx1 sn1 hp1 => ?_
  have hp1 : Heap.SameBut i1 g0 p1 := hp1
  have hU1 : IsTupOf2 p1 TO a1 a2 := hp1.extBut _ _ S.Ti1 (hs0.extBut _ _ S.TOz hTO)
  refine wpAny_bind (wpAny_seqItems (s := ⟨p1, gl, dd, tk1, os⟩) hU1 rfl (wpAny_bind (updateSeq_IsTupOf2 (s := ⟨p1, gl, dd, tk1, os⟩) hU1 fun g1 hT1 hs1 => ?_)))
  have hT1 : IsTupOf2 g1 TO x1 a2 := hT1
  have hs1 : Heap.SameBut TO p1 g1 := hs1
  refine wpAny_bind (wpAny_letGo (wpAny_pure (wpAny_bind (wpAny_bind (wpAny_onRaise ?_)))))
  show wpAny _ _ (Builtin.SmallTypes.nextOrEnd (.ref i2)) _ _ ⟨g1, gl, dd, tk1, os⟩
  refine noe_item D2 hi (D2.over (D2.over (D2.over st2 hs0 S.zf2) hp1 S.sep1_2) hs1 S.Tf2) fun x2 p2 tk2 hx2 sn2 hp2 => ?_
  have hp2 : Heap.SameBut i2 g1 p2 := hp2
  have hU2 : IsTupOf2 p2 TO x1 a2 := hp2.extBut _ _ S.Ti2 hT1
  refine wpAny_bind (wpAny_seqItems (s := ⟨p2, gl, dd, tk2, os⟩) hU2 rfl (wpAny_bind (updateSeq_IsTupOf2 (s := ⟨p2, gl, dd, tk2, os⟩) hU2 fun g2 hT2 hs2 => ?_)))
  have hT2 : IsTupOf2 g2 TO x1 x2 := hT2
  have hs2 : Heap.SameBut TO p2 g2 := hs2
  refine wpAny_bind (wpAny_letGo (wpAny_pure (wpAny_pure (wpAny_bind (wpAny_seqItems (s := ⟨g2, gl, dd, tk2, os⟩) hT2 rfl (wpAny_bind (wpAny_newTuple ?_)))))))
  have hsz : g2.objs.size = hp.objs.size := by rw [hs2.1, hp2.1, hs1.1, hp1.1, hs0.1]
  have hzz : ZS g2 z TI TO .ellipsis := hs2.extBut _ _ S.TOz.symm (hp2.extBut _ _ S.zi2 (hs1.extBut _ _ S.TOz.symm (hp1.extBut _ _ S.zi1 hz0)))
  have hkk : ∀ c o, c ≠ z → c ≠ TO → c ≠ i1 → c ≠ i2 → hp.get? c = some o → g2.get? c = some o := fun c o cz cT c1 c2 e =>
    hs2.extBut _ _ cT (hp2.extBut _ _ c2 (hs1.extBut _ _ cT (hp1.extBut _ _ c1 (hs0.extBut _ _ cz e))))
  have hj1 : St1 (i + 1) g2 := D1.over (D1.over (D1.over sn1 hs1 S.Tf1) hp2 S.sep2_1) hs2 S.Tf1
  have hj2 : St2 (i + 1) g2 := D2.over sn2 hs2 S.Tf2
  have hzlt : z < g2.objs.size := Heap.lt_size hzz
  show wpAny _ _ (Builtin.SmallTypes.ownedTupleHandOut (.ref z) (.ref g2.objs.size) >>= _) _ _ ⟨g2.push { cls := .type "tuple", data := .seq #[x1, x2] }, gl, dd, tk2, os⟩
  refine wpAny_bind ?_
  unfold Builtin.SmallTypes.ownedTupleHandOut
  have hz6 : ZS (g2.push { cls := .type "tuple", data := .seq #[x1, x2] }) z TI TO .ellipsis := Heap.get?_push_of_some _ hzz
  refine wpAny_bind (wpAny_setField_rec hz6 (by simp) fun h7 hz7 hs7 => ?_)
  have hz7 : ZS h7 z TI TO (rawInt g2.objs.size) := hz7
  refine wpAny_setField_rec hz7 (by simp) fun h8 hz8 hs8 => ?_
  have hz8 : ZS h8 z TI TO (rawInt g2.objs.size) := hz8
  have hs7 : Heap.SameBut z (g2.push { cls := .type "tuple", data := .seq #[x1, x2] }) h7 := hs7
  have hs8 : Heap.SameBut z h7 h8 := hs8
  have up : ∀ c o, c ≠ z → g2.get? c = some o → h8.get? c = some o := fun c o c1 e => hs8.extBut _ _ c1 (hs7.extBut _ _ c1 (Heap.get?_push_of_some _ e))
  have hT8 : IsTupOf2 h8 g2.objs.size x1 x2 := hs8.extBut _ _ (Nat.ne_of_gt hzlt) (hs7.extBut _ _ (Nat.ne_of_gt hzlt) (Heap.get?_push_size _ rfl))
  have hz9 : h8.objs.size = g2.objs.size + 1 := by rw [hs8.1, hs7.1, Heap.size_push]
  rw [hsz] at hz8 hT8 hz9
  refine wpAny_pure ⟨_, rfl, ?_⟩
  show Q (.ref g2.objs.size) ⟨h8, gl, dd, tk2, os⟩
  rw [hsz]
  exact hQ x1 x2 h8 tk2 hx1 hx2 hz8 (up _ _ S.TOz hT2) (D1.frame _ _ _ hj1 fun b hb o e => up b o (fun q => S.zf1 (q ▸ hb)) e) (D2.frame _ _ _ hj2 fun b hb o e => up b o (fun q => S.zf2 (q ▸ hb)) e) hT8 hz9 fun c o cz cT c1 c2 e => up c o cz (hkk c o cz cT c1 c2 e)
theorem stop_ok {Q : Fin → Shared → Prop} (hh : A.handled = none) (h : ∀ h' e, (∀ c o, s.heap.get? c = some o → h'.get? c = some o) → (∃ o, h'.get? e = some o ∧ o.cls = .type "StopIteration") → E (.ref e) { s with heap := h' }) :
    wpAny (model prog w) A (Builtin.SmallTypes.stopIteration (α := Fin)) Q E s := by
  unfold Builtin.SmallTypes.stopIteration
  refine wpAny_bind ?_
  simp only [newExc, newTuple]
  refine wpAny_bind (wpAny_newObj_type ?_ (by size_fits))
  refine wpAny_bind (m := firstArgMember _ _) (wpAny_of_eq (a := Value.none) (by first | rfl | (simp only [firstArgMember]; rfl)) ?_)
  refine wpAny_newObj_type ?_ (by size_fits)
  simp only [raiseNew]
  refine wpAny_bind (wpAny_handled ?_)
  rw [hh]
  refine wpAny_bind (wpAny_pure (wpAny_throw ?_))
  exact h _ _ (fun c o e => Heap.get?_push_of_some _ (Heap.get?_push_of_some _ e)) ⟨_, Heap.get?_push_size _ rfl, rfl⟩
theorem zs_end {Q : Fin → Shared → Prop} (hh : A.handled = none) (S : ZipSep2 z TI TO i1 i2 fp1 fp2) (D1 : Draws prog w A i1 fp1 n P1 St1) (D2 : Draws prog w A i2 fp2 n P2 St2)
    (hz : ZS s.heap z TI TO .none) (hTI : IsTupOf2 s.heap TI (.ref i1) (.ref i2)) (hTO : IsTupOf2 s.heap TO a1 a2) (st1 : St1 n s.heap) (st2 : St2 n s.heap)
    (hE : ∀ h' tk e, (∀ c o, c ≠ z → c ≠ TO → c ≠ i1 → c ≠ i2 → s.heap.get? c = some o → h'.get? c = some o) → (∃ o, h'.get? e = some o ∧ o.cls = .type "StopIteration") → E (.ref e) { s with heap := h', toks := tk }) :
    wpAny (model prog w) A (Builtin.«zip.__next__» ⟨[.ref z], []⟩) Q E s := by
  obtain ⟨hp, gl, dd, t0, os⟩ := s
  show wpAny _ _ (field (.ref z) 2 >>= _) _ _ _
  refine wpAny_bind (wpAny_field hz rfl (x := .bool true) rfl ?_)
  show wpAny _ _ (field (.ref z) 3 >>= _) _ _ _
  refine wpAny_bind (wpAny_field hz rfl (x := .ref TI) rfl (wpAny_bind (wpAny_seqItems hTI rfl ?_)))
  show wpAny _ _ (Builtin.SmallTypes.ownedTupleIsFree (.ref z) >>= _) _ _ _
  refine wpAny_bind ?_
  unfold Builtin.SmallTypes.ownedTupleIsFree
  refine wpAny_bind (wpAny_field hz rfl (x := .none) rfl (wpAny_pure ?_))
  simp only [if_true]
  refine wpAny_bind (wpAny_rule (wpAny_bind (wpAny_field hz rfl (x := .ref TO) rfl (wpAny_bind (wpAny_setField_rec hz (by simp) fun g0 hz0 hs0 => ?_)))))
  have hz0 : ZS g0 z TI TO .ellipsis := hz0
  have hs0 : Heap.SameBut z hp g0 := hs0
  refine wpAny_bind ?_
  simp only [List.zipIdx_cons, List.zipIdx_nil, List.forIn_cons, List.forIn_nil]
  refine wpAny_bind (wpAny_bind (wpAny_onRaise ?_))
  show wpAny _ _ (Builtin.SmallTypes.nextOrEnd (.ref i1)) _ _ ⟨g0, gl, dd, t0, os⟩
  refine noe_done D1 (D1.over st1 hs0 S.zf1) fun p1 hp1 => ?_
  have hp1 : Heap.ExtBut i1 g0 p1 := hp1
  have hzq : ZS p1 z TI TO .ellipsis := hp1 _ _ S.zi1 hz0
  refine wpAny_bind (wpAny_setField_rec (s := ⟨p1, gl, dd, t0, os⟩) hzq (by simp) fun g1 hz1 hs1 => ?_)
  have hs1 : Heap.SameBut z p1 g1 := hs1
  refine wpAny_bind ?_
  show wpAny _ _ (forIn [(Value.ref i2, 1)] PUnit.unit _ >>= _) _ _ _
  refine wpAny_bind ?_
  simp only [List.forIn_cons, List.forIn_nil]
  refine wpAny_bind ?_
  have hk1 : ∀ c o, c ≠ z → c ≠ TO → c ≠ i1 → hp.get? c = some o → g1.get? c = some o := fun c o cz cT c1 e => hs1.extBut _ _ cz (hp1 _ _ c1 (hs0.extBut _ _ cz e))
  have st2' : St2 n g1 := D2.over (D2.frame _ _ _ (D2.over st2 hs0 S.zf2) fun b hb o e => hp1 _ _ (fun q => S.sep1_2 (q ▸ hb)) e) hs1 S.zf2
  refine wpAny_bind (noe_done (s := ⟨g1, gl, dd, t0, os⟩) D2 st2' fun g2 hg2 => ?_)
  have hg2 : Heap.ExtBut i2 g1 g2 := hg2
  simp only [Option.isSome, Bool.false_eq_true, if_false]
  refine wpAny_pure ?_
  refine wpAny_pure ?_
  refine wpAny_bind (wpAny_rule (stop_ok hh fun h' e hk he => ?_))
  exact hE h' _ e (fun c o cz cT c1 c2 x => hk c o (hg2 _ _ c2 (hk1 c o cz cT c1 x))) he
theorem zs_nextI {Q : Option Value → Shared → Prop} (S : ZipSep2 z TI TO i1 i2 fp1 fp2) (D1 : Draws prog w A.in1 i1 fp1 n P1 St1) (D2 : Draws prog w A.in1 i2 fp2 n P2 St2)
    (hz : ZS s.heap z TI TO .none) (hTI : IsTupOf2 s.heap TI (.ref i1) (.ref i2)) (hTO : IsTupOf2 s.heap TO a1 a2) (st1 : St1 i s.heap) (st2 : St2 i s.heap) (hi : i < n)
    (hQ : ∀ x1 x2 h' tk, P1 i x1 → P2 i x2 → ZS h' z TI TO (rawInt s.heap.objs.size) → IsTupOf2 h' TO x1 x2 → St1 (i + 1) h' → St2 (i + 1) h' → IsTupOf2 h' s.heap.objs.size x1 x2 → h'.objs.size = s.heap.objs.size + 1 →
      (∀ c o, c ≠ z → c ≠ TO → c ≠ i1 → c ≠ i2 → s.heap.get? c = some o → h'.get? c = some o) → Q (some (.ref s.heap.objs.size)) { s with heap := h', toks := tk }) :
    wpAny (model prog w) A (pyNext (.ref z)) Q E s := by
  have hT : s.TypeIs (.ref z) "zip" := ⟨_, hz, rfl⟩
  unfold pyNext
  refine wpAny_bind (wpAny_attempt (wpAny_callSpecial?_slot (name := Str.ofString "__next__") hT F.slot_zip_next (wpAny_call_entry F.slot_zip_next hT F.entry_zip_next ?_ (F.args_zip_next_1 _))))
  exact zs_item S D1 D2 hz hTI hTO st1 st2 hi fun x1 x2 h' tk y1 y2 b1 b2 d1 d2 b5 b6 b7 => wpAny_pure (hQ x1 x2 h' tk y1 y2 b1 b2 d1 d2 b5 b6 b7)
theorem zs_nextE {Q : Option Value → Shared → Prop} (hh : A.in1.handled = none) (S : ZipSep2 z TI TO i1 i2 fp1 fp2) (D1 : Draws prog w A.in1 i1 fp1 n P1 St1) (D2 : Draws prog w A.in1 i2 fp2 n P2 St2)
    (hz : ZS s.heap z TI TO .none) (hTI : IsTupOf2 s.heap TI (.ref i1) (.ref i2)) (hTO : IsTupOf2 s.heap TO a1 a2) (st1 : St1 n s.heap) (st2 : St2 n s.heap)
    (hQ : ∀ h' tk, (∀ c o, c ≠ z → c ≠ TO → c ≠ i1 → c ≠ i2 → s.heap.get? c = some o → h'.get? c = some o) → Q none { s with heap := h', toks := tk }) : wpAny (model prog w) A (pyNext (.ref z)) Q E s := by
  have hT : s.TypeIs (.ref z) "zip" := ⟨_, hz, rfl⟩
  unfold pyNext
  refine wpAny_bind (wpAny_attempt (wpAny_callSpecial?_slot (name := Str.ofString "__next__") hT F.slot_zip_next (wpAny_call_entry F.slot_zip_next hT F.entry_zip_next ?_ (F.args_zip_next_1 _))))
  refine zs_end hh S D1 D2 hz hTI hTO st1 st2 fun h' tk e hk he => ?_
  obtain ⟨o, ho, hc⟩ := he
  exact wpAny_bind (wpAny_isInstance (T := "StopIteration") (b := true) ⟨o, ho, hc⟩ isSubtype_stop (wpAny_pure (hQ _ _ hk)))
end

section
variable {prog : Program} {w : World} {A : Around} {E : Value → Shared → Prop} {s : Shared}
theorem zs_go {elts : List Expr} {kk : Nat} {pos : Pos} {z TI TO T : Addr} {Q : Unit → Shared → Prop} (hz : ZS s.heap z TI TO (rawInt T))
    (hQ : ∀ h', ZS h' z TI TO .none → Heap.SameBut z s.heap h' → Q () { s with heap := h' }) : wpAny (model prog w) A (letOwnedTupleGo (.Tuple elts kk pos) (.ref z) (.ref T)) Q E s := by
  unfold letOwnedTupleGo
  refine wpAny_bind (wpAny_load hz ?_)
  show wpAny _ _ (if (["enumerate", "zip", "dict_itemiterator", "dict_reverseitemiterator", "odict_iterator", "itertools.zip_longest", "itertools.pairwise"].contains "zip" && (#[rawInt T, .bool false, .bool true, .ref TI, .ref TO] : Array Value)[0]? == some (rawInt T)) = true then _ else _) Q E s
  rw [if_pos (by simp)]
  refine wpAny_bind (wpAny_rule ?_)
  exact wpAny_setField_rec hz (by simp) fun h' hz' hs' => hQ h' hz' hs'
theorem zs_iter {z TI TO : Addr} {f0 : Value} {Q : Value → Shared → Prop} (hz : ZS s.heap z TI TO f0) (h : Q (.ref z) s) : wpAny (model prog w) A (pyIter (.ref z)) Q E s := by
  have hT : s.TypeIs (.ref z) "zip" := ⟨_, hz, rfl⟩
  exact wpAny_pyIter_slot hT F.slot_zip_iter (wpAny_call_entry F.slot_zip_iter hT F.entry_zip_iter (wpAny_pure ⟨_, rfl, "zip", _, hT, F.slot_zip_next.lookup, h⟩) (F.args_zip_iter_1 _))
end
theorem tc_zs (a b : Value) : checkTypeCall "zip" ⟨[a, b], [(Str.ofString "strict", .bool true)]⟩ = pure () := by kernel_rfl
theorem nc_zs (a b : Value) : checkBuiltinCall "zip.__new__" ⟨[.type "zip", a, b], [(Str.ofString "strict", .bool true)]⟩ = pure () := by kernel_rfl
theorem ai_zs (obj a b : Value) : argsOk "object.__init__" ⟨[obj, a, b], [(Str.ofString "strict", .bool true)]⟩ := by unfold argsOk; kernel_rfl
abbrev zsZ (h : Heap) (o1 o2 : Obj) : Heap := (gzO2 h o1 o2).push { cls := .type "zip", data := .fields #[.none, .bool false, .bool true, .ref ((h.push o1).push o2).objs.size, .ref (gzT2 h o1 o2).objs.size] }
theorem meets_zs {v1 v2 : Value} {o1 o2 : Obj} {H1 H2 : Heap → Prop} (B1 : Begins v1 o1 H1) (B2 : Begins v2 o2 H2) :
    Meets (Builtin.«zip.__new__» ⟨[.type "zip", v1, v2], [(Str.ofString "strict", .bool true)]⟩) (fun _ R s => (H1 s.heap ∧ H2 s.heap) ∧ R (.ok (.ret (.ref (gzO2 s.heap o1 o2).objs.size))) { s with heap := zsZ s.heap o1 o2 }) :=
  .of_wp fun prog w A R s h => by
    obtain ⟨hp, g, d, tk, os⟩ := s; obtain ⟨⟨h1, h2⟩, h⟩ := h
    have hsub := sub_zip
    have e1 : (Str.ofString "strict" != ("strict" : Str)) = false := by decide +kernel
    have q1 : ∀ {A' : Around} {E : Value → Shared → Prop} {Q : Value → Shared → Prop}, Q (.ref hp.objs.size) ⟨(hp.push o1), g, d, tk, os⟩ → wpAny (model prog w) A' (pyIter v1) Q E ⟨hp, g, d, tk, os⟩ :=
      fun q => B1.iter prog w _ _ ⟨hp, g, d, tk, os⟩ _ (B1.keeps _ _ h1 fun b o' e => e) q
    have q2 : ∀ {A' : Around} {E : Value → Shared → Prop} {Q : Value → Shared → Prop}, Q (.ref (hp.push o1).objs.size) ⟨((hp.push o1).push o2), g, d, tk, os⟩ → wpAny (model prog w) A' (pyIter v2) Q E ⟨(hp.push o1), g, d, tk, os⟩ :=
      fun q => B2.iter prog w _ _ ⟨(hp.push o1), g, d, tk, os⟩ _ (B2.keeps _ _ h2 fun b o' e => (Heap.get?_push_of_some _ e)) q
    wp_walk using q1, q2
    exact ⟨_, rfl, h⟩
section
variable {prog : Program} {w : World} {A : Around} {E : Value → Shared → Prop} {s : Shared}
theorem zs_begins {v1 v2 : Value} {o1 o2 : Obj} {H1 H2 : Heap → Prop} {Q : Value → Shared → Prop} (B1 : Begins v1 o1 H1) (B2 : Begins v2 o2 H2) (h1 : H1 s.heap) (h2 : H2 s.heap)
    (h : ∀ h', ZS h' (s.heap.objs.size + 4) (s.heap.objs.size + 2) (s.heap.objs.size + 3) .none → IsTupOf2 h' (s.heap.objs.size + 2) (.ref s.heap.objs.size) (.ref (s.heap.objs.size + 1)) →
      IsTupOf2 h' (s.heap.objs.size + 3) .none .none → h'.get? s.heap.objs.size = some o1 → h'.get? (s.heap.objs.size + 1) = some o2 → h'.objs.size = s.heap.objs.size + 5 →
      (∀ c o, s.heap.get? c = some o → h'.get? c = some o) → Q (.ref (s.heap.objs.size + 4)) { s with heap := h' }) :
    wpAny (model prog w) A (call (.type "zip") [v1, v2] [(Str.ofString "strict", .bool true)]) Q E s := by
  refine callType_newKw F.called_zip (by decide) (tc_zs _ _) (nc_zs _ _) (fun obj => ai_zs obj _ _) F.entry_zip_new (meets_zs B1 B2) ⟨⟨h1, h2⟩, ?_⟩
  have z1 : (s.heap.push o1).objs.size = s.heap.objs.size + 1 := by rw [Heap.size_push]
  have z2 : ((s.heap.push o1).push o2).objs.size = s.heap.objs.size + 2 := by rw [Heap.size_push, z1]
  have zT : (gzT2 s.heap o1 o2).objs.size = s.heap.objs.size + 3 := by rw [Heap.size_push, z2]
  have zO : (gzO2 s.heap o1 o2).objs.size = s.heap.objs.size + 4 := by rw [Heap.size_push, zT]
  have zZ : (zsZ s.heap o1 o2).objs.size = s.heap.objs.size + 5 := by rw [Heap.size_push, zO]
  have gZ : (zsZ s.heap o1 o2).get? (gzO2 s.heap o1 o2).objs.size = some { cls := .type "zip", data := .fields #[.none, .bool false, .bool true, .ref ((s.heap.push o1).push o2).objs.size, .ref (gzT2 s.heap o1 o2).objs.size] } := Heap.get?_push_size _ rfl
  have gO : (zsZ s.heap o1 o2).get? (gzT2 s.heap o1 o2).objs.size = some { cls := .type "tuple", data := .seq #[.none, .none] } := Heap.get?_push_of_some _ (Heap.get?_push_size _ rfl)
  have gT : (zsZ s.heap o1 o2).get? ((s.heap.push o1).push o2).objs.size = some { cls := .type "tuple", data := .seq #[.ref s.heap.objs.size, .ref (s.heap.push o1).objs.size] } := Heap.get?_push_of_some _ (Heap.get?_push_of_some _ (Heap.get?_push_size _ rfl))
  have g1 : (zsZ s.heap o1 o2).get? s.heap.objs.size = some o1 := Heap.get?_push_of_some _ (Heap.get?_push_of_some _ (Heap.get?_push_of_some _ (Heap.get?_push_of_some _ (Heap.get?_push_size _ B1.free))))
  have g2 : (zsZ s.heap o1 o2).get? (s.heap.push o1).objs.size = some o2 := Heap.get?_push_of_some _ (Heap.get?_push_of_some _ (Heap.get?_push_of_some _ (Heap.get?_push_size _ B2.free)))
  rw [zO, zT, z2] at gZ
  rw [zT] at gO
  rw [z2, z1] at gT
  rw [z1] at g2
  show _ ∧ _
  rw [zO]
  exact ⟨⟨_, gZ, rfl⟩, h _ gZ gT gO g1 g2 zZ fun c o e => Heap.get?_push_of_some _ (Heap.get?_push_of_some _ (Heap.get?_push_of_some _ (Heap.get?_push_of_some _ (Heap.get?_push_of_some _ e))))⟩
theorem callWith_tyKw {M : Model} {A : Around} {E : Value → Shared → Prop} {s : Shared} {pos : Pos} {T : String} {x : Sem Value} {rest : List (Bool × Sem Value)} {kws : List (Option Str × Sem Value)} {Q : Value → Shared → Prop}
    (hplain : (((false, x) :: rest).any (·.1) || kws.any (·.1.isNone)) = false) (hall : kws.all (·.1.isSome) = true)
    (h : wpAny M A (spliced ((false, x) :: rest)) (fun vs s₁ => wpAny M A (evalAll (kws.map (·.2))) (fun ks s₂ => wpAny M A (call (.type T) vs ((kws.filterMap (·.1)).zip ks)) Q E s₂) E s₁) E s) :
    wpAny M A (callWith pos (.type T) [] ((false, x) :: rest) kws) Q E s := by
  unfold callWith
  refine wpAny_bind (wpAny_holding (wpAny_mono (evalArgs_kw (Q := fun a s₁ => wpAny M A (call (.type T) a.pos a.kw) Q E s₁) hall h) (fun a s₁ h₁ => wpAny_bind (wpAny_standAt ?_)) fun _ _ x => x))
  simp only [hplain]
  refine wpAny_bind (wpAny_pure ?_)
  exact wpAny_bind (wpAny_mono h₁ (fun r s₂ hr => wpAny_bind (wpAny_holding (wpAny_point (wpAny_pure hr)))) fun _ _ x => x)
end
/-- the two as they stand at each turn, as many on both sides -/
def Itzt (K : PySem.W.Frag) (p q : Zs) : It :=
  ⟨fun i H => ∃ (xs ys : List V) (x y : V), p.at_ K H xs ∧ q.at_ K H ys ∧ xs.length = ys.length ∧ xs[i]? = some x ∧ ys[i]? = some y,
    fun i H v H' => ∃ T x y, v = .ref T ∧ H T = none ∧ H' = upd H T (.tup [x, y]) ∧ (∀ xs, p.at_ K H xs → xs[i]? = some x) ∧ ∀ ys, q.at_ K H ys → ys[i]? = some y,
    fun i H => ∃ xs ys : List V, p.at_ K H xs ∧ q.at_ K H ys ∧ xs.length = ys.length ∧ i = xs.length⟩
theorem turn_zt {P : Program} {w : World} {K : PySem.W.Frag} {elts : List Expr} {kk : Nat} {tpos : Pos} {p q : Zs} {z TI TO i1 i2 : Addr} (D : ZipSep2 z TI TO i1 i2 (i1 :: p.src) (i2 :: q.src)) (ne1 : ∀ a ∈ p.src, a ≠ i1) (ne2 : ∀ a ∈ q.src, a ≠ i2) :
    Turn P w K (.Tuple elts kk tpos) (Itzt K p q) [z, TI, TO, i1, i2] z (fun i h => ZS h z TI TO .none ∧ IsPair h TI (.ref i1) (.ref i2) ∧ (∃ x y, IsPair h TO x y) ∧ p.st i1 i h ∧ q.st i2 i h) where
  mem := by simp
  obj := fun i h st c hc => by
    obtain ⟨hz, hTI, ⟨x, y, hTO⟩, h1, h2⟩ := st
    have e' : c = z ∨ c = TI ∨ c = TO ∨ c = i1 ∨ c = i2 := by simpa using hc
    rcases e' with q | q | q | q | q
    · rw [q]; exact ⟨_, hz, fun v q => nomatch q⟩
    · rw [q]; exact ⟨_, hTI, fun v q => nomatch q⟩
    · rw [q]; exact ⟨_, hTO, fun v q => nomatch q⟩
    · rw [q]; exact (Zs.st_obj h1)
    · rw [q]; exact (Zs.st_obj h2)
  keep := fun i h h' st k => by
    obtain ⟨hz, hTI, ⟨x, y, hTO⟩, h1, h2⟩ := st
    exact ⟨k z (by simp) _ hz, k TI (by simp) _ hTI, ⟨x, y, k TO (by simp) _ hTO⟩, Zs.st_at h1 fun o q => k i1 (by simp) o q, Zs.st_at h2 fun o q => k i2 (by simp) o q⟩
  item := by
    intro X hP hw hK hc i pins s σ H E I hf st hg
    subst hP hw hK
    obtain ⟨hz, hTI, ⟨x0, y0, hTO⟩, h1, h2⟩ := st
    obtain ⟨xs, ys, x, y, hqx, hqy, hxy, hx, hy⟩ := hg
    have hh : X.A.in1.handled = none := I.ok.hd hc
    obtain ⟨P1, St1, D1, s1, g1, k1⟩ := p.draws I hh hqx h1 ne1
    obtain ⟨P2, St2, D2, s2, g2, k2⟩ := q.draws I hh hqy h2 ne2
    have hzl : z < s.heap.objs.size := Heap.lt_size hz
    refine zs_nextI D D1 (hxy ▸ D2) hz hTI hTO s1 s2 (List.getElem?_eq_some_iff.mp hx).1 fun u u2 h' tk y1 y2 z' TO' h1' h2' hT hsz hk => ?_
    obtain ⟨x', ex, ru⟩ := g1 i u y1
    rw [hx] at ex; cases ex
    obtain ⟨y', ey, ru2⟩ := g2 i u2 y2
    rw [hy] at ey; cases ey
    refine ⟨_, rfl, zs_go (s := { s with heap := h', toks := tk }) z' fun h'' z'' sb => ?_⟩
    have hT2 : h''.get? s.heap.objs.size = some { cls := .type "tuple", data := .seq #[u, u2] } := (sb.2 _ (Nat.ne_of_gt hzl)).trans hT
    have new : ObjOk X.prog X.w (upd H s.heap.objs.size (.tup [x, y])) h'' s.heap.objs.size (.tup [x, y]) :=
      ⟨by show 2 ≤ sizeLine; decide, [u, u2], .cons ru (.cons ru2 .nil), ⟨_, hT2, rfl, _, rfl⟩⟩
    have I1 : Inv X pins σ (upd H s.heap.objs.size (.tup [x, y])) { s with heap := h'', toks := tk } :=
      I.turnedNew (t' := tk) (ch := [z, TI, TO, i1, i2]) (fun c o hb q => (sb.2 c (fun q' => hb (by simp [q']))).trans (hk c o (fun q' => hb (by simp [q'])) (fun q' => hb (by simp [q'])) (fun q' => hb (by simp [q'])) (fun q' => hb (by simp [q'])) q)) hf (Nat.le_refl _) new
    refine ⟨.ref s.heap.objs.size, _, I1, rfl, ⟨_, x, y, rfl, I.hok.fresh (Nat.le_refl _), rfl, fun l hl => by rw [Zs.inj I hl hqx]; exact hx, fun l hl => by rw [Zs.inj I hl hqy]; exact hy⟩, ⟨z'', ?_, ⟨u, u2, ?_⟩, ?_, ?_⟩, fun c hcm => ?_⟩
    · exact (sb.2 _ D.TIz).trans (hk _ _ D.TIz D.TITO D.TIi1 D.TIi2 hTI)
    · exact (sb.2 _ D.TOz).trans TO'
    · exact Zs.st_at (k1 _ _ h1') fun o q => (sb.2 _ (Ne.symm D.zi1)).trans q
    · exact Zs.st_at (k2 _ _ h2') fun o q => (sb.2 _ (Ne.symm D.zi2)).trans q
    · have hlt : c < s.heap.objs.size := by
        have e' : c = z ∨ c = TI ∨ c = TO ∨ c = i1 ∨ c = i2 := by simpa using hcm
        rcases e' with q | q | q | q | q
        · rw [q]; exact hzl
        · rw [q]; exact Heap.lt_size hTI
        · rw [q]; exact Heap.lt_size hTO
        · rw [q]; obtain ⟨_, e1, _⟩ := (Zs.st_obj h1); exact Heap.lt_size e1
        · rw [q]; obtain ⟨_, e2, _⟩ := (Zs.st_obj h2); exact Heap.lt_size e2
      rw [upd_ne (Nat.ne_of_lt hlt)]
      exact (hf c hcm).1
  done := by
    intro X hP hw hK hc i pins s σ H E I hf st hg
    subst hP hw hK
    obtain ⟨hz, hTI, ⟨x0, y0, hTO⟩, h1, h2⟩ := st
    obtain ⟨xs, ys, hqx, hqy, hxy, rfl⟩ := hg
    have hh : X.A.in1.handled = none := I.ok.hd hc
    obtain ⟨P1, St1, D1, s1, g1, k1⟩ := p.draws I hh hqx h1 ne1
    obtain ⟨P2, St2, D2, s2, g2, k2⟩ := q.draws I hh hqy h2 ne2
    exact zs_nextE hh D D1 (hxy ▸ D2) hz hTI hTO s1 s2 fun h' tk hk => ⟨rfl, I.turnedL (t' := tk) (ch := [z, TI, TO, i1, i2]) (fun c o hb q =>
      hk c o (fun q' => hb (by simp [q'])) (fun q' => hb (by simp [q'])) (fun q' => hb (by simp [q'])) (fun q' => hb (by simp [q'])) q) hf⟩
  self := fun A i s Q E st h => zs_iter st.1 h
def iZt (K : PySem.W.Frag) (ta : TA) : TI := fun σ H R => ta σ H fun vs H1 => ∃ (p q : Zs) (xs ys : List V), vs = [p.val, q.val] ∧ p.at_ K H1 xs ∧ q.at_ K H1 ys ∧ R (Itzt K p q) H1
theorem pi_zt {X : Cx} {e e2 : Expr} {ta : TA} {p pos tpos cp kp : Pos} {elts : List Expr} {kk ck : Nat} (hg : Gl X "zip") (hm : X.mg "zip" = none) (ha : PA X [e, e2] ta)
    (hs : starEach [e, e2] X.env = (false, eval e X.env) :: starEach [e2] X.env := by rfl) (hpl : ((backTo pos (starEach [e, e2] X.env)).any (·.1) || (backToKw pos (keywordEach [⟨some "strict", .Constant (.bool true) ck cp, kp⟩] X.env)).any (·.1.isNone)) = false := by rfl) :
    PI X (.Tuple elts kk tpos) (.Call (.Name "zip" p) [e, e2] [⟨some "strict", .Constant (.bool true) ck cp, kp⟩] pos) (iZt X.K ta) := by
  refine ⟨fun pins s σ H R I h => ?_⟩
  refine wpAny_Call_Name_kw (ld_blt I hg hm PyProof.Rows.boot_zip ?_)
  have ha' := ha.run pos pins s σ H _ I h
  rw [hs] at hpl ha' ⊢
  refine callWith_tyKw (rest := backTo pos (starEach [e2] X.env)) hpl rfl (thn ha' fun us s1 ⟨vs, H1, I1, r1, q1⟩ => ?_)
  have hk : PK X [⟨some "strict", .Constant (.bool true) ck cp, kp⟩] _ := pk_cons pe_bl pk_nil
  refine thn (hk.run pos pins s1 σ H1 (fun zs H2 => zs = [V.bl true] ∧ H2 = H1) I1 ⟨rfl, rfl⟩) fun ws s2 ⟨zs, H2, I2, rz, ez, eH⟩ => ?_
  subst ez eH
  cases rz with
  | cons rb rz =>
  cases rz
  obtain rfl : _ = Value.bool true := rb
  obtain ⟨p', q', xs, ys, ex, hqx, hqy, q⟩ := q1
  subst ex
  cases r1 with
  | cons r rr =>
    cases rr with
    | cons r' rr =>
      cases rr
      obtain ⟨o1, H1', B1, b1, c1⟩ := p'.begins I2 hqx r
      obtain ⟨o2, H2', B2, b2, c2⟩ := q'.begins I2 hqy r'
      have lt1 := p'.lt I2 hqx
      have lt2 := q'.lt I2 hqy
      refine zs_begins B1 B2 b1 b2 fun h' hz hTI hTO h1 h2 hsz hk => zs_iter (s := { s2 with heap := h' }) hz ?_
      have I3 : Inv X pins σ H2 { s2 with heap := h' } := I2.kept (t' := s2.toks) hk
      refine ⟨s2.heap.objs.size + 4, [s2.heap.objs.size + 4, s2.heap.objs.size + 2, s2.heap.objs.size + 3, s2.heap.objs.size, s2.heap.objs.size + 1], _, _, H2, rfl, I3, turn_zt (p := p') (q := q') (zip_sep2 lt1 lt2) (fun a ha => Nat.ne_of_lt (lt1 a ha)) (fun a ha => Nat.ne_of_lt (Nat.lt_succ_of_lt (lt2 a ha))), ⟨hz, hTI, ⟨_, _, hTO⟩, c1 _ _ h1, c2 _ _ h2⟩, fun c hcm => ?_, q⟩
      have e' : c = s2.heap.objs.size + 4 ∨ c = s2.heap.objs.size + 2 ∨ c = s2.heap.objs.size + 3 ∨ c = s2.heap.objs.size ∨ c = s2.heap.objs.size + 1 := by simpa using hcm
      have hle : s2.heap.objs.size ≤ c := by
        rcases e' with z | z | z | z | z
        · rw [z]; exact Nat.le_add_right _ _
        · rw [z]; exact Nat.le_add_right _ _
        · rw [z]; exact Nat.le_add_right _ _
        · rw [z]; exact Nat.le_refl _
        · rw [z]; exact Nat.le_add_right _ _
      exact I2.fpOk hle (I2.hok.fresh hle)
end Lt
/-! what a loop walks -/
namespace Lt
open PySem L2
/-- the iterator gives these items, as long as the lists behind it stand -/
def Itm (K : PySem.W.Frag) (ad : Ad) (J : It) (w : Wd) (xs : List A) (g : Gd) : Prop :=
  ∀ w', Mo w w' → RelS K ad.cls w' → g.ok w'.S → ∀ i : Nat, (xs.length = i → J.stop i w'.H) ∧ ∀ a, xs[i]? = some a → J.go i w'.H ∧ ∀ x H', J.yld i w'.H x H' →
    ∃ w'', w''.H = H' ∧ w''.S = w'.S ∧ Le w' w'' ∧ RelS K ad.cls w'' ∧ RelA K w'' a x
theorem Itm.mono {K : PySem.W.Frag} {ad : Ad} {J : It} {w w' : Wd} {xs : List A} {g : Gd} (h : Itm K ad J w xs g) (m : Mo w w') : Itm K ad J w' xs g := fun u mu => h u (m.trans mu)
theorem Gd.ok_one {n : Nat} {xs : List A} {S : List O} (h : Gd.ok [(n, xs)] S) : S[n]? = some (.lst xs) := h (n, xs) (by simp)
theorem Gd.ok_l {g g' : Gd} {S : List O} (h : Gd.ok (g ++ g') S) : g.ok S := fun p hp => h p (List.mem_append_left _ hp)
theorem Gd.ok_r {g g' : Gd} {S : List O} (h : Gd.ok (g ++ g') S) : g'.ok S := fun p hp => h p (List.mem_append_right _ hp)
/-- a list, as it stands later -/
theorem lst_at {K : PySem.W.Frag} {ad : Ad} {w : Wd} (s : RelS K ad.cls w) {a : A} {v : V} (r : RelA K w a v) {xs : List A} (e : lstO w.S a = some xs) :
    ∃ p, v = .ref p ∧ ∀ w', Mo w w' → RelS K ad.cls w' → (gdA a xs).ok w'.S → ∃ vs, SqL K w'.H p vs ∧ RelAs K w' xs vs := by
  unfold lstO at e
  split at e
  · rename_i ys h
    cases e
    cases a with
    | lst zs =>
      cases h
      obtain ⟨p, vs, rfl, hp, rs⟩ := relA_lst r
      exact ⟨p, rfl, fun w' m s' _ => ⟨vs, .inl (m.rd hp.1 hp.2).1, rs.mono m⟩⟩
    | ref n =>
      obtain ⟨p, e1, rfl⟩ := relA_ref r
      refine ⟨p, rfl, fun w' m s' g => ?_⟩
      obtain ⟨vs, q, rs⟩ := s'.obj n p _ (m.ix e1) (Gd.ok_one g)
      exact ⟨vs, SqL.of q, rs⟩
    | _ => cases h
  · rename_i ys h
    cases e
    cases a with
    | scr zs =>
      cases h
      obtain ⟨p, vs, rfl, hp, rs⟩ := relA_scr r
      refine ⟨p, rfl, fun w' m s' _ => ⟨vs, ?_, rs.mono m⟩⟩
      rcases hp with hp | hp
      · exact .inl (m.rd hp.1 hp.2).1
      · exact .inr hp
    | ref n =>
      simp only [der] at h
      split at h <;> cases h
    | _ => cases h
  · cases e
/-- a tuple -/
def tupO (a : A) : Option (List A) := match a with
  | .tup xs => some xs
  | .ktup xs => some xs
  | _ => none
theorem tup_at {K : PySem.W.Frag} {w : Wd} {a : A} {v : V} (r : RelA K w a v) {xs : List A} (e : tupO a = some xs) :
    ∃ p, v = .ref p ∧ ∃ vs, RelAs K w xs vs ∧ ∀ w', Mo w w' → SqT K w'.H p vs := by
  unfold tupO at e
  split at e
  · cases e
    obtain ⟨p, vs, rfl, hp, rs⟩ := relA_tup r
    exact ⟨p, rfl, vs, rs, fun w' m => .inl (.inl (m.keep p _ hp.1 hp.2).1)⟩
  · cases e
    obtain ⟨p, vs, rfl, hp, rs⟩ := relA_ktup r
    exact ⟨p, rfl, vs, rs, fun w' m => .inr hp⟩
  · cases e
theorem seqO_or {S : List O} {a : A} {xs : List A} (e : seqO S a = some xs) : lstO S a = some xs ∨ tupO a = some xs := by
  cases a <;> simp only [seqO] at e <;> first | (cases e; done) | skip
  · rename_i n
    split at e
    · rename_i ys hS
      cases e
      left; simp only [lstO, der, hS]
    · cases e
  · right; exact e
  · left; exact e
  · left; exact e
  · right; exact e
theorem len_at {α : Type} {xs : List α} {i : Nat} {a : α} (h : xs[i]? = some a) : i < xs.length := (List.getElem?_eq_some_iff.mp h).1
theorem itm_list {K : PySem.W.Frag} {ad : Ad} {w : Wd} {p : Addr} {xs : List A} {g : Gd} (h : ∀ w', Mo w w' → RelS K ad.cls w' → g.ok w'.S → ∃ vs, SqL K w'.H p vs ∧ RelAs K w' xs vs) : Itm K ad (Itl K p) w xs g := by
  intro w' m s gk i
  obtain ⟨vs, q, rs⟩ := h w' m s gk
  refine ⟨fun hi => ⟨vs, q, by rw [← rs.length]; exact Nat.le_of_eq hi⟩, fun a ha => ?_⟩
  obtain ⟨v, e, r⟩ := rs.get ha
  refine ⟨⟨vs, v, q, e⟩, fun x H' y => ?_⟩
  obtain ⟨e1, e2⟩ := y
  have := e2 vs q
  rw [e] at this; cases this
  exact ⟨w', e1.symm, rfl, Le.refl w', s, r⟩
theorem itm_tup {K : PySem.W.Frag} {ad : Ad} {w : Wd} {p : Addr} {xs : List A} {g : Gd} {vs : List V} (rs : RelAs K w xs vs) (h : ∀ w', Mo w w' → SqT K w'.H p vs) : Itm K ad (Itt K p) w xs g := by
  intro w' m s gk i
  have q := h w' m
  have rs := rs.mono m
  refine ⟨fun hi => ⟨vs, q, by rw [← rs.length]; exact Nat.le_of_eq hi⟩, fun a ha => ?_⟩
  obtain ⟨v, e, r⟩ := rs.get ha
  refine ⟨⟨vs, v, q, e⟩, fun x H' y => ?_⟩
  obtain ⟨e1, e2⟩ := y
  have := e2 vs q
  rw [e] at this; cases this
  exact ⟨w', e1.symm, rfl, Le.refl w', s, r⟩
theorem rngA_len (n : Nat) : ∀ lo : Int, (rngA lo n).length = n := by
  induction n with
  | zero => intro lo; rfl
  | succ n ih => intro lo; simp [rngA, ih]
theorem rngA_get (n : Nat) : ∀ (lo : Int) (i : Nat) (a : A), (rngA lo n)[i]? = some a → i < n ∧ a = .int (lo + i) := by
  induction n with
  | zero => intro lo i a h; cases h
  | succ n ih =>
    intro lo i a h
    cases i with
    | zero => cases h; exact ⟨by omega, by simp⟩
    | succ i =>
      obtain ⟨h1, h2⟩ := ih (lo + 1) i a (by simpa [rngA] using h)
      refine ⟨by omega, by rw [h2]; congr 1; push_cast; omega⟩
theorem itm_rng {K : PySem.W.Frag} {ad : Ad} {w : Wd} {lo : Int} {n : Nat} : Itm K ad (Itr lo n) w (rngA lo n) [] := by
  intro w' m s gk i
  refine ⟨fun hi => by rw [rngA_len] at hi; exact Nat.le_of_eq hi, fun a ha => ?_⟩
  obtain ⟨h1, rfl⟩ := rngA_get n lo i a ha
  refine ⟨h1, fun x H' y => ?_⟩
  obtain ⟨e1, rfl⟩ := y
  exact ⟨w', e1.symm, rfl, Le.refl w', s, int_rel⟩
theorem itm_str {K : PySem.W.Frag} {ad : Ad} {w : Wd} {x : List Nat} (o : okS x) : Itm K ad (Its (mkS x)) w (x.map fun c => A.str [c]) [] := by
  intro w' m s gk i
  have hz : (mkS x).cps.size = x.length := by simp [mkS]
  refine ⟨fun hi => by show (mkS x).cps.size ≤ i; rw [hz]; simp at hi; omega, fun a ha => ?_⟩
  have hi := len_at ha
  rw [List.length_map] at hi
  refine ⟨by show i < (mkS x).cps.size; rw [hz]; exact hi, fun v H' y => ?_⟩
  obtain ⟨e1, c, e2, rfl⟩ := y
  rw [← Array.getElem?_toList, mkS_cps] at e2
  rw [List.getElem?_map, e2] at ha
  cases ha
  refine ⟨w', e1.symm, rfl, Le.refl w', s, str_rel (x := [c]) ⟨by show 1 ≤ sizeLine; decide, fun d hd => ?_⟩⟩
  have : d = c := by simpa using hd
  subst this
  exact o.2 d (List.mem_of_getElem? e2)
theorem enumA_get : ∀ (xs : List A) (k : Int) (i : Nat) (a : A), (enumA k xs)[i]? = some a → ∃ x, xs[i]? = some x ∧ a = .tup [.int (k + i), x]
  | [], _, _, _, h => by cases h
  | x :: xs, k, 0, a, h => by cases h; exact ⟨x, rfl, by simp⟩
  | x :: xs, k, i + 1, a, h => by
    obtain ⟨y, h1, h2⟩ := enumA_get xs (k + 1) i a (by simpa [enumA] using h)
    exact ⟨y, by simpa using h1, by rw [h2]; congr 3; push_cast; omega⟩
theorem enumA_len : ∀ (xs : List A) (k : Int), (enumA k xs).length = xs.length
  | [], _ => rfl
  | x :: xs, k => by simp [enumA, enumA_len xs]
theorem itm_enum {K : PySem.W.Frag} {ad : Ad} {w : Wd} {p : Addr} {xs : List A} {g : Gd} (h : ∀ w', Mo w w' → RelS K ad.cls w' → g.ok w'.S → ∃ vs, SqL K w'.H p vs ∧ RelAs K w' xs vs) : Itm K ad (Ite K p) w (enumA 0 xs) g := by
  intro w' m s gk i
  obtain ⟨vs, q, rs⟩ := h w' m s gk
  refine ⟨fun hi => ⟨vs, q, by rw [← rs.length]; rw [enumA_len] at hi; exact Nat.le_of_eq hi⟩, fun a ha => ?_⟩
  obtain ⟨x, hx, rfl⟩ := enumA_get xs 0 i a ha
  obtain ⟨v, e, r⟩ := rs.get hx
  refine ⟨⟨vs, v, q, e⟩, fun y H' hy => ?_⟩
  obtain ⟨T, u, rfl, hT, rfl, e2⟩ := hy
  have := e2 vs q
  rw [e] at this; cases this
  refine ⟨⟨w'.ms, w'.S, upd w'.H T (.tup [.int (i : Nat), v]), w'.hid⟩, rfl, rfl, Le.grow (upd_grow hT), s.grow (upd_grow hT), ?_⟩
  have : (0 : Int) + (i : Nat) = (i : Nat) := by omega
  rw [this]
  exact new_tup s (RelAs.cons int_rel (RelAs.cons r RelAs.nil)) hT
theorem itm_ez {K : PySem.W.Frag} {ad : Ad} {w : Wd} {p : Zs} {xs : List A} {g : Gd} (h : ∀ w', Mo w w' → RelS K ad.cls w' → g.ok w'.S → ∃ vs, p.at_ K w'.H vs ∧ RelAs K w' xs vs) : Itm K ad (Itez K p) w (enumA 0 xs) g := by
  intro w' m s gk i
  obtain ⟨vs, q, rs⟩ := h w' m s gk
  refine ⟨fun hi => ⟨vs, q, by rw [← rs.length, ← hi, enumA_len]⟩, fun a ha => ?_⟩
  obtain ⟨x, hx, rfl⟩ := enumA_get xs 0 i a ha
  obtain ⟨v, e, r⟩ := rs.get hx
  refine ⟨⟨vs, v, q, e⟩, fun y H' hy => ?_⟩
  obtain ⟨T, u, rfl, hT, rfl, e2⟩ := hy
  have := e2 vs q
  rw [e] at this; cases this
  refine ⟨⟨w'.ms, w'.S, upd w'.H T (.tup [.int (i : Nat), v]), w'.hid⟩, rfl, rfl, Le.grow (upd_grow hT), s.grow (upd_grow hT), ?_⟩
  have : (0 : Int) + (i : Nat) = (i : Nat) := by omega
  rw [this]
  exact new_tup s (RelAs.cons int_rel (RelAs.cons r RelAs.nil)) hT
theorem zipA_get : ∀ (xs ys : List A) (i : Nat) (a : A), (zipA xs ys)[i]? = some a → ∃ x y, xs[i]? = some x ∧ ys[i]? = some y ∧ a = .tup [x, y]
  | [], _, _, _, h => by simp [zipA] at h
  | _ :: _, [], _, _, h => by simp [zipA] at h
  | x :: xs, y :: ys, 0, a, h => by cases h; exact ⟨x, y, rfl, rfl, rfl⟩
  | x :: xs, y :: ys, i + 1, a, h => by
    obtain ⟨u, v, h1, h2, h3⟩ := zipA_get xs ys i a (by simpa [zipA] using h)
    exact ⟨u, v, by simpa using h1, by simpa using h2, h3⟩
theorem zipA_len : ∀ (xs ys : List A), (zipA xs ys).length = min xs.length ys.length
  | [], _ => by simp [zipA]
  | _ :: _, [] => by simp [zipA]
  | x :: xs, y :: ys => by simp [zipA, zipA_len xs ys]
theorem itm_zs {K : PySem.W.Frag} {ad : Ad} {w : Wd} {p q : Zs} {xs ys : List A} {g : Gd} (h : ∀ w', Mo w w' → RelS K ad.cls w' → g.ok w'.S → ∃ vs, p.at_ K w'.H vs ∧ RelAs K w' xs vs) (k : ∀ w', Mo w w' → RelS K ad.cls w' → g.ok w'.S → ∃ vs, q.at_ K w'.H vs ∧ RelAs K w' ys vs) :
    Itm K ad (Itzs K p q) w (zipA xs ys) g := by
  intro w' m s gk i
  obtain ⟨vs, q1, rs⟩ := h w' m s gk
  obtain ⟨us, q2, ts⟩ := k w' m s gk
  refine ⟨fun hi => ⟨vs, us, q1, q2, by rw [← rs.length]; rw [zipA_len] at hi; omega, by rw [← ts.length]; rw [zipA_len] at hi; omega, by rw [← rs.length, ← ts.length]; rw [zipA_len] at hi; omega⟩, fun a ha => ?_⟩
  obtain ⟨x, y, hx, hy, rfl⟩ := zipA_get xs ys i a ha
  obtain ⟨v, e1, r1⟩ := rs.get hx
  obtain ⟨u, e2, r2⟩ := ts.get hy
  refine ⟨⟨vs, us, v, u, q1, q2, e1, e2⟩, fun z H' hz => ?_⟩
  obtain ⟨T, v', u', rfl, hT, rfl, f1, f2⟩ := hz
  have := f1 vs q1
  rw [e1] at this; cases this
  have := f2 us q2
  rw [e2] at this; cases this
  exact ⟨⟨w'.ms, w'.S, upd w'.H T (.tup [v, u]), w'.hid⟩, rfl, rfl, Le.grow (upd_grow hT), s.grow (upd_grow hT), new_tup s (RelAs.cons r1 (RelAs.cons r2 RelAs.nil)) hT⟩
theorem itm_zt {K : PySem.W.Frag} {ad : Ad} {w : Wd} {p q : Zs} {xs ys : List A} {g : Gd} (hxy : xs.length = ys.length) (h : ∀ w', Mo w w' → RelS K ad.cls w' → g.ok w'.S → ∃ vs, p.at_ K w'.H vs ∧ RelAs K w' xs vs) (k : ∀ w', Mo w w' → RelS K ad.cls w' → g.ok w'.S → ∃ vs, q.at_ K w'.H vs ∧ RelAs K w' ys vs) :
    Itm K ad (Itzt K p q) w (zipA xs ys) g := by
  intro w' m s gk i
  obtain ⟨vs, q1, rs⟩ := h w' m s gk
  obtain ⟨us, q2, ts⟩ := k w' m s gk
  have hvu : vs.length = us.length := by rw [← rs.length, ← ts.length, hxy]
  refine ⟨fun hi => ⟨vs, us, q1, q2, hvu, by rw [← rs.length]; rw [zipA_len] at hi; omega⟩, fun a ha => ?_⟩
  obtain ⟨x, y, hx, hy, rfl⟩ := zipA_get xs ys i a ha
  obtain ⟨v, e1, r1⟩ := rs.get hx
  obtain ⟨u, e2, r2⟩ := ts.get hy
  refine ⟨⟨vs, us, v, u, q1, q2, hvu, e1, e2⟩, fun z H' hz => ?_⟩
  obtain ⟨T, v', u', rfl, hT, rfl, f1, f2⟩ := hz
  have := f1 vs q1
  rw [e1] at this; cases this
  have := f2 us q2
  rw [e2] at this; cases this
  exact ⟨⟨w'.ms, w'.S, upd w'.H T (.tup [v, u]), w'.hid⟩, rfl, rfl, Le.grow (upd_grow hT), s.grow (upd_grow hT), new_tup s (RelAs.cons r1 (RelAs.cons r2 RelAs.nil)) hT⟩
/-- what zip takes, as it stands later -/
theorem zs_at {K : PySem.W.Frag} {ad : Ad} {w : Wd} (s : RelS K ad.cls w) {a : A} {v : V} (r : RelA K w a v) {xs : List A} (e : zipO w.S a = some xs) :
    ∃ z : Zs, v = z.val ∧ (∃ vs, z.at_ K w.H vs) ∧ ∀ w', Mo w w' → RelS K ad.cls w' → (gdA a xs).ok w'.S → ∃ vs, z.at_ K w'.H vs ∧ RelAs K w' xs vs := by
  have seq : seqO w.S a = some xs → ∃ z : Zs, v = z.val ∧ (∃ vs, z.at_ K w.H vs) ∧ ∀ w', Mo w w' → RelS K ad.cls w' → (gdA a xs).ok w'.S → ∃ vs, z.at_ K w'.H vs ∧ RelAs K w' xs vs := fun e => by
    rcases seqO_or e with e3 | e3
    · obtain ⟨p, rfl, hx⟩ := lst_at s r e3
      obtain ⟨p', vs', ep', h', _⟩ := lstO_rel s r e3
      cases ep'
      exact ⟨.l p, rfl, ⟨vs', h'⟩, hx⟩
    · obtain ⟨p, rfl, vs, rs, hx⟩ := tup_at r e3
      exact ⟨.t p, rfl, ⟨vs, hx w (Mo.refl w)⟩, fun w' m _ _ => ⟨vs, hx w' m, rs.mono m⟩⟩
  cases a with
  | str x =>
    cases e
    obtain ⟨rfl, o⟩ := relA_str r
    have es : x.map (fun c => V.str (mkS [c])) = signsV (mkS x) := by
      unfold signsV
      rw [mkS_cps]; rfl
    exact ⟨.s (mkS x), rfl, ⟨_, rfl⟩, fun w' m _ _ => ⟨_, rfl, by rw [← es]; exact sgn_rel o⟩⟩
  | _ => exact seq e

/-! ### dicts that are walked -/
theorem fdic_at {K : PySem.W.Frag} {ad : Ad} {w : Wd} (s : RelS K ad.cls w) {a : A} {v : V} (r : RelA K w a v) {kvs : List (A × A)} (e : fdicO w.S a = some kvs) :
    ∃ p o ws, v = .ref p ∧ w.H p = some (.frz o (.dK ws)) ∧ ¬ w.Live p ∧ Paired (fun (p : A × A) (q : Key × V) => keyOf p.1 = some q.1 ∧ okKey p.1 ∧ RelA K w p.2 q.2) kvs ws := by
  cases a <;> simp only [fdicO] at e <;> first | (cases e; done) | skip
  rename_i n
  obtain ⟨p, hp, rfl⟩ := relA_ref r
  split at e
  · rename_i kvs' hS
    cases e
    obtain ⟨ws, ob, hH, hw⟩ := s.obj n p _ hp hS
    refine ⟨p, ob, ws, rfl, hH, fun l => ?_, hw⟩
    rcases l with l | ⟨m, o, e1, e2, lv⟩
    · exact (s.hid p l).1 (List.mem_of_getElem? hp)
    · have : m = n := ms_inj s e1 hp
      subst this
      rw [hS] at e2; cases e2; exact lv
  · cases e
theorem pair_at {α β : Type} {F : α → β → Prop} : ∀ {xs : List α} {ys : List β}, Paired F xs ys → ∀ {i : Nat} {x : α}, xs[i]? = some x → ∃ y, ys[i]? = some y ∧ F x y
  | _, _, .nil, _, _, h => by simp at h
  | _, _, .cons r t, 0, x, h => by cases h; exact ⟨_, rfl, r⟩
  | _, _, .cons r t, i + 1, x, h => by
    obtain ⟨y, a, b⟩ := pair_at t (i := i) (by simpa using h)
    exact ⟨y, by simpa using a, b⟩
theorem itm_keys {K : PySem.W.Frag} {ad : Ad} {w : Wd} {p : Addr} {o : Obj} {kvs : List (A × A)} {ws : List (Key × V)} (h : w.H p = some (.frz o (.dK ws))) (l : ¬ w.Live p)
    (hw : Paired (fun (p : A × A) (q : Key × V) => keyOf p.1 = some q.1 ∧ okKey p.1 ∧ RelA K w p.2 q.2) kvs ws) : Itm K ad (Itk p o ws) w (kvs.map (·.1)) [] := by
  intro w' m s _ i
  have h' := (m.keep p _ h l).1
  have hl : kvs.length = ws.length := Paired.length hw
  refine ⟨fun hi => ⟨h', by rw [List.length_map] at hi; omega⟩, fun a ha => ?_⟩
  rw [List.getElem?_map] at ha
  obtain ⟨kv, e1, rfl⟩ := Option.map_eq_some_iff.mp ha
  obtain ⟨q, e2, r1, r2, r3⟩ := pair_at hw e1
  refine ⟨⟨h', by rw [← hl]; exact (List.getElem?_eq_some_iff.mp e1).1⟩, fun x H' y => ?_⟩
  obtain ⟨y1, k, v, y2, rfl⟩ := y
  rw [e2] at y2; cases y2
  exact ⟨w', y1.symm, rfl, Le.refl w', s, kV_rel r1 r2⟩
theorem itm_vals {K : PySem.W.Frag} {ad : Ad} {w : Wd} {p : Addr} {o : Obj} {kvs : List (A × A)} {ws : List (Key × V)} (h : w.H p = some (.frz o (.dK ws))) (l : ¬ w.Live p)
    (hw : Paired (fun (p : A × A) (q : Key × V) => keyOf p.1 = some q.1 ∧ okKey p.1 ∧ RelA K w p.2 q.2) kvs ws) : Itm K ad (Itd p o ws) w (kvs.map (·.2)) [] := by
  intro w' m s _ i
  have h' := (m.keep p _ h l).1
  have hl : kvs.length = ws.length := Paired.length hw
  refine ⟨fun hi => ⟨h', by rw [List.length_map] at hi; omega⟩, fun a ha => ?_⟩
  rw [List.getElem?_map] at ha
  obtain ⟨kv, e1, rfl⟩ := Option.map_eq_some_iff.mp ha
  obtain ⟨q, e2, r1, r2, r3⟩ := pair_at hw e1
  refine ⟨⟨h', by rw [← hl]; exact (List.getElem?_eq_some_iff.mp e1).1⟩, fun x H' y => ?_⟩
  obtain ⟨y1, k, y2⟩ := y
  rw [e2] at y2; cases y2
  exact ⟨w', y1.symm, rfl, Le.refl w', s, r3.mono m⟩
theorem itm_items {K : PySem.W.Frag} {ad : Ad} {w : Wd} {p : Addr} {o : Obj} {kvs : List (A × A)} {ws : List (Key × V)} (h : w.H p = some (.frz o (.dK ws))) (l : ¬ w.Live p)
    (hw : Paired (fun (p : A × A) (q : Key × V) => keyOf p.1 = some q.1 ∧ okKey p.1 ∧ RelA K w p.2 q.2) kvs ws) : Itm K ad (Iti p o ws) w (kvs.map fun p => .tup [p.1, p.2]) [] := by
  intro w' m s _ i
  have h' := (m.keep p _ h l).1
  have hl : kvs.length = ws.length := Paired.length hw
  refine ⟨fun hi => ⟨h', by rw [List.length_map] at hi; omega⟩, fun a ha => ?_⟩
  rw [List.getElem?_map] at ha
  obtain ⟨kv, e1, rfl⟩ := Option.map_eq_some_iff.mp ha
  obtain ⟨q, e2, r1, r2, r3⟩ := pair_at hw e1
  refine ⟨⟨h', by rw [← hl]; exact (List.getElem?_eq_some_iff.mp e1).1⟩, fun x H' y => ?_⟩
  obtain ⟨T, k, v, y2, rfl, hT, rfl⟩ := y
  rw [e2] at y2; cases y2
  exact ⟨⟨w'.ms, w'.S, upd w'.H T (.tup [kV k, v]), w'.hid⟩, rfl, rfl, Le.grow (upd_grow hT), s.grow (upd_grow hT), new_tup s (RelAs.cons (kV_rel r1 r2) (RelAs.cons (r3.mono m) RelAs.nil)) hT⟩
/-! ### readings of iterations -/
def okI (K : PySem.W.Frag) (ad : Ad) (G : Gt) (Q : It → Hp → Prop) (E : XK) (w : Wd) : R (List A × Gd) → Prop
  | .ok xg S => ∀ w' J, w'.S = S → Le w w' → RelS K ad.cls w' → Itm K ad J w' xg.1 xg.2 → Q J w'.H
  | .ex c fs S => ∀ w' cv d, w'.S = S → Le w w' → RelS K ad.cls w' → ExR K ad G w' c fs cv d → E cv d w'.H
  | .no => False
def tI (K : PySem.W.Frag) (ad : Ad) (G : Gt) (W : WX) (m : Tau → List O → R (List A × Gd)) : TI := fun σ H Q => ∃ w τ, w.H = H ∧ RelS K ad.cls w ∧ RelT K w τ σ ∧ okI K ad G Q (fun c d H' => W c d σ H') w (m τ w.S)
section
variable {K : PySem.W.Frag} {ad : Ad} {G : Gt} {W : WX} {E : XK} {w w' : Wd} {σ : L2.St} {H : Hp}
theorem okI.at {Q : It → Hp → Prop} {r : R (List A × Gd)} (h : okI K ad G Q E w r) (le : Le w w') : okI K ad G Q E w' r := by
  cases r with
  | ok a S => exact fun u J e l s q => h u J e (le.trans l) s q
  | ex c fs S => exact fun u cv d e l s q => h u cv d e (le.trans l) s q
  | no => exact h
theorem okI.of {Q : It → Hp → Prop} {o : Option (List A × Gd)} {S : List O} (h : okI K ad G Q E w (R.of o S)) : ∃ a, o = some a ∧ okI K ad G Q E w (.ok a S) := by
  cases o with
  | none => exact h.elim
  | some a => exact ⟨a, rfl, h⟩
theorem okI.ret {Q : It → Hp → Prop} {a : List A × Gd} {S : List O} {J : It} (h : okI K ad G Q E w (.ok a S)) (e : w.S = S) (s : RelS K ad.cls w) (r : Itm K ad J w a.1 a.2) : Q J w.H := h w J e (Le.refl w) s r
theorem okA.bindI {r : R (List A)} {f : List A → List O → R (List A × Gd)} {Q : List V → Hp → Prop} {Q' : It → Hp → Prop} (h : okI K ad G Q' E w (r.bind f))
    (k : ∀ w' a v, Le w w' → RelS K ad.cls w' → RelAs K w' a v → okI K ad G Q' E w' (f a w'.S) → Q v w'.H) : okA K ad G Q E w r :=
  okA.then (P := fun w x => okI K ad G Q' E w x) h (fun _ _ l h => h.at l) (fun _ _ _ h => h) id k
theorem okR.bindI {r : R A} {f : A → List O → R (List A × Gd)} {Q : VK} {Q' : It → Hp → Prop} (h : okI K ad G Q' E w (r.bind f))
    (k : ∀ w' a v, Le w w' → RelS K ad.cls w' → RelA K w' a v → okI K ad G Q' E w' (f a w'.S) → Q v w'.H) : okR K ad G Q E w r :=
  okR.then (P := fun w x => okI K ad G Q' E w x) h (fun _ _ l h => h.at l) (fun _ _ _ h => h) id k
theorem okI.then {r : R (List A × Gd)} {α : Type} {f : List A × Gd → List O → R α} {P : Wd → R α → Prop} {Q : It → Hp → Prop} (h : P w (r.bind f)) (hP : ∀ w' x, Le w w' → P w x → P w' x)
    (hex : ∀ c fs S, P w (.ex c fs S) → okI K ad G Q E w (.ex c fs S)) (hno : P w .no → False)
    (k : ∀ w' a J, Le w w' → RelS K ad.cls w' → Itm K ad J w' a.1 a.2 → P w' (f a w'.S) → Q J w'.H) : okI K ad G Q E w r := by
  cases r with
  | ok a S =>
    intro w' J e l s q
    exact k w' a J l s q (by rw [e]; exact hP w' _ l h)
  | ex c fs S => exact hex c fs S h
  | no => exact hno h
end
section
variable {X : Cx} {ad : Ad} {G : Gt} {W : WX} {tg e : Expr}
/-- a list or a tuple, whichever it is -/
def iSeq (K : PySem.W.Frag) (te : TE) : TI := fun σ H Q => te σ H fun x H1 => ∃ p, x = .ref p ∧ (((∃ xs, SqL K H1 p xs) ∧ Q (Itl K p) H1) ∨ ((∃ xs, SqT K H1 p xs) ∧ Q (Itt K p) H1))
theorem pi_seq {te : TE} (he : PE X e te) : PI X tg e (iSeq X.K te) := by
  constructor
  intro pins s σ H Q inv hw
  refine thn (he.run pins s σ H _ inv hw) ?_
  rintro u t ⟨x, H1, inv1, rx, p, rfl, hx⟩
  cases rx
  have fp0 : ∀ c ∈ [t.heap.objs.size], FpOk X pins H1 c := by
    intro c hc
    rw [List.mem_singleton.mp hc]
    exact inv1.fpOk (Nat.le_refl _) (inv1.hok.fresh (Nat.le_refl _))
  rcases hx with ⟨⟨xs, hq⟩, hQ⟩ | ⟨⟨xs, hq⟩, hQ⟩
  · obtain ⟨its, _, pl, _⟩ := inv1.list hq
    exact wpAny_pyIter_list pl.isList ⟨_, _, _, _, H1, rfl, inv1.kept (t' := t.toks) (fun c o z => Heap.get?_push_of_some _ z), turn_list p _, ⟨_, Heap.get?_push_size _ rfl, rfl, rfl⟩, fp0, hQ⟩
  · obtain ⟨its, _, pl, _⟩ := inv1.tuple hq
    exact wpAny_pyIter_tuple (items := its.toArray) pl ⟨_, _, _, _, H1, rfl, inv1.kept (t' := t.toks) (fun c o z => Heap.get?_push_of_some _ z), turn_tuple p _, ⟨_, Heap.get?_push_size _ rfl, rfl, rfl⟩, fp0, hQ⟩
end
end Lt
/-! the program's text against the small language's -/
namespace Lt
open PySem L2
/-- a text's context: the names' slots, the scope, which names may be stored -/
structure MC where
  N : List Str
  sc : Scope
  fb : Str → Bool
  /-- not within an except suite -/
  calm : Bool
def MC.blk (m : MC) (scope : Scope) : MC := ⟨m.N, relS scope m.sc, fun x => scope.names.lookup x == some .cell, m.calm⟩
def seen (sc : Scope) (x : Str) : Bool := match sc.names.lookup x with | some .local => true | some .cell => true | some .free => true | _ => false
def glob (sc : Scope) (x : Str) : Bool := match sc.names.lookup x with | some .globalImplicit => true | _ => false
def odd (x : Str) : Bool := x == ("__debug__" : Str) || x == ("__classdict__" : Str)
def stor (m : MC) (x : Str) : Bool := match m.sc.names.lookup x with | some .local => true | some .cell => m.fb x | _ => false
def biN : Bi → Str
  | .len => "len" | .all => "all" | .any => "any" | .sum => "sum" | .max => "max" | .min => "min" | .abs => "abs"
  | .int => "int" | .bool => "bool" | .list _ => "list" | .tuple => "tuple" | .str => "str" | .dict _ => "dict" | .repr => "repr" | .sorted _ => "sorted" | .ord => "ord" | .chr => "chr"
def tyNm : Ty → Str
  | .int => "int" | .str => "str" | .bool => "bool" | .list => "list" | .tuple => "tuple" | .dict => "dict" | .own _ => ""
/-- the built-in names that a text may use -/
def bltN : List Str := ["len", "all", "any", "sum", "max", "min", "abs", "int", "bool", "list", "tuple", "str", "dict", "repr", "sorted", "ord", "chr", "isinstance", "range", "enumerate", "zip", "ValueError", "KeyError", "LookupError", "IndexError", "RuntimeError"]
def un : Expr → Expr | .Starred e _ => e | e => e
/-- the last one starred, no other -/
def starLast : List Expr → Bool
  | [] => false
  | [.Starred _ _] => true
  | e :: es => noStar e && starLast es
def mNs (m : MC) : List Nat → List Expr → Bool
  | [], [] => true
  | i :: is, e :: es => (match e with | .Name x _ => m.N[i]? == some x && stor m x | _ => false) && mNs m is es
  | _, _ => false
def isTup : Expr → Bool | .Tuple .. => true | _ => false
def callOf (m : MC) (f : Str) : Expr → Option (List Expr)
  | .Call (.Name g _) args [] _ => if g == f && glob m.sc g then some args else none
  | _ => none
/-- o.values(), o.items() -/
def viewOf (f : Str) : Expr → Option (List Expr)
  | .Call (.Attribute x g apos) [] [] pos => if f == g && plainBase x && noStar x && apos.endLine == pos.line then some [x] else none
  | _ => none
/-- zip(a, b, strict=True) -/
def callStrict (m : MC) : Expr → Option (List Expr)
  | .Call (.Name g _) args [⟨some k, .Constant (.bool true) _ _, _⟩] _ => if g == ("zip" : Str) && glob m.sc g && k == ("strict" : Str) then some args else none
  | _ => none
/-- what a walk's expression is made from -/
def srcArgs (m : MC) (k : IK) (tg iter : Expr) : Option (List Expr) := match k with
  | .seq => some [iter]
  | .sgn => some [iter]
  | .rng => callOf m "range" iter
  | .enum => if isTup tg then callOf m "enumerate" iter else none
  | .zip => if isTup tg then callOf m "zip" iter else none
  | .zips => if isTup tg && m.calm then callStrict m iter else none
  | .keys => some [iter]
  | .vals => viewOf "values" iter
  | .items => if isTup tg then viewOf "items" iter else none
def rngLen : IK → Nat → Bool
  | .seq, n => n == 1 | .sgn, n => n == 1 | .rng, n => n == 1 || n == 2 | .enum, n => n == 1 | .zip, n => n == 2 | .zips, n => n == 2 | .keys, n => n == 1 | .vals, n => n == 1 | .items, n => n == 1
mutual
def mT (m : MC) : T → Expr → Bool
  | .nm i, .Name x _ => m.N[i]? == some x && stor m x
  | .tup ts, .Tuple es _ _ => m.calm && mTs m ts es
  | .star is i, .Tuple es _ _ => m.calm && starLast es && mNs m (is ++ [i]) (es.map un)
  | _, _ => false
def mTs (m : MC) : List T → List Expr → Bool
  | [], [] => true
  | t :: ts, e :: es => noStar e && mT m t e && mTs m ts es
  | _, _ => false
end
def mK : E → Option Expr → Bool
  | .cS x, some (.Constant (.str y) _ _) => y == mkS x && decide (x.length ≤ 100000) && x.all (fun c => decide (c < 0x110000))
  | .cI i, some (.Constant (.int j) _ _) => i == j
  | _, _ => false
def mKs : List E → List (Option Expr) → Bool
  | [], [] => true
  | e :: es, x :: xs => mK e x && mKs es xs
  | _, _ => false
section
variable (G : Gt)
/-- the name of a class that isinstance asks for -/
def mXc (m : MC) : Xc → Str → Bool
  | .own c, w => glob m.sc w && !odd w && (match G.xcs[c]? with | some p => p.1 == w | none => false)
  | .glo x, w => x == w && glob m.sc w && !odd w && G.xo.contains x
  | .bi x, w => Str.ofString x == w && glob m.sc w && !odd w && (xBi x).isSome
def mXcs (m : MC) : List Xc → List Expr → Bool
  | [], [] => true
  | c :: cs, .Name w _ :: ws => mXc G m c w && mXcs m cs ws
  | _, _ => false
mutual
def mE (m : MC) : E → Expr → Bool
  | .nm i, x_ => (match x_ with | .Name x _ => (m.N[i]? == some x && seen m.sc x && !odd x) | _ => false)
  | .cN, x_ => (match x_ with | .Constant .none _ _ => (true) | _ => false)
  | .cB b, x_ => (match x_ with | .Constant (.bool c) _ _ => (b == c) | _ => false)
  | .cI i, x_ => (match x_ with | .Constant (.int j) _ _ => (i == j) | _ => false)
  | .cS x, x_ => (match x_ with | .Constant (.str y) _ _ => (y == mkS x && decide (x.length ≤ 100000) && x.all (fun c => decide (c < 0x110000))) | _ => false)
  | .gl x, x_ => (match x_ with | .Name y _ => (x == y && glob m.sc y && (G.consts.lookup x).isSome && !odd y) | _ => false)
  | .frz e, x => mE m e x
  | .lk _ e, x => plainTest x && mE m e x
  | .bin op _ a b, x_ => (match x_ with | .BinOp x op' y _ => (decide (op = op') && mE m a x && mE m b y) | _ => false)
  | .neg a, x_ => (match x_ with | .UnaryOp .USub x _ => (mE m a x) | _ => false)
  | .no_ a, x_ => (match x_ with | .UnaryOp .Not x _ => (mE m a x) | _ => false)
  | .and_ a b, x_ => (match x_ with | .BoolOp .And (x :: y :: r) p => (mE m a x && (match r with | [] => mE m b y | z :: r' => mE m b (.BoolOp .And (y :: z :: r') p))) | _ => false)
  | .or_ a b, x_ => (match x_ with | .BoolOp .Or (x :: y :: r) p => (mE m a x && (match r with | [] => mE m b y | z :: r' => mE m b (.BoolOp .Or (y :: z :: r') p))) | _ => false)
  | .ifx t a b, x_ => (match x_ with | .IfExp x y z _ => (mE m t x && mE m a y && mE m b z) | _ => false)
  | .cmp op a b, x_ => (match x_ with | .Compare x [op'] [y] _ => (decide (op = op') && !behindInMarks op y && mE m a x && mE m b y) | _ => false)
  | .chn p q a b c, x_ => (match x_ with | .Compare x [p', q'] [y, z] _ => (decide (p = p') && decide (q = q') && !behindInMarks q z && mE m a x && mE m b y && mE m c z) | _ => false)
  | .tup es, x_ => (match x_ with | .Tuple xs _ _ => (decide (xs.length ≤ 100000) && mEs m es xs) | _ => false)
  | .lst _ es, x_ => (match x_ with | .List xs _ => (decide (xs.length ≤ 100000) && mEs m es xs) | _ => false)
  | .dic _ [] [], x_ => (match x_ with | .Dict [] [] _ => (true) | _ => false)
  | .dic _ (k :: ks) vs, x_ => (match x_ with | .Dict keys values _ => (mKs (k :: ks) keys && decide (keys.length ≤ 15) && decide (keys.length = values.length) && mEs m vs values) | _ => false)
  | .call d es, x_ => (match x_ with | .Call (.Name x _) xs [] _ => (m.calm && (glob m.sc x && !odd x && decide (G.dnames[d]? = some (some x)) && mEs m es xs)) | _ => false)
  | .pcall d es, x_ => (match x_ with | .Call (.Name x _) xs [] _ => (m.calm && (glob m.sc x && !odd x && decide (G.dnames[d]? = some (some x)) && mEs m es xs)) | _ => false)
  | .kcall h es ws, x_ => (match x_ with | .Call (.Name x _) xs (kw :: kws) _ => (m.calm && (glob m.sc x && !odd x && (match G.kwc[h]? with | some kc => decide (G.dnames[kc.d]? = some (some x)) && decide ((kw :: kws).map (·.arg) = kc.ks.map some) | none => false) && mEs m es xs && mEs m ws ((kw :: kws).map (·.value)))) | _ => false)
  | .mk c es, x_ => (match x_ with | .Call (.Name x _) xs [] _ => (m.calm && (glob m.sc x && !odd x && (match G.clss[c]? with | some ci => ci.name == x && ci.init.isSome | none => false) && mEs m es xs)) | _ => false)
  | .kmk c h es ws, x_ => (match x_ with | .Call (.Name x _) xs (kw :: kws) _ => (m.calm && (glob m.sc x && !odd x && (match G.clss[c]?, G.kwc[h]? with | some ci, some kc => ci.name == x && decide (ci.init = some kc.d) && decide ((kw :: kws).map (·.arg) = kc.ks.map some) | _, _ => false) && mEs m es xs && mEs m ws ((kw :: kws).map (·.value)))) | _ => false)
  | .mk2 c i es, x_ => (match x_ with | .Call (.Name x _) xs [] _ => (m.calm && (glob m.sc x && !odd x && (match G.clss[c]?, G.dft[i]? with | some ci, some p => ci.name == x && decide (ci.init = some p.d) | _, _ => false) && mEs m es xs)) | _ => false)
  | .xf o f, x_ => (match x_ with | .Attribute x g _ => (f == g && plainBase x && mE m o x) | _ => false)
  | .inR neg x lo hi, x_ => (match x_ with | .Compare l [op] [.Call (.Name r p) [a, b] [] p2] _ => (decide (op = (if neg then CmpOp.NotIn else CmpOp.In)) && r == ("range" : Str) && glob m.sc r && noStar a && noStar b && !behindInMarks op (.Call (.Name r p) [a, b] [] p2) && mE m x l && mE m lo a && mE m hi b) | _ => false)
  | .xis o cs tp, x_ => (match x_ with | .Call (.Name x _) [y, z] [] _ => (x == ("isinstance" : Str) && glob m.sc x && noStar y && noStar z && mE m o y && (match tp, cs, z with | false, [c], .Name w _ => mXc G m c w | true, c :: cs, .Tuple ws _ _ => decide (cs.length < 1000) && mXcs G m (c :: cs) ws | _, _, _ => false)) | _ => false)
  | .mth f o es, x_ => (match x_ with | .Call (.Attribute x g apos) xs [] pos => (m.calm && (f == g && plainBase x && apos.endLine == pos.line && decide (xs.length < 20) && mE m o x && mEs m es xs)) | _ => false)
  | .tabGet y e d, x_ => (match x_ with | .Call (.Attribute (.Name z p) f apos) [i, j] [] pos => (y == z && f == ("get" : Str) && glob m.sc z && !odd z && (G.tabs.lookup y).isSome && apos.endLine == pos.line && noStar i && noStar j && mE m e i && mE m d j) | _ => false)
  | .lsv _ o, x_ => (match x_ with | .Call (.Name x _) [y] [] _ => (m.calm && (x == ("list" : Str) && glob m.sc x && (match y with | .Call (.Attribute z f apos) [] [] cpos => f == ("values" : Str) && plainBase z && apos.endLine == cpos.line && mE m o z | _ => false))) | _ => false)
  | .lsi o, x_ => (match x_ with | .Call (.Name x _) [y] [] _ => (m.calm && (x == ("list" : Str) && glob m.sc x && (match y with | .Call (.Attribute z f apos) [] [] cpos => f == ("items" : Str) && plainBase z && apos.endLine == cpos.line && mE m o z | _ => false))) | _ => false)
  | .lsr _ src, x_ => (match x_ with | .Call (.Name x _) [.Call (.Name r p) args [] p2] [] _ => (m.calm && (x == ("list" : Str) && glob m.sc x && r == ("range" : Str) && glob m.sc r && rngLen .rng args.length && mEs m src args)) | _ => false)
  | .rev _ a, x_ => (match x_ with | .Subscript x (.Slice none none (some (.UnaryOp .USub (.Constant (.int 1) _ _) _)) _) _ => (mE m a x) | _ => false)
  | .fmt r e, x_ => (match x_ with | .FormattedValue x c none _ => ((!r || m.calm) && (decide (c = (if r then 114 else -1)) && mE m e x)) | _ => false)
  | .fs es, x_ => (match x_ with | .JoinedStr (x :: y :: xs) _ => (mEs m es (x :: y :: xs)) | _ => false)
  | .rpI o, x_ => (match x_ with | .Call (.Name x _) [y] [] _ => (m.calm && (x == ("repr" : Str) && glob m.sc x && noStar y && mE m o y)) | _ => false)
  | .strL o, x_ => (match x_ with | .Call (.Name x _) [.List [y] _] [] _ => (m.calm && (x == ("str" : Str) && glob m.sc x && noStar y && mE m o y)) | _ => false)
  | .boI o, x_ => (match x_ with | .Call (.Name x _) [y] [] _ => (m.calm && (x == ("bool" : Str) && glob m.sc x && noStar y && mE m o y)) | _ => false)
  | .cmpI neg a b, x_ => (match x_ with | .Compare x [op'] [y] _ => (m.calm && (decide (op' = (if neg then CmpOp.NotEq else CmpOp.Eq)) && mE m a x && mE m b y)) | _ => false)
  | .lenO o, x_ => (match x_ with | .Call (.Name x _) [y] [] _ => (m.calm && (x == ("len" : Str) && glob m.sc x && noStar y && mE m o y)) | _ => false)
  | .fld o f, x_ => (match x_ with | .Attribute x g _ => (f == g && plainBase x && mE m o x) | _ => false)
  | .bi b es, x_ => (match x_ with | .Call (.Name x _) xs [] _ => (m.calm && (x == biN b && glob m.sc x && bltN.contains x && !xs.isEmpty && mEs m es xs)) | _ => false)
  | .isi e t, x_ => (match x_ with | .Call (.Name x _) [y, .Name z _] [] _ => (x == ("isinstance" : Str) && glob m.sc x && glob m.sc z && mE m e y && noStar y && (match t with | .own c => (match G.clss[c]? with | some ci => ci.name == z && !odd z | none => false) | t => tyNm t == z)) | _ => false)
  | .sl _ a lo hi, x_ => (match x_ with | .Subscript x (.Slice lo' hi' none _) _ => (mE m a x && (match lo' with | none => lo.isEmpty | some y => mEs m lo [y]) && (match hi' with | none => hi.isEmpty | some y => mEs m hi [y])) | _ => false)
  | .bm b o es, x_ => (match x_ with | .Call (.Attribute x f apos) xs [] pos => (f == bmN b && plainBase x && apos.endLine == pos.line && decide (xs.length < 20) && mE m o x && mEs m es xs) | _ => false)
  | .idx a b, x_ => (match x_ with | .Subscript x y _ => (plainSub y && mE m a x && mE m b y) | _ => false)
  | .tab y e, x_ => (match x_ with | .Subscript (.Name z _) i _ => (y == z && glob m.sc z && !odd z && plainSub i && (G.tabs.lookup y).isSome && mE m e i) | _ => false)
  | .tabIn neg y e, x_ => (match x_ with | .Compare l [op] [.Name z p] _ => (y == z && glob m.sc z && !odd z && (G.tabs.lookup y).isSome && decide (op = (if neg then CmpOp.NotIn else CmpOp.In)) && !behindInMarks op (.Name z p) && mE m e l) | _ => false)
  | .dc ke ve t k src ifs own, x_ => (match x_ with | .DictComp ke' ve' [⟨tg, iter, ifs', asy⟩] scope _ => (m.calm && (asy == 0 && noSet iter && (match srcArgs m k tg iter with | some args => rngLen k args.length && mEs m src args | none => false) && mT (m.blk scope) t tg && mE (m.blk scope) ke ke' && mE (m.blk scope) ve ve' && (ifs'.length ≤ 1) && mEs (m.blk scope) ifs ifs' && blkC m.N m.sc scope own && t.slots.all (fun i => (own.map (·.2)).contains i))) | _ => false)
  | .lenSet elt t k src ifs own, x_ => (match x_ with | .Call (.Name x _) [.SetComp elt' [⟨tg, iter, ifs', asy⟩] scope _] [] _ => (m.calm && (x == ("len" : Str) && glob m.sc x && asy == 0 && noSet iter && (match srcArgs m k tg iter with | some args => rngLen k args.length && mEs m src args | none => false) && mT (m.blk scope) t tg && mE (m.blk scope) elt elt' && (ifs'.length ≤ 1) && mEs (m.blk scope) ifs ifs' && blkC m.N m.sc scope own && t.slots.all (fun i => (own.map (·.2)).contains i))) | _ => false)
  | .srtSet _ elt t k src ifs own, x_ => (match x_ with | .Call (.Name x _) [.SetComp elt' [⟨tg, iter, ifs', asy⟩] scope _] [] _ => (m.calm && (x == ("sorted" : Str) && glob m.sc x && asy == 0 && noSet iter && (match srcArgs m k tg iter with | some args => rngLen k args.length && mEs m src args | none => false) && mT (m.blk scope) t tg && mE (m.blk scope) elt elt' && (ifs'.length ≤ 1) && mEs (m.blk scope) ifs ifs' && blkC m.N m.sc scope own && t.slots.all (fun i => (own.map (·.2)).contains i))) | _ => false)
  | .lc _ elt t k src ifs own, x_ => (match x_ with | .ListComp elt' [⟨tg, iter, ifs', asy⟩] scope _ => (m.calm && (asy == 0 && noSet iter && (match srcArgs m k tg iter with | some args => rngLen k args.length && mEs m src args | none => false) && mT (m.blk scope) t tg && mE (m.blk scope) elt elt' && (ifs'.length ≤ 1) && mEs (m.blk scope) ifs ifs' && blkC m.N m.sc scope own && t.slots.all (fun i => (own.map (·.2)).contains i))) | _ => false)
  | .lc2 _ elt t k src t2 k2 src2 own vs1, x_ => (match x_ with | .ListComp elt' [⟨tg, iter, [], asy⟩, ⟨tg2, iter2, [], asy2⟩] scope _ => (m.calm && (asy == 0 && (asy2 == 0 && (noSet iter && (noSet iter2 && ((match srcArgs m k tg iter with | some args => rngLen k args.length && mEs m src args | none => false) && ((match srcArgs (m.blk scope) k2 tg2 iter2 with | some args => rngLen k2 args.length && mEs (m.blk scope) src2 args | none => false) && (mT (m.blk scope) t tg && (mT (m.blk scope) t2 tg2 && (mE (m.blk scope) elt elt' && (blkC m.N m.sc scope own && (t.slots.all (fun i => (own.map (·.2)).contains i) && (t2.slots.all (fun i => vs1.contains i) && vs1.all (fun i => (own.map (·.2)).contains i)))))))))))))) | _ => false)
  | _, _ => false
def mEs (m : MC) : List E → List Expr → Bool
  | [], [] => true
  | e :: es, x :: xs => noStar x && mE m e x && mEs m es xs
  | _, _ => false
end
end
/-! ### statements -/
def isLc : E → Bool | .lc .. => true | .lc2 .. => true | _ => false
def notDisp : Expr → Bool | .Tuple .. => false | _ => true
/-- name = a comprehension, stored within -/
def swB (m : MC) (t : Str) (tl : Nat) : Expr → Bool
  | .ListComp _ _ s p => (match m.sc.names.lookup t with | some .local => true | _ => false) && tl == p.line && !(s.names.any fun (n, k) => n == t && (k == .local || k == .cell))
  | _ => false
section
variable (G : Gt)
mutual
def mS (m : MC) : Sm → Stmt → Bool
  | .asg (.t (.nm i)) e, s_ => (match s_ with | .Assign [.Name x p] v _ => mT m (.nm i) (.Name x p) && mE G m e v && (noComp v || (isLc e && swB m x p.line v)) | _ => false)
  | .asg (.t (.tup ts)) e, s_ => (match s_ with | .Assign [.Tuple es k p] v _ => (m.calm && mTs m ts es) && mE G m e v && noComp v && notDisp v | _ => false)
  | .asg (.sub o i) e, s_ => (match s_ with | .Assign [.Subscript x y _] v _ => mE G m o x && mE G m i y && plainSub y && mE G m e v && noComp v | _ => false)
  | .asg (.fld o f) e, s_ => (match s_ with | .Assign [.Attribute x g _] v _ => f == g && plainBase x && mE G m o x && mE G m e v | _ => false)
  | .aug i op e, s_ => (match s_ with | .AugAssign (.Name x p) op' v _ => mT m (.nm i) (.Name x p) && ((match op with | .Add => true | .Sub => true | _ => false) && (decide (op = op') && mE G m e v)) | _ => false)
  | .ex e, s_ => (match s_ with | .Expr v _ => mE G m e v && noComp v | _ => false)
  | .ret e, s_ => (match s_ with | .Return (some v) _ => mE G m e v | _ => false)
  | .retN, s_ => (match s_ with | .Return none _ => true | _ => false)
  | .pass, s_ => (match s_ with | .Pass _ => true | _ => false)
  | .brk, s_ => (match s_ with | .Break _ => true | _ => false)
  | .cont, s_ => (match s_ with | .Continue _ => true | _ => false)
  | .never, _ => true
  | .lk _ s, x => mS m s x
  | .ifs c a b, s_ => (match s_ with | .If c' a' b' _ => mE G m c c' && mSs m a a' && mSs m b b' | _ => false)
  | .forr t k src b, s_ => (match s_ with | .For tg iter b' [] _ => m.calm && noSet iter && (match srcArgs m k tg iter with | some args => rngLen k args.length && mEs G m src args | none => false) && mT m t tg && mSs m b b' | _ => false)
  | .raise c es, s_ => (match s_ with | .Raise (some (.Call (.Name x _) xs [] _)) none _ => m.calm && glob m.sc x && !odd x && !xs.isEmpty && (match G.xcs[c]? with | some p => p.1 == x && decide (es.length = p.2.length) | none => false) && mEs G m es xs | _ => false)
  | .tryk b cs ss, s_ => (match s_ with | .Try body hds [] [] _ => m.calm && !hds.isEmpty && mSs m b body && mHs m cs ss hds | _ => false)
  | .whl _ c b, s_ => (match s_ with | .While c' b' [] _ => m.calm && mE G m c c' && mSs m b b' | _ => false)
  | _, _ => false
def mSs (m : MC) : List Sm → List Stmt → Bool
  | [], [] => true
  | s :: ss, t :: ts => mS m s t && mSs m ss ts
  | _, _ => false
def mHs (m : MC) : List (Nat × Option Nat) → List Sm → List ExceptHandler → Bool
  | [], [], [] => true
  | (c, oi) :: cs, s :: ss, h :: hds => (match h with | .ExceptHandler (some (.Name x _)) nm suite _ => glob m.sc x && !odd x && (match G.xcs[c]? with | some p => p.1 == x | none => false) &&
      (match oi, nm with | none, none => true | some i, some n => m.N[i]? == some n && m.sc.names.lookup n == some .local | _, _ => false) && !suite.isEmpty && mB { m with calm := false } s suite | _ => false) && mHs m cs ss hds
  | _, _, _ => false
def mB (m : MC) : Sm → List Stmt → Bool
  | .blk l, suite => mSs m l suite
  | _, _ => false
end
end
end Lt
/-! targets; comprehensions -/
namespace Lt
open PySem L2
/-! ### targets -/
/-- only these slots have changed -/
structure Chg (l : List Nat) (σ σ' : L2.St) : Prop where
  len : σ'.length = σ.length
  at_ : ∀ i, i ∉ l → σ'[i]? = σ[i]?
theorem Chg.refl (l : List Nat) (σ : L2.St) : Chg l σ σ := ⟨rfl, fun _ _ => rfl⟩
theorem Chg.trans {l l' : List Nat} {a b c : L2.St} (h : Chg l a b) (k : Chg l' b c) : Chg (l ++ l') a c :=
  ⟨k.len.trans h.len, fun i hi => (k.at_ i fun z => hi (List.mem_append_right _ z)).trans (h.at_ i fun z => hi (List.mem_append_left _ z))⟩
theorem Chg.set {σ : L2.St} (i : Nat) (v : Option V) : Chg [i] σ (σ.set i v) := ⟨by simp, fun j hj => List.getElem?_set_ne (fun z => hj (by simp [z]))⟩
theorem wipe_at (σ : L2.St) : ∀ (vs : List Nat) (i : Nat), (wipe σ vs)[i]? = if i ∈ vs ∧ i < σ.length then some none else σ[i]?
  | [], i => by simp [wipe]
  | v :: vs, i => by
    have ih := wipe_at σ vs i
    have hl := wipe_length σ vs
    unfold wipe
    by_cases h : v = i
    · subst h
      by_cases hi : v < σ.length
      · rw [List.getElem?_set_self (by rw [hl]; exact hi), if_pos ⟨List.mem_cons_self, hi⟩]
      · rw [List.getElem?_eq_none (by simp [hl]; omega), if_neg (by simp [hi]), List.getElem?_eq_none (by omega)]
    · rw [List.getElem?_set_ne h, ih]
      have : (i ∈ v :: vs ∧ i < σ.length) ↔ (i ∈ vs ∧ i < σ.length) := by simp [Ne.symm h]
      simp only [this]
theorem Chg.wipe {l vs : List Nat} {σ σ' : L2.St} (h : Chg l σ σ') (hs : ∀ i ∈ l, i ∈ vs) : L2.wipe σ' vs = L2.wipe σ vs := by
  apply List.ext_getElem?
  intro i
  rw [wipe_at, wipe_at, h.len]
  by_cases hi : i ∈ vs ∧ i < σ.length
  · rw [if_pos hi, if_pos hi]
  · rw [if_neg hi, if_neg hi]
    by_cases hm : i ∈ l
    · have : ¬ i < σ.length := fun z => hi ⟨hs i hm, z⟩
      rw [List.getElem?_eq_none (by rw [h.len]; omega), List.getElem?_eq_none (by omega)]
    · exact h.at_ i hm
theorem wipe_wipe (σ : L2.St) (vs : List Nat) : L2.wipe (L2.wipe σ vs) vs = L2.wipe σ vs := by
  apply List.ext_getElem?
  intro i
  rw [wipe_at, wipe_at, wipe_length]
  split <;> rfl
def gT (K : PySem.W.Frag) (ad : Ad) (t : T) : TG := fun v σ H Q => ∃ w τ a τ', w.H = H ∧ RelS K ad.cls w ∧ RelT K w τ σ ∧ RelA K w a v ∧ T.asg t a τ = some τ' ∧
  ∀ w' σ', w'.S = w.S → Le w w' → RelS K ad.cls w' → RelT K w' τ' σ' → Chg t.slots σ σ' → Q σ' w'.H
def gTs (K : PySem.W.Frag) (ad : Ad) (ts : List T) : TGs := fun vs σ H Q => ∃ w τ xs τ', w.H = H ∧ RelS K ad.cls w ∧ RelT K w τ σ ∧ RelAs K w xs vs ∧ T.asgs ts xs τ = some τ' ∧
  ∀ w' σ', w'.S = w.S → Le w w' → RelS K ad.cls w' → RelT K w' τ' σ' → Chg (T.slotss ts) σ σ' → Q σ' w'.H
theorem PG.imp {X : Cx} {e : Expr} {t t' : TG} (h : PG X e t) (k : ∀ v σ H Q, t' v σ H Q → t v σ H Q) : PG X e t' := ⟨fun pins s σ H v u Q I r q => h.run pins s σ H v u Q I r (k _ _ _ _ q)⟩
theorem PGs.imp {X : Cx} {e : List Expr} {t t' : TGs} (h : PGs X e t) (k : ∀ v σ H Q, t' v σ H Q → t v σ H Q) : PGs X e t' := ⟨fun pins s σ H v u Q I r q => h.run pins s σ H v u Q I r (k _ _ _ _ q)⟩
/-- the context is as the matcher takes it -/
structure Mx (X : Cx) (m : MC) : Prop where
  N : X.N = m.N
  sc : X.env.scope = m.sc
  fb : ∀ x, m.fb x = true → X.fn x = true
  nd : X.N.Nodup
  calm : m.calm = true → X.calm = true
theorem assign_one {e : Expr} (h : noStar e = true) (es : List Expr) (env : Env) : assignEach (e :: es) env = (false, assign e env) :: assignEach es env := by
  cases e <;> first | rfl | cases h
theorem assign_len (env : Env) (m : MC) : ∀ {ts : List T} {es : List Expr}, mTs m ts es = true → (assignEach es env).length = es.length ∧ (assignEach es env).findIdx? (·.1) = none ∧ ts.length = es.length
  | [], [], _ => ⟨rfl, rfl, rfl⟩
  | t :: ts, [], h => by simp [mTs] at h
  | [], e :: es, h => by simp [mTs] at h
  | t :: ts, e :: es, h => by
    have h' : (noStar e = true ∧ mT m t e = true) ∧ mTs m ts es = true := by simpa [mTs] using h
    obtain ⟨h1, h2, h3⟩ := assign_len env m h'.2
    rw [assign_one h'.1.1]
    refine ⟨by simp [h1], ?_, by simp [h3]⟩
    rw [List.findIdx?_cons, h2]; rfl
theorem asgs_len : ∀ {ts : List T} {xs : List A} {τ τ' : Tau}, T.asgs ts xs τ = some τ' → xs.length = ts.length
  | [], [], _, _, _ => rfl
  | [], _ :: _, _, _, h => by simp [T.asgs] at h
  | _ :: _, [], _, _, h => by simp [T.asgs] at h
  | t :: ts, x :: xs, τ, τ', h => by
    simp only [T.asgs] at h
    split at h
    · simp [asgs_len h]
    · cases h
section
variable {X : Cx} {ad : Ad} {m : MC}
theorem star_last {es : List Expr} (env : Env) (h : starLast es = true) : (assignEach es env).findIdx? (·.1) = some (es.length - 1) ∧ (assignEach es env).length = es.length ∧ 0 < es.length := by
  induction es with
  | nil => cases h
  | cons e es ih =>
    cases es with
    | nil =>
      cases e <;> first | exact ⟨rfl, rfl, by simp⟩ | (simp [starLast, noStar] at h)
    | cons e2 es =>
      have h' : noStar e = true ∧ starLast (e2 :: es) = true := by
        cases e <;> first | (simpa [starLast] using h) | (simp [starLast, noStar] at h)
      obtain ⟨h1, h2, h3⟩ := ih h'.2
      rw [assign_one h'.1]
      refine ⟨?_, by simp [h2], by simp⟩
      rw [List.findIdx?_cons, h1]
      simp
theorem un_each {es : List Expr} (env : Env) (h : ∀ e ∈ es, noStar (un e) = true) : (assignEach es env).map (·.2) = (assignEach (es.map un) env).map (·.2) := by
  induction es with
  | nil => rfl
  | cons e es ih =>
    have ih := ih fun z hz => h z (List.mem_cons_of_mem _ hz)
    have hc : (assignEach (e :: es) env).map (·.2) = assign (un e) env :: (assignEach es env).map (·.2) := by cases e <;> rfl
    rw [hc, List.map_cons, assign_one (h e List.mem_cons_self), List.map_cons, ih]
theorem sNm (M : Mx X m) {i : Nat} {x : Str} {pos : Pos} (h1 : (m.N[i]? == some x) = true) (h2 : stor m x = true) : PG X (.Name x pos) (gT X.K ad (.nm i)) := by
  rw [beq_iff_eq] at h1
  have h3 : Loc X.env.scope x ∧ (X.fn x = true ∨ X.env.scope.names.lookup x = some .local) := by
    rw [M.sc]
    unfold stor at h2
    split at h2
    · rename_i e; exact ⟨.inl e, .inr e⟩
    · rename_i e; exact ⟨.inr e, .inl (M.fb x h2)⟩
    · cases h2
  refine PG.imp (pg_name (i := i) M.nd (by rw [M.N]; exact h1) h3.1 h3.2) ?_
  rintro v σ H Q ⟨w, τ, a, τ', rfl, s, rt, ra, e, k⟩
  cases e
  exact k w _ rfl (Le.refl w) s (rt.set i ra) (Chg.set i _)
def gNs (K : PySem.W.Frag) (ad : Ad) (is : List Nat) : TGs := fun vs σ H Q => ∃ w τ xs τ', w.H = H ∧ RelS K ad.cls w ∧ RelT K w τ σ ∧ RelAs K w xs vs ∧ asgN is xs τ = some τ' ∧
  ∀ w' σ', w'.S = w.S → Le w w' → RelS K ad.cls w' → RelT K w' τ' σ' → Chg is σ σ' → Q σ' w'.H
theorem sNs (M : Mx X m) : ∀ (is : List Nat) (es : List Expr), mNs m is es = true → PGs X es (gNs X.K ad is) ∧ es.length = is.length ∧ ∀ e ∈ es, noStar e = true
  | [], [], h => by
    refine ⟨PGs.imp pgs_nil ?_, rfl, fun e he => (by cases he)⟩
    rintro v σ H Q ⟨w, τ, xs, τ', rfl, s, rt, ra, e, k⟩
    have hx : xs = [] := by cases xs with | nil => rfl | cons _ _ => simp [asgN] at e
    subst hx
    simp only [RelAs] at ra
    cases e
    exact ⟨ra, k w σ rfl (Le.refl w) s rt (Chg.refl _ _)⟩
  | i :: is, [], h => by simp [mNs] at h
  | [], e :: es, h => by simp [mNs] at h
  | i :: is, e :: es, h => by
    obtain ⟨x, pos, rfl⟩ : ∃ x pos, e = .Name x pos := by
      cases e <;> first | exact ⟨_, _, rfl⟩ | (simp [mNs] at h)
    have h' : ((m.N[i]? == some x) = true ∧ stor m x = true) ∧ mNs m is es = true := by simpa [mNs] using h
    obtain ⟨p, l, ns⟩ := sNs M is es h'.2
    refine ⟨PGs.imp (pgs_cons (sNm (ad := ad) M (pos := pos) h'.1.1 h'.1.2) p (by rfl)) ?_, by simp [l], fun z hz => ?_⟩
    · rintro v σ H Q ⟨w, τ, xs, τ', rfl, s, rt, ra, e, k⟩
      cases xs with
      | nil => simp [asgN] at e
      | cons x xs =>
        simp only [asgN] at e
        simp only [RelAs] at ra
        obtain ⟨v1, r, rfl, r1, r2⟩ := ra
        refine ⟨v1, r, rfl, w, τ, x, τ.set i (some x), rfl, s, rt, r1, rfl, fun w2 σ2 eS l s2 rt2 c => ?_⟩
        exact ⟨w2, _, xs, τ', rfl, s2, rt2, r2.mono l.mo, e, fun w3 σ3 eS3 l3 s3 rt3 c3 => k w3 σ3 (eS3.trans eS) (l.trans l3) s3 rt3 (c.trans c3)⟩
    · rcases List.mem_cons.mp hz with rfl | hz
      · rfl
      · exact ns z hz
mutual
theorem sT (M : Mx X m) : ∀ (t : T) (e : Expr), mT m t e = true → PG X e (gT X.K ad t)
  | .nm i, e, h => by
    cases e <;> simp only [mT] at h <;> first | (cases h; done) | skip
    rename_i x pos
    simp only [Bool.and_eq_true, beq_iff_eq] at h
    obtain ⟨h1, h2⟩ := h
    have h3 : Loc X.env.scope x ∧ (X.fn x = true ∨ X.env.scope.names.lookup x = some .local) := by
      rw [M.sc]
      unfold stor at h2
      split at h2
      · rename_i e; exact ⟨.inl e, .inr e⟩
      · rename_i e; exact ⟨.inr e, .inl (M.fb x h2)⟩
      · cases h2
    refine PG.imp (pg_name (i := i) M.nd (by rw [M.N]; exact h1) h3.1 h3.2) ?_
    rintro v σ H Q ⟨w, τ, a, τ', rfl, s, rt, ra, e, k⟩
    cases e
    exact k w _ rfl (Le.refl w) s (rt.set i ra) (Chg.set i _)
  | .tup ts, e, h => by
    cases e <;> simp only [mT] at h <;> first | (cases h; done) | skip
    rename_i es kk pos
    rw [Bool.and_eq_true] at h
    obtain ⟨hc, h⟩ := h
    obtain ⟨h1, h2, h3⟩ := assign_len X.env m h
    refine PG.imp (pg_tup (n := es.length) (M.calm hc) (sTs M ts es h) h1 h2) ?_
    rintro v σ H Q ⟨w, τ, a, τ', rfl, s, rt, ra, e, k⟩
    have : ∃ p vs xs, v = .ref p ∧ SqT X.K w.H p vs ∧ RelAs X.K w xs vs ∧ T.asgs ts xs τ = some τ' := by
      cases a <;> simp only [T.asg] at e <;> first | (cases e; done) | skip
      · obtain ⟨p, vs, rfl, hp, rs⟩ := relA_tup ra
        exact ⟨p, vs, _, rfl, hp.sq, rs, e⟩
      · obtain ⟨p, vs, rfl, hp, rs⟩ := relA_ktup ra
        exact ⟨p, vs, _, rfl, .inr hp, rs, e⟩
    obtain ⟨p, vs, xs, rfl, hq, rs, e⟩ := this
    exact ⟨p, vs, rfl, hq, by rw [← rs.length, asgs_len e, h3], w, τ, xs, τ', rfl, s, rt, rs, e, k⟩
  | .star is i, e, h => by
    cases e <;> simp only [mT] at h <;> first | (cases h; done) | skip
    rename_i es kk pos
    simp only [Bool.and_eq_true] at h
    obtain ⟨⟨hc, hst⟩, hns⟩ := h
    obtain ⟨h1, h2, h3⟩ := star_last X.env hst
    obtain ⟨p, l, ns⟩ := sNs (ad := ad) M (is ++ [i]) (es.map un) hns
    rw [List.length_map, List.length_append, List.length_singleton] at l
    have hk : es.length - 1 = is.length := by omega
    refine PG.imp (pg_star (k := is.length) (M.calm hc) p (un_each X.env fun e he => ns _ (List.mem_map_of_mem he)) (by rw [h2, l]) (by rw [h1, hk])) ?_
    rintro v σ H Q ⟨w, τ, a, τ', rfl, s, rt, ra, e, k⟩
    have : ∃ q vs xs, v = .ref q ∧ SqT X.K w.H q vs ∧ RelAs X.K w xs vs ∧ is.length ≤ xs.length ∧ asgN (is ++ [i]) (xs.take is.length ++ [.lst (xs.drop is.length)]) τ = some τ' := by
      cases a <;> simp only [T.asg] at e <;> first | (cases e; done) | skip
      · split at e
        · rename_i hl
          obtain ⟨q, vs, rfl, hp, rs⟩ := relA_tup ra
          exact ⟨q, vs, _, rfl, hp.sq, rs, hl, e⟩
        · cases e
      · split at e
        · rename_i hl
          obtain ⟨q, vs, rfl, hp, rs⟩ := relA_ktup ra
          exact ⟨q, vs, _, rfl, .inr hp, rs, hl, e⟩
        · cases e
    obtain ⟨q, vs, xs, rfl, hq, rs, hl, e⟩ := this
    refine ⟨q, vs, rfl, hq, by rw [← rs.length]; exact hl, fun D hD => ?_⟩
    have le : Le w ⟨w.ms, w.S, upd w.H D (.lst (vs.drop is.length)), w.hid⟩ := Le.grow (upd_grow hD)
    exact ⟨⟨w.ms, w.S, upd w.H D (.lst (vs.drop is.length)), w.hid⟩, τ, _, τ', rfl, s.grow (upd_grow hD), rt.mono le.mo, ((rs.take is.length).mono le.mo).append (RelAs.cons (new_lst s (rs.drop is.length) hD) RelAs.nil), e, fun w' σ' eS l' s' rt' c => k w' σ' eS (le.trans l') s' rt' c⟩
theorem sTs (M : Mx X m) : ∀ (ts : List T) (es : List Expr), mTs m ts es = true → PGs X es (gTs X.K ad ts)
  | [], [], h => by
    refine PGs.imp pgs_nil ?_
    rintro v σ H Q ⟨w, τ, xs, τ', rfl, s, rt, ra, e, k⟩
    have hx : xs = [] := by cases xs with | nil => rfl | cons _ _ => simp [T.asgs] at e
    subst hx
    simp only [RelAs] at ra
    cases e
    exact ⟨ra, k w σ rfl (Le.refl w) s rt (Chg.refl _ _)⟩
  | t :: ts, [], h => by simp [mTs] at h
  | [], e :: es, h => by simp [mTs] at h
  | t :: ts, e :: es, h => by
    have h' : (noStar e = true ∧ mT m t e = true) ∧ mTs m ts es = true := by simpa [mTs] using h
    refine PGs.imp (pgs_cons (sT M t e h'.1.2) (sTs M ts es h'.2) (by rw [assign_one h'.1.1]; rfl)) ?_
    rintro v σ H Q ⟨w, τ, xs, τ', rfl, s, rt, ra, e, k⟩
    cases xs with
    | nil => simp [T.asgs] at e
    | cons x xs =>
      simp only [T.asgs] at e
      simp only [RelAs] at ra
      obtain ⟨v1, r, rfl, r1, r2⟩ := ra
      split at e
      · rename_i τ1 e1
        refine ⟨v1, r, rfl, w, τ, x, τ1, rfl, s, rt, r1, e1, fun w2 σ2 eS l s2 rt2 c => ?_⟩
        refine ⟨w2, τ1, xs, τ', rfl, s2, rt2, r2.mono l.mo, e, fun w3 σ3 eS3 l3 s3 rt3 c3 => ?_⟩
        exact k w3 σ3 (eS3.trans eS) (l.trans l3) s3 rt3 (c.trans c3)
      · cases e
end
end
/-! ### a comprehension -/
/-- what was built becomes an object -/
theorem Blt.adopt {K : PySem.W.Frag} {cls : Nat → Addr} {w wc : Wd} {D : Addr} {o : O} (b : Blt w wc D) (nh : D ∉ w.hid) (s : RelS K cls wc) (hD : ∃ h, wc.H D = some h) (ro : ∀ w', w'.H = wc.H → Mo wc w' → RelO K cls w' D o) :
    Le w ⟨wc.ms ++ [D], wc.S ++ [o], wc.H, w.hid⟩ ∧ RelS K cls ⟨wc.ms ++ [D], wc.S ++ [o], wc.H, w.hid⟩ ∧ RelA K ⟨wc.ms ++ [D], wc.S ++ [o], wc.H, w.hid⟩ (.ref wc.S.length) (.ref D) := by
  have hh : D ∈ wc.hid := by rw [b.hid]; exact List.mem_cons_self
  have hm : D ∉ wc.ms := (s.hid D hh).1
  have live : ∀ a, ¬ wc.Live a → ¬ Wd.Live ⟨wc.ms ++ [D], wc.S ++ [o], wc.H, w.hid⟩ a := fun a l hl => by
    rcases hl with hl | ⟨n, o', e1, e2, e3⟩
    · exact l (.inl (by rw [b.hid]; exact List.mem_cons_of_mem _ hl))
    · rcases ms_new e1 with ⟨hn, e1'⟩ | ⟨_, rfl⟩
      · have e2' : wc.S[n]? = some o' := by rw [← e2]; exact (List.getElem?_append_left (by rw [← s.len]; exact hn)).symm
        exact l (.inr ⟨n, o', e1', e2', e3⟩)
      · exact l (.inl hh)
  have m : Mo wc ⟨wc.ms ++ [D], wc.S ++ [o], wc.H, w.hid⟩ := ⟨⟨[D], rfl⟩, fun a h q l => ⟨q, live a l⟩⟩
  refine ⟨⟨b.mo.trans m, rfl, b.hidk⟩, ⟨by simp [s.len], ?_, fun n a h => ?_, fun n a o' h1 h2 => ?_, fun a ha => ?_⟩, new_ref (o := o) (H' := wc.H) (w := ⟨wc.ms, wc.S, wc.H, w.hid⟩) (cls := cls) (K := K) (p := D) ?_⟩
  · show (wc.ms ++ [D]).Nodup
    rw [List.nodup_append]
    exact ⟨s.nd, by simp, fun a ha c hc => by
      have : c = D := by simpa using hc
      subst this
      intro z; subst z
      exact hm ha⟩
  · rcases ms_new h with ⟨hn, h'⟩ | ⟨_, rfl⟩
    · exact s.has n a h'
    · exact hD
  · rcases ms_new h1 with ⟨hn, h1'⟩ | ⟨rfl, rfl⟩
    · have h2' : wc.S[n]? = some o' := by rw [← h2]; exact (List.getElem?_append_left (by rw [← s.len]; exact hn)).symm
      exact (s.obj n a o' h1' h2').mono m rfl
    · have h2' : (wc.S ++ [o])[wc.ms.length]? = some o' := h2
      rw [List.getElem?_append_right (by rw [s.len]; exact Nat.le_refl _)] at h2'
      have eo : o' = o := by simpa using List.mem_of_getElem? h2'
      subst eo
      exact ro _ rfl m
  · have ha : a ∈ w.hid := ha
    have ha' : a ∈ wc.hid := by rw [b.hid]; exact List.mem_cons_of_mem _ ha
    refine ⟨fun hm' => ?_, (s.hid a ha').2⟩
    have hm' : a ∈ wc.ms ++ [D] := hm'
    rcases List.mem_append.mp hm' with z | z
    · exact (s.hid a ha').1 z
    · have : a = D := by simpa using z
      subst this
      exact nh ha
  · exact (s.show_ b.hid)
/-- .. or a value -/
theorem Blt.value {K : PySem.W.Frag} {cls : Nat → Addr} {w wc : Wd} {D : Addr} {acc : List A} {accv : List V} (b : Blt w wc D) (nh : D ∉ w.hid) (s : RelS K cls wc) (hD : wc.H D = some (.lst accv)) (ra : RelAs K wc acc accv) :
    Le w (wc.show_ w.hid) ∧ RelS K cls (wc.show_ w.hid) ∧ RelA K (wc.show_ w.hid) (.lst acc) (.ref D) := by
  have hh : D ∈ wc.hid := by rw [b.hid]; exact List.mem_cons_self
  refine ⟨b.end_, s.show_ b.hid, ?_⟩
  simp only [RelA]
  refine ⟨D, accv, rfl, ⟨.inl hD, fun hl => ?_⟩, ra.mono (Mo.show_ b.hid)⟩
  rcases hl with hl | ⟨n, o, e1, e2, e3⟩
  · exact nh hl
  · exact (s.hid D hh).1 (List.mem_of_getElem? (show wc.ms[n]? = some D from e1))

section
variable {G : Gt} {cal : Cal}
/-- what is walked -/
noncomputable def iD (G : Gt) (cal : Cal) (k : IK) (src : List E) (τ : Tau) (S : List O) : R (List A × Gd) := (dens G cal src τ S).bind fun vs S1 => R.of (srcO k vs S1) S1
noncomputable def condD (G : Gt) (cal : Cal) (ifs : List E) (τ : Tau) (S : List O) : R Bool := (dens G cal ifs τ S).bind fun vs S1 => match vs with | [] => .ok true S1 | [x] => R.of (truO S1 x) S1 | _ => .no
theorem den_lc (fl : Bool) (elt : E) (t : T) (k : IK) (src ifs : List E) (own : List (Str × Nat)) (τ : Tau) (S : List O) :
    den G cal (.lc fl elt t k src ifs own) τ S = (iD G cal k src τ S).bind fun xg S1 => if xg.1.length ≤ sizeLine then (lcD xg.2 (fun a τ => T.asg t a τ) (condD G cal ifs) (fun τ S => den G cal elt τ S) (wipeT τ (own.map (·.2))) [] xg.1 S1).bind fun ys S2 => mkL fl ys S2 else .no := by
  show ((dens G cal src τ S).bind fun vs S1 => _) = _
  unfold iD
  cases dens G cal src τ S with
  | ok vs S1 =>
    simp only [R.bind_ok]
    cases srcO k vs S1 with
    | none => rfl
    | some xg => rfl
  | ex c fs S1 => rfl
  | no => rfl
theorem condD_one (e : E) (τ : Tau) (S : List O) : condD G cal [e] τ S = tst G cal e τ S := by
  show (((den G cal e τ S).bind fun x S1 => _).bind _) = _
  unfold tst
  cases den G cal e τ S <;> rfl
theorem s_lc {K : PySem.W.Frag} {ad : Ad} {W W0 : WX} {fl : Bool} {elt : E} {t : T} {k : IK} {src ifs : List E} {own : List (Str × Nat)} (hsl : ∀ i ∈ t.slots, i ∈ own.map (·.2)) {σ : L2.St} {H : Hp} {Q : VK} (h : tE K ad G W (fun τ S => den G cal (.lc fl elt t k src ifs own) τ S) σ H Q) :
    tLc (tI K ad G W (fun τ S => iD G cal k src τ S)) (gT K ad t) (tT K ad G W0 (fun τ S => condD G cal ifs τ S)) (tE K ad G W0 (fun τ S => den G cal elt τ S)) (own.map (·.2)) σ H Q := by
  obtain ⟨w, τ, e, s, rt, h⟩ := h
  have h : okR K ad G Q (fun c d H' => W c d σ H') w (den G cal (.lc fl elt t k src ifs own) τ w.S) := h
  rw [den_lc] at h
  refine ⟨w, τ, e, s, rt, okI.then (P := fun w x => okR K ad G Q (fun c d H' => W c d σ H') w x) h (fun _ _ l h => h.at l) (fun _ _ _ h => h) id ?_⟩
  rintro w1 ⟨xs, g⟩ J le s1 itm h
  intro D hD0
  have h : okR K ad G Q (fun c d H' => W c d σ H') w1 (if xs.length ≤ sizeLine then (lcD g (fun a τ => T.asg t a τ) (condD G cal ifs) (fun τ S => den G cal elt τ S) (wipeT τ (own.map (·.2))) [] xs w1.S).bind fun ys S2 => mkL fl ys S2 else .no) := h
  split at h
  case isFalse => exact h.elim
  rename_i hz
  have nh : D ∉ w1.hid := fun z => by
    obtain ⟨_, o, q⟩ := s1.hid D z
    rw [hD0] at q; cases q
  have rt1 : RelT K w1 τ σ := rt.mono le.mo
  generalize hvs : own.map (·.2) = vs at h hsl ⊢
  refine ⟨fun i n H => ∃ wc acc accv, wc.H = H ∧ RelS K ad.cls wc ∧ Blt w1 wc D ∧ RelT K wc (wipeT τ vs) (L2.wipe σ vs) ∧ wc.H D = some (.lst accv) ∧ RelAs K wc acc accv ∧ acc.length ≤ i ∧ n = xs.length - i ∧ i ≤ xs.length ∧
    okR K ad G Q (fun c d H' => W c d σ H') w1 ((lcD g (fun a τ => T.asg t a τ) (condD G cal ifs) (fun τ S => den G cal elt τ S) (wipeT τ vs) acc (xs.drop i) wc.S).bind fun ys S2 => mkL fl ys S2), ⟨xs.length, w1.hide D (.lst []), [], [], rfl, s1.hide hD0, Blt.start hD0, (rt1.mono (Mo.hide hD0)).wipe vs, upd_same, RelAs.nil, Nat.zero_le _, by simp, Nat.zero_le _, h⟩, ?_⟩
  rintro i n H2 ⟨wc, acc, accv, rfl, sc, b, rtc, hDc, ra, hacc, rfl, hi, hr⟩
  by_cases hlt : i < xs.length
  · right
    have hdrop : xs.drop i = xs[i] :: xs.drop (i + 1) := List.drop_eq_getElem_cons hlt
    rw [hdrop] at hr
    have gk : g.ok wc.S := by
      by_cases gk : g.ok wc.S
      · exact gk
      · simp only [lcD, if_neg gk] at hr
        exact hr.elim
    simp only [lcD, if_pos gk] at hr
    obtain ⟨go, yl⟩ := (itm wc b.mo sc gk i).2 xs[i] (List.getElem?_eq_getElem hlt)
    refine ⟨go, fun H' => ∃ wc acc accv, wc.H = H' ∧ RelS K ad.cls wc ∧ Blt w1 wc D ∧ RelT K wc (wipeT τ vs) (L2.wipe σ vs) ∧ wc.H D = some (.lst accv) ∧ RelAs K wc acc accv ∧ acc.length ≤ i + 1 ∧
      okR K ad G Q (fun c d H' => W c d σ H') w1 ((lcD g (fun a τ => T.asg t a τ) (condD G cal ifs) (fun τ S => den G cal elt τ S) (wipeT τ vs) acc (xs.drop (i + 1)) wc.S).bind fun ys S2 => mkL fl ys S2), ?_, ?_⟩
    · rintro H' ⟨wd, acc', accv', e1, e2, e3, e4, e5, e6, e7, e8⟩
      exact ⟨xs.length - (i + 1), by omega, wd, acc', accv', e1, e2, e3, e4, e5, e6, e7, rfl, hlt, e8⟩
    · intro x H' hy
      obtain ⟨w2, e2, eS2, l2, s2, r2⟩ := yl x H' hy
      cases ea : T.asg t xs[i] (wipeT τ vs) with
      | none => rw [ea] at hr; exact hr.elim
      | some τ1 =>
        rw [ea] at hr
        have hr : okR K ad G Q (fun c d H' => W c d σ H') w1 (R.bind (match condD G cal ifs τ1 wc.S with
          | .ok true S1 => match den G cal elt τ1 S1 with
            | .ok y S2 => lcD g (fun a τ => T.asg t a τ) (condD G cal ifs) (fun τ S => den G cal elt τ S) (wipeT τ vs) (acc ++ [y]) (xs.drop (i + 1)) S2
            | _ => .no
          | .ok false S1 => lcD g (fun a τ => T.asg t a τ) (condD G cal ifs) (fun τ S => den G cal elt τ S) (wipeT τ vs) acc (xs.drop (i + 1)) S1
          | _ => .no) fun ys S2 => mkL fl ys S2) := hr
        refine ⟨w2, wipeT τ vs, xs[i], τ1, e2, s2, rtc.mono l2.mo, r2, ea, fun w3 σ3 eS3 l3 s3 rt3 chg => ⟨?_, ?_⟩⟩
        · rw [chg.wipe hsl, wipe_wipe]
        · refine ⟨w3, τ1, rfl, s3, rt3, ?_⟩
          show okB K ad G _ _ w3 (condD G cal ifs τ1 w3.S)
          rw [eS3, eS2]
          cases ec : condD G cal ifs τ1 wc.S with
          | no => rw [ec] at hr; exact hr.elim
          | ex c fs S1 => rw [ec] at hr; exact hr.elim
          | ok kk S1 =>
            rw [ec] at hr
            intro w4 eS4 l4 s4
            have l24 : Le wc w4 := l2.trans (l3.trans l4)
            cases kk with
            | false =>
              rw [if_neg (by decide)]
              refine ⟨w4, acc, accv, rfl, s4, b.le l24, rtc.mono l24.mo, ?_, ra.mono l24.mo, by omega, by rw [eS4]; exact hr⟩
              exact l24.hidk D (by rw [b.hid]; exact List.mem_cons_self) _ hDc
            | true =>
              rw [if_pos rfl]
              refine ⟨w4, τ1, rfl, s4, rt3.mono l4.mo, ?_⟩
              show okR K ad G _ _ w4 (den G cal elt τ1 w4.S)
              rw [eS4]
              have hr : okR K ad G Q (fun c d H' => W c d σ H') w1 (R.bind (match den G cal elt τ1 S1 with
                | .ok y S2 => lcD g (fun a τ => T.asg t a τ) (condD G cal ifs) (fun τ S => den G cal elt τ S) (wipeT τ vs) (acc ++ [y]) (xs.drop (i + 1)) S2
                | _ => .no) fun ys S2 => mkL fl ys S2) := hr
              cases ed : den G cal elt τ1 S1 with
              | no => rw [ed] at hr; exact hr.elim
              | ex c fs S1 => rw [ed] at hr; exact hr.elim
              | ok y S2 =>
                rw [ed] at hr
                intro w5 v eS5 l5 s5 r5
                have l25 : Le wc w5 := l24.trans l5
                have b5 := b.le l25
                have hh : D ∈ w5.hid := by rw [b5.hid]; exact List.mem_cons_self
                have hD5 : w5.H D = some (.lst accv) := l25.hidk D (by rw [b.hid]; exact List.mem_cons_self) _ hDc
                have ra5 := ra.mono l25.mo
                have m5 : Mo w5 (w5.poke D (.lst (accv ++ [v]))) := Mo.poke hh
                refine ⟨accv, hD5, by have := ra.length; omega, w5.poke D (.lst (accv ++ [v])), acc ++ [y], accv ++ [v], rfl, s5.poke hh, b5.poke hD0, (rtc.mono l25.mo).mono m5, upd_same, (ra5.append (RelAs.cons r5 RelAs.nil)).mono m5, by simp; omega, ?_⟩
                show okR K ad G Q _ w1 (R.bind (lcD _ _ _ _ _ _ _ w5.S) _)
                rw [eS5]; exact hr
  · left
    have e : i = xs.length := by omega
    subst e
    rw [List.drop_length] at hr
    have gk : g.ok wc.S := by
      by_cases gk : g.ok wc.S
      · exact gk
      · simp only [lcD, if_neg gk] at hr
        exact hr.elim
    simp only [lcD, if_pos gk, R.bind_ok] at hr
    refine ⟨(itm wc b.mo sc gk xs.length).1 rfl, ?_⟩
    cases fl with
    | true =>
      obtain ⟨h1, h2, h3⟩ := b.adopt (o := .lst acc) nh sc ⟨_, hDc⟩ (fun w' e m => ⟨accv, by rw [e]; exact hDc, ra.mono m⟩)
      exact hr ⟨wc.ms ++ [D], wc.S ++ [.lst acc], wc.H, w1.hid⟩ _ rfl h1 h2 h3
    | false =>
      obtain ⟨h1, h2, h3⟩ := b.value nh sc hDc ra
      exact hr (wc.show_ w1.hid) _ rfl h1 h2 h3
/-! ### a dict's comprehension -/
def kvR (K : PySem.W.Frag) (w : Wd) (p : A × A) (q : Key × V) : Prop := keyOf p.1 = some q.1 ∧ okKey p.1 ∧ RelA K w p.2 q.2
theorem kvR.mono {K : PySem.W.Frag} {w w' : Wd} {kvs : List (A × A)} {ws : List (Key × V)} (h : Paired (kvR K w) kvs ws) (m : Mo w w') : Paired (kvR K w') kvs ws := Paired.mapP h fun _ _ z => ⟨z.1, z.2.1, z.2.2.mono m⟩
theorem putO_len (kvs : List (A × A)) (k v : A) : (putO kvs k v).length ≤ kvs.length + 1 := by
  unfold putO
  split <;> simp
noncomputable def kvD (G : Gt) (cal : Cal) (ke ve : E) (τ : Tau) (S : List O) : R (A × A) := (den G cal ke τ S).bind fun a S1 => (den G cal ve τ S1).bind fun b S2 => .ok (a, b) S2
theorem den_dc (ke ve : E) (t : T) (k : IK) (src ifs : List E) (own : List (Str × Nat)) (τ : Tau) (S : List O) :
    den G cal (.dc ke ve t k src ifs own) τ S = (iD G cal k src τ S).bind fun xg S1 => if xg.1.length ≤ 1000000 then (dcD xg.2 (fun a τ => T.asg t a τ) (condD G cal ifs) (kvD G cal ke ve) (wipeT τ (own.map (·.2))) [] xg.1 S1).bind fun ys S2 => R.ok (A.ref S2.length) (S2 ++ [O.dic false ys]) else .no := by
  show ((dens G cal src τ S).bind fun vs S1 => _) = _
  unfold iD
  cases dens G cal src τ S with
  | ok vs S1 =>
    simp only [R.bind_ok]
    cases srcO k vs S1 with
    | none => rfl
    | some xg => rfl
  | ex c fs S1 => rfl
  | no => rfl
theorem s_dc {K : PySem.W.Frag} {ad : Ad} {W W0 : WX} {ke ve : E} {t : T} {k : IK} {src ifs : List E} {own : List (Str × Nat)} (hsl : ∀ i ∈ t.slots, i ∈ own.map (·.2)) {σ : L2.St} {H : Hp} {Q : VK} (h : tE K ad G W (fun τ S => den G cal (.dc ke ve t k src ifs own) τ S) σ H Q) :
    tDc (tI K ad G W (fun τ S => iD G cal k src τ S)) (gT K ad t) (tT K ad G W0 (fun τ S => condD G cal ifs τ S)) (tE K ad G W0 (fun τ S => den G cal ke τ S)) (tE K ad G W0 (fun τ S => den G cal ve τ S)) (own.map (·.2)) σ H Q := by
  obtain ⟨w, τ, e, s, rt, h⟩ := h
  have h : okR K ad G Q (fun c d H' => W c d σ H') w (den G cal (.dc ke ve t k src ifs own) τ w.S) := h
  rw [den_dc] at h
  refine ⟨w, τ, e, s, rt, okI.then (P := fun w x => okR K ad G Q (fun c d H' => W c d σ H') w x) h (fun _ _ l h => h.at l) (fun _ _ _ h => h) id ?_⟩
  rintro w1 ⟨xs, g⟩ J le s1 itm h
  intro D hD0
  have h : okR K ad G Q (fun c d H' => W c d σ H') w1 (if xs.length ≤ 1000000 then (dcD g (fun a τ => T.asg t a τ) (condD G cal ifs) (kvD G cal ke ve) (wipeT τ (own.map (·.2))) [] xs w1.S).bind fun ys S2 => R.ok (A.ref S2.length) (S2 ++ [O.dic false ys]) else .no) := h
  split at h
  case isFalse => exact h.elim
  rename_i hz
  have hbig : (1000000 : Nat) < sizeLine := by decide
  have nh : D ∉ w1.hid := fun z => by
    obtain ⟨_, o, q⟩ := s1.hid D z
    rw [hD0] at q; cases q
  have rt1 : RelT K w1 τ σ := rt.mono le.mo
  generalize hvs : own.map (·.2) = vs at h hsl ⊢
  refine ⟨fun i n H => ∃ wc acc accv, wc.H = H ∧ RelS K ad.cls wc ∧ Blt w1 wc D ∧ RelT K wc (wipeT τ vs) (L2.wipe σ vs) ∧ wc.H D = some (.dK accv) ∧ Paired (kvR K wc) acc accv ∧ acc.length ≤ i ∧ n = xs.length - i ∧ i ≤ xs.length ∧
    okR K ad G Q (fun c d H' => W c d σ H') w1 ((dcD g (fun a τ => T.asg t a τ) (condD G cal ifs) (kvD G cal ke ve) (wipeT τ vs) acc (xs.drop i) wc.S).bind fun ys S2 => R.ok (A.ref S2.length) (S2 ++ [O.dic false ys])), ⟨xs.length, w1.hide D (.dK []), [], [], rfl, s1.hide hD0, Blt.start hD0, (rt1.mono (Mo.hide hD0)).wipe vs, upd_same, .nil, Nat.zero_le _, by simp, Nat.zero_le _, h⟩, ?_⟩
  rintro i n H2 ⟨wc, acc, accv, rfl, sc, b, rtc, hDc, ra, hacc, rfl, hi, hr⟩
  by_cases hlt : i < xs.length
  · right
    have hdrop : xs.drop i = xs[i] :: xs.drop (i + 1) := List.drop_eq_getElem_cons hlt
    rw [hdrop] at hr
    have gk : g.ok wc.S := by
      by_cases gk : g.ok wc.S
      · exact gk
      · simp only [dcD, if_neg gk] at hr
        exact hr.elim
    simp only [dcD, if_pos gk] at hr
    obtain ⟨go, yl⟩ := (itm wc b.mo sc gk i).2 xs[i] (List.getElem?_eq_getElem hlt)
    refine ⟨go, fun H' => ∃ wc acc accv, wc.H = H' ∧ RelS K ad.cls wc ∧ Blt w1 wc D ∧ RelT K wc (wipeT τ vs) (L2.wipe σ vs) ∧ wc.H D = some (.dK accv) ∧ Paired (kvR K wc) acc accv ∧ acc.length ≤ i + 1 ∧
      okR K ad G Q (fun c d H' => W c d σ H') w1 ((dcD g (fun a τ => T.asg t a τ) (condD G cal ifs) (kvD G cal ke ve) (wipeT τ vs) acc (xs.drop (i + 1)) wc.S).bind fun ys S2 => R.ok (A.ref S2.length) (S2 ++ [O.dic false ys])), ?_, ?_⟩
    · rintro H' ⟨wd, acc', accv', e1, e2, e3, e4, e5, e6, e7, e8⟩
      exact ⟨xs.length - (i + 1), by omega, wd, acc', accv', e1, e2, e3, e4, e5, e6, e7, rfl, hlt, e8⟩
    · intro x H' hy
      obtain ⟨w2, e2, eS2, l2, s2, r2⟩ := yl x H' hy
      cases ea : T.asg t xs[i] (wipeT τ vs) with
      | none => rw [ea] at hr; exact hr.elim
      | some τ1 =>
        rw [ea] at hr
        have hr : okR K ad G Q (fun c d H' => W c d σ H') w1 (R.bind (match condD G cal ifs τ1 wc.S with
          | .ok true S1 => match kvD G cal ke ve τ1 S1 with
            | .ok y S2 => if (keyOf y.1).isSome then dcD g (fun a τ => T.asg t a τ) (condD G cal ifs) (kvD G cal ke ve) (wipeT τ vs) (putO acc y.1 y.2) (xs.drop (i + 1)) S2 else .no
            | _ => .no
          | .ok false S1 => dcD g (fun a τ => T.asg t a τ) (condD G cal ifs) (kvD G cal ke ve) (wipeT τ vs) acc (xs.drop (i + 1)) S1
          | _ => .no) fun ys S2 => R.ok (A.ref S2.length) (S2 ++ [O.dic false ys])) := hr
        refine ⟨w2, wipeT τ vs, xs[i], τ1, e2, s2, rtc.mono l2.mo, r2, ea, fun w3 σ3 eS3 l3 s3 rt3 chg => ⟨?_, ?_⟩⟩
        · rw [chg.wipe hsl, wipe_wipe]
        · refine ⟨w3, τ1, rfl, s3, rt3, ?_⟩
          show okB K ad G _ _ w3 (condD G cal ifs τ1 w3.S)
          rw [eS3, eS2]
          cases ec : condD G cal ifs τ1 wc.S with
          | no => rw [ec] at hr; exact hr.elim
          | ex c fs S1 => rw [ec] at hr; exact hr.elim
          | ok kk S1 =>
            rw [ec] at hr
            intro w4 eS4 l4 s4
            have l24 : Le wc w4 := l2.trans (l3.trans l4)
            cases kk with
            | false =>
              rw [if_neg (by decide)]
              refine ⟨w4, acc, accv, rfl, s4, b.le l24, rtc.mono l24.mo, ?_, kvR.mono ra l24.mo, by omega, by rw [eS4]; exact hr⟩
              exact l24.hidk D (by rw [b.hid]; exact List.mem_cons_self) _ hDc
            | true =>
              rw [if_pos rfl]
              refine ⟨w4, τ1, rfl, s4, rt3.mono l4.mo, ?_⟩
              show okR K ad G _ _ w4 (den G cal ke τ1 w4.S)
              rw [eS4]
              have hr : okR K ad G Q (fun c d H' => W c d σ H') w1 (R.bind (match kvD G cal ke ve τ1 S1 with
                | .ok y S2 => if (keyOf y.1).isSome then dcD g (fun a τ => T.asg t a τ) (condD G cal ifs) (kvD G cal ke ve) (wipeT τ vs) (putO acc y.1 y.2) (xs.drop (i + 1)) S2 else .no
                | _ => .no) fun ys S2 => R.ok (A.ref S2.length) (S2 ++ [O.dic false ys])) := hr
              unfold kvD at hr
              cases ed : den G cal ke τ1 S1 with
              | no => rw [ed] at hr; exact hr.elim
              | ex c fs S1 => rw [ed] at hr; exact hr.elim
              | ok y S2 =>
                rw [ed, R.bind_ok] at hr
                intro w5 v eS5 l5 s5 r5
                refine ⟨w5, τ1, rfl, s5, (rt3.mono l4.mo).mono l5.mo, ?_⟩
                show okR K ad G _ _ w5 (den G cal ve τ1 w5.S)
                rw [eS5]
                cases ev : den G cal ve τ1 S2 with
                | no => rw [ev] at hr; exact hr.elim
                | ex c fs S1 => rw [ev] at hr; exact hr.elim
                | ok z S3 =>
                  rw [ev, R.bind_ok] at hr
                  have hr : okR K ad G Q (fun c d H' => W c d σ H') w1 (R.bind (if (keyOf y).isSome then dcD g (fun a τ => T.asg t a τ) (condD G cal ifs) (kvD G cal ke ve) (wipeT τ vs) (putO acc y z) (xs.drop (i + 1)) S3 else .no) fun ys S2 => R.ok (A.ref S2.length) (S2 ++ [O.dic false ys])) := hr
                  split at hr
                  case isFalse => exact hr.elim
                  rename_i hk
                  obtain ⟨kk, ek⟩ := Option.isSome_iff_exists.mp hk
                  intro w6 u eS6 l6 s6 r6
                  have l25 : Le wc w6 := (l24.trans l5).trans l6
                  have b5 := b.le l25
                  have hh : D ∈ w6.hid := by rw [b5.hid]; exact List.mem_cons_self
                  have hD5 : w6.H D = some (.dK accv) := l25.hidk D (by rw [b.hid]; exact List.mem_cons_self) _ hDc
                  have ra5 := kvR.mono ra l25.mo
                  have ev := keyOf_kV r5 ek
                  subst ev
                  have m5 : Mo w6 (w6.poke D (.dK (putK accv kk u))) := Mo.poke hh
                  have rp : Paired (kvR K w6) (putO acc y z) (putK accv kk u) := putO_put (f := keyOf) (fun h1 h2 => eqv_key h1 h2) ek (okKey_of r5) r6 ra5
                  have pl := putO_len acc y z
                  refine ⟨accv, kk, rfl, hD5, by have := ra.length; omega, w6.poke D (.dK (putK accv kk u)), putO acc y z, putK accv kk u, rfl, s6.poke hh, b5.poke hD0, (rtc.mono l25.mo).mono m5, upd_same, kvR.mono rp m5, by omega, ?_⟩
                  show okR K ad G Q _ w1 (R.bind (dcD _ _ _ _ _ _ _ w6.S) _)
                  rw [eS6]; exact hr
  · left
    have e : i = xs.length := by omega
    subst e
    rw [List.drop_length] at hr
    have gk : g.ok wc.S := by
      by_cases gk : g.ok wc.S
      · exact gk
      · simp only [dcD, if_neg gk] at hr
        exact hr.elim
    simp only [dcD, if_pos gk, R.bind_ok] at hr
    refine ⟨(itm wc b.mo sc gk xs.length).1 rfl, ?_⟩
    obtain ⟨h1, h2, h3⟩ := b.adopt (o := .dic false acc) nh sc ⟨_, hDc⟩ (fun w' e m => ⟨accv, by rw [e]; exact hDc, kvR.mono ra m⟩)
    exact hr ⟨wc.ms ++ [D], wc.S ++ [.dic false acc], wc.H, w1.hid⟩ _ rfl h1 h2 h3
end
end Lt
/-! a set of texts that is being made -/
namespace Lt
open PySem PySem.Spec PyProof.Rows L2
def SetTO (P : Program) (w : World) (a : Addr) (S : Str → Bool) (n : Nat) : HO := .ext fun h => h.SetOf (strKind P w) a S n
theorem setTO_new {w : World} {P : Program} {H : Hp} {h : Heap} {a : Addr} {S : Str → Bool} {n : Nat} (R : h.SetOf (strKind P w) a S n) : ObjOk P w H h a (SetTO P w a S n) := by
  have ⟨o, es, ep, t, ho, r⟩ := R
  exact ⟨R, ⟨o, ho⟩, fun h1 h2 p k => let ⟨o, es, ep, t, ho, r⟩ := p; ⟨o, es, ep, t, k o ho, r⟩⟩
theorem addT_ok {X : Cx} {pins : List (Addr × Obj)} {σ : L2.St} {H : Hp} {s : Shared} {E : Value → Shared → Prop} {D : Addr} {S : Str → Bool} {n : Nat} {y : Str} {tk : Tok} {Q : Value → Shared → Prop} (I : Inv X pins σ H s) (hD : H D = some (SetTO X.prog X.w D S n)) (room : n + 1 < scanBound)
    (h : ∀ s', Inv X pins σ (upd H D (SetTO X.prog X.w D (fun j => S j || decide (j = y)) (if S y = true then n else n + 1))) s' → Q .none s') : wpAny (model X.prog X.w) X.A (call (.builtin "set.add") [.ref D, .str y tk]) Q E s := by
  have R : s.heap.SetOf (strKind X.prog X.w) D S n := (I.hok D _ hD).1
  refine call_set_add (knd := strKind X.prog X.w) (k := y) (strKind_is _ _ _ _) rfl R room fun h' sb new => ?_
  have he : ∃ u, h'.get? D = some u := by
    have ⟨o, _, _, _, ho, _⟩ := new
    exact ⟨o, ho⟩
  exact h _ (I.write (e := D) (t' := s.toks + 1) (by rw [hD]; trivial) (.inl rfl) (fun b u hb hu => (sb.2 b hb).trans hu) he (setTO_new new))

section
variable {X : Cx}
/-- {elt for target in iter if ..}, elt a text: DD the new set -/
def tScT (P : Program) (w : World) (walkI : TI) (g : TG) (ifsT : TT) (eltE : TE) (vs : List Nat) : TE := fun σ H Q => walkI σ H fun J Hq => ∀ DD, Hq DD = none → ∃ WW : Nat → Nat → Hp → Prop, (∃ m, WW 0 m (upd Hq DD (SetTO P w DD (fun _ => false) 0))) ∧
  ∀ i m H, WW i m H → (J.stop i H ∧ Q (.ref DD) H) ∨ (J.go i H ∧ ∃ Nxt : Hp → Prop, (∀ H', Nxt H' → ∃ m', m' < m ∧ WW (i + 1) m' H') ∧
    ∀ x H', J.yld i H x H' → g x (L2.wipe σ vs) H' fun σ2 Hq => L2.wipe σ2 vs = L2.wipe σ vs ∧ ifsT σ2 Hq fun b Hr => if b = true then eltE σ2 Hr fun y H4 =>
      ∃ (c : Str) (S : Str → Bool) (n : Nat), y = .str c ∧ H4 DD = some (SetTO P w DD S n) ∧ n + 1 < scanBound ∧ Nxt (upd H4 DD (SetTO P w DD (fun j => S j || decide (j = c)) (if S c = true then n else n + 1))) else Nxt Hr)
open PpSet in
theorem scT_core {pins : List (Addr × Obj)} {s : Shared} {σ : L2.St} {H : Hp} {Q : VK} {elt tg iter : Expr} {ifs : List Expr} {scope : Scope} {own : List (PySem.Str × Nat)} {pos pos' : Pos} {walkI : TI} {g : TG} {ifsT : TT} {eltE : TE} {usage : Option (Value → Sem Unit)} {Qfin : Value → Shared → Prop}
    (calmX : X.calm = true) (ndN : X.N.Nodup) (J0 : Inv X pins σ H s) (pIter : PI X tg iter walkI) (blk : BlkOk X.N X.env.scope scope own)
    (gTgt : ∀ (s : Shared) (H : Hp) (C : Addr) (cl : List (PySem.Str × Addr)) (fps : List Addr), PG (X.blk s H scope (compEnvC scope cl C X.env) fps) tg g) (gIfs : ∀ (s : Shared) (H : Hp) (C : Addr) (cl : List (PySem.Str × Addr)) (fps : List Addr), PTs (X.blk s H scope (compEnvC scope cl C X.env) fps) ifs ifsT)
    (gElt : ∀ (s : Shared) (H : Hp) (C : Addr) (cl : List (PySem.Str × Addr)) (fps : List Addr), PE (X.blk s H scope (compEnvC scope cl C X.env) fps) elt eltE) (plainS : ∀ x, foldedSetIterable iter X.env x = pure x)
    (h : tScT X.prog X.w walkI g ifsT eltE (own.map (·.2)) σ H Q)
    (andThen : ∀ DD C s' m H', Inv X pins σ H' s' → Q (.ref DD) H' → s'.heap.Ns C m → FpOk X pins H' C → compPost (model X.prog X.w) X.A X.xe usage Qfin (.ref DD) C (.ok .next) s') :
    wpAny (model X.prog X.w) X.A (comprehension (.SetComp elt [⟨tg, iter, ifs, 0⟩] scope pos) scope X.env pos' (newSet (.type "set")) false (eval iter X.env) usage) Qfin X.xe s := by
  have freeOk : ∀ y ∈ scope.names, y.2 = .free → ∃ c, X.env.cells.lookup y.1 = some c := fun y hy e => by
    rcases blk.free y hy e with k | k
    · exact J0.ok.has _ (.inl k)
    · exact J0.ok.has _ (.inr k)
  refine wpAny_comprehension_free (use := usage) rfl plainS (closure_ok freeOk) blk.kind (fun y hy e => by rw [blk.uniq y hy, e])
    (thn (pIter.run pins s σ H _ J0 h) fun xval s1 hx => thn hx fun itval sh2 h2 => ?_)
  obtain ⟨itr, fps, tnd, J, Hq, e, J2, T, at2, g2, q⟩ := h2
  subst e
  refine newSet_ok (newEnv_comp ?_)
  generalize eqD : sh2.heap.objs.size = DD
  have noneD : Hq DD = none := J2.hok.fresh (Nat.le_of_eq eqD)
  obtain ⟨WW, ⟨meas, w0⟩, turnW⟩ := q DD noneD
  -- the new set
  generalize eSh3 : ({ sh2 with heap := sh2.heap.push { cls := .type "set", dict := none, data := .set #[] 0 (.fresh 0 0 (!X.w.params.followText "set-order")) } } : Shared) = sh3
  have J3 : Inv X pins σ (upd Hq DD (SetTO X.prog X.w DD (fun _ => false) 0)) sh3 := by
    rw [← eSh3]
    refine J2.laid (t' := sh2.toks) (fun b o e => Heap.get?_push_of_some _ e) (Nat.le_of_eq eqD) ?_
    rw [← eqD]
    exact setTO_new ((setObjOf_fresh (knd := strKind X.prog X.w) _).setOf (Heap.get?_push_size _ rfl) (by decide))
  have heap3 : sh3.heap = sh2.heap.push { cls := .type "set", dict := none, data := .set #[] 0 (.fresh 0 0 (!X.w.params.followText "set-order")) } := by rw [← eSh3]
  have szs : ∀ b ∈ fps, b < sh2.heap.objs.size := fun b hb => by
    obtain ⟨o, e, _⟩ := T.obj _ _ at2 b hb
    exact Heap.lt_size e
  have g3 : ∀ b ∈ fps, FpOk X pins (upd Hq DD (SetTO X.prog X.w DD (fun _ => false) 0)) b ∧ b < sh3.heap.objs.size := fun b hb => by
    have hlt := szs b hb
    refine ⟨⟨?_, (g2 b hb).2⟩, by rw [heap3, Heap.size_push]; exact Nat.lt_succ_of_lt hlt⟩
    rw [upd_ne (by rw [← eqD]; exact Nat.ne_of_lt hlt)]
    exact (g2 b hb).1
  have at3 : tnd 0 sh3.heap := T.keep _ _ _ at2 fun b _ o e => by rw [heap3]; exact Heap.get?_push_of_some _ e
  have J4 := block_start J3 blk ndN g3
  have gp := gTgt sh3 (upd Hq DD (SetTO X.prog X.w DD (fun _ => false) 0)) sh3.heap.objs.size (cellsFrom (sh3.heap.objs.size + 1) scope.names (cloFrom X.env.cells scope.names [])) fps
  have tp := gIfs sh3 (upd Hq DD (SetTO X.prog X.w DD (fun _ => false) 0)) sh3.heap.objs.size (cellsFrom (sh3.heap.objs.size + 1) scope.names (cloFrom X.env.cells scope.names [])) fps
  have ep := gElt sh3 (upd Hq DD (SetTO X.prog X.w DD (fun _ => false) 0)) sh3.heap.objs.size (cellsFrom (sh3.heap.objs.size + 1) scope.names (cloFrom X.env.cells scope.names [])) fps
  show codeAny _ _ (.compStart (.SetComp elt [⟨tg, iter, ifs, 0⟩] scope pos) 0 (.ref itr) (.ref DD) (compEnvC scope (cellsFrom (sh3.heap.objs.size + 1) scope.names (cloFrom X.env.cells scope.names [])) sh3.heap.objs.size X.env)) (compPost (model X.prog X.w) X.A X.xe usage Qfin (.ref DD) sh3.heap.objs.size) { sh3 with heap := pushCells (sh3.heap.push { cls := .type "dict", data := .dict #[] }) scope.names }
  have noFp : ∀ b ∈ fps, (upd Hq DD (SetTO X.prog X.w DD (fun _ => false) 0)) b = none := fun b hb => (g3 b hb).1.1
  generalize eCe : compEnvC scope (cellsFrom (sh3.heap.objs.size + 1) scope.names (cloFrom X.env.cells scope.names [])) sh3.heap.objs.size X.env = cenv at J4 gp tp ep ⊢
  have cLoc : cenv.locals = sh3.heap.objs.size := by subst eCe; rfl
  generalize eHr : upd Hq DD (SetTO X.prog X.w DD (fun _ => false) 0) = Hr at J3 J4 gp tp ep w0 noFp g3
  generalize eSh4 : ({ sh3 with heap := pushCells (sh3.heap.push { cls := .type "dict", data := .dict #[] }) scope.names } : Shared) = sh4 at J4 ⊢
  have at4 : tnd 0 sh4.heap := T.keep _ _ _ at3 fun b _ o e => by rw [← eSh4]; exact pushCells_keeps _ _ _ _ (Heap.get?_push_of_some _ e)
  have stays : ∀ {σ' : L2.St} {H' : Hp} {s' : Shared}, Inv (X.blk sh3 Hr scope cenv fps) [] σ' H' s' → (∀ b ∈ fps, H' b = none) → ∀ b ∈ fps, FpOk (X.blk sh3 Hr scope cenv fps) [] H' b := fun {σ' H' s'} Jn hn b hb =>
    ⟨hn b hb, (Jn.ok.exf b hb).1, Jn.ok.exfs b hb, .inl hb, fun x c e => (Jn.ok.exf b hb).2 x c e, fun p hp => absurd (show p ∈ ([] : List (Addr × Obj)) ++ [] from hp) (by simp)⟩
  have theLoop : codeAny (model X.prog X.w) X.A (.compLoop (.SetComp elt [⟨tg, iter, ifs, 0⟩] scope pos) 0 (.ref itr) (.ref DD) cenv) (compPost (model X.prog X.w) X.A X.xe usage Qfin (.ref DD) sh3.heap.objs.size) sh4 := by
    refine compLoopS_any (fun n s' => ∃ i H', Inv (X.blk sh3 Hr scope cenv fps) [] (L2.wipe σ (own.map (·.2))) H' s' ∧ tnd i s'.heap ∧ (∀ b ∈ fps, H' b = none) ∧ WW i n H') ?_ meas ⟨0, Hr, J4, at4, noFp, w0⟩
    rintro n sh5 ⟨i, Hs, J5, at5, n5, w5⟩
    rcases turnW i n Hs w5 with ⟨halts, wantQ⟩ | ⟨goes, Nxt, useN, stepW⟩
    · have td := T.done (X.blk sh3 Hr scope cenv fps) rfl rfl rfl calmX i [] sh5 _ Hs (fun _ _ => False) J5 (stays J5 n5) at5 halts
      refine thnF td fun r sh6 ⟨hr, J6⟩ => ?_
      subst hr
      have J7 : Inv X pins σ Hs sh6 := J3.call' (ch := fps) J6.os J6.base J6.hok J6.bare fun b hb => ⟨(g3 b hb).1.2.2.2.1, (g3 b hb).1.2.1, (g3 b hb).1.2.2.2.2.1, (g3 b hb).1.2.2.2.2.2⟩
      have nC : Hs sh3.heap.objs.size = none := by
        have z : Hs cenv.locals = none := J6.free
        rw [cLoc] at z
        exact z
      obtain ⟨m, hn, _⟩ := J6.loc
      have hn : sh6.heap.Ns cenv.locals m := hn
      rw [cLoc] at hn
      exact andThen DD sh3.heap.objs.size sh6 m Hs J7 wantQ hn (J3.fpOk (Nat.le_refl _) nC)
    · have ti := T.item (X.blk sh3 Hr scope cenv fps) rfl rfl rfl calmX i [] sh5 _ Hs (fun _ _ => False) J5 (stays J5 n5) at5 goes
      refine thnF ti fun r sh6 ⟨u, hr, h6⟩ => ?_
      subst hr
      refine thnF h6 fun _ sh7 ⟨x, H7, J7, r7, y7, at7, n7⟩ => ?_
      have J7' := J7.pinned (stays J7 n7) (T.obj _ _ at7)
      refine thnF (gp.run _ sh7 _ H7 x u _ J7' r7 (stepW x H7 y7)) fun _ sh8 ⟨σ8, H8, J8, hw8, q8⟩ => ?_
      refine thnF (tp.run _ sh8 σ8 H8 _ J8 q8) fun b sh9 ⟨H9, J9, q9⟩ => ?_
      -- the turn's end
      have turnEnd : ∀ {s' : Shared} {H' : Hp}, Inv (X.blk sh3 Hr scope cenv fps) ([] ++ pinsAt fps sh7.heap) σ8 H' s' → Nxt H' → ∃ m, m < n ∧ ∃ i H', Inv (X.blk sh3 Hr scope cenv fps) [] (L2.wipe σ (own.map (·.2))) H' s' ∧ tnd i s'.heap ∧ (∀ b ∈ fps, H' b = none) ∧ WW i m H' := fun {s' H'} Jn nx => by
        obtain ⟨m', hm, w'⟩ := useN H' nx
        have pinB : ∀ b ∈ fps, ∀ o, sh7.heap.get? b = some o → s'.heap.get? b = some o ∧ H' b = none := fun b hb o e =>
          let z := Jn.pin (b, o) (List.mem_append_right _ (List.mem_append_right _ (mem_pinsAt hb e)))
          ⟨z.1, z.2.1⟩
        have hl : (L2.wipe σ (own.map (·.2))).length = σ8.length := by rw [← hw8, wipe_length]
        refine ⟨m', hm, i + 1, H', (Jn.unpinned (pins := [])).weak hl (fun j v e => ?_), T.keep _ _ _ at7 fun b hb o e => (pinB b hb o e).1, fun b hb => ?_, w'⟩
        · rw [← hw8] at e
          exact (wipe_some e).1
        · obtain ⟨o, e, _⟩ := T.obj _ _ at7 b hb
          exact (pinB b hb o e).2
      cases b with
      | false =>
        simp only [Bool.false_eq_true, if_false] at q9 ⊢
        exact turnEnd J9 q9
      | true =>
        simp only [if_true] at q9 ⊢
        refine thnF (ep.run _ sh9 σ8 H9 _ J9 q9) fun z sh10 ⟨yv, H10, J10, r10, cb, S0, n0, ey, hD10, hz10, nx⟩ => ?_
        subst ey
        obtain ⟨tk, rfl⟩ := r10
        exact addT_ok (X := X.blk sh3 Hr scope cenv fps) J10 hD10 hz10 fun sh11 J11 => turnEnd J11 nx
  exact codeAny_compStart_set theLoop (T.self X.A 0 _ _ _ at4 theLoop)
open PpSet in
/-- .. as a value -/
theorem pe_scT {elt tg iter : Expr} {ifs : List Expr} {scope : Scope} {own : List (PySem.Str × Nat)} {pos : Pos} {walkI : TI} {g : TG} {ifsT : TT} {eltE : TE} (calmX : X.calm = true) (ndN : X.N.Nodup) (pIter : PI X tg iter walkI) (blk : BlkOk X.N X.env.scope scope own)
    (gTgt : ∀ (s : Shared) (H : Hp) (C : Addr) (cl : List (PySem.Str × Addr)) (fps : List Addr), PG (X.blk s H scope (compEnvC scope cl C X.env) fps) tg g) (gIfs : ∀ (s : Shared) (H : Hp) (C : Addr) (cl : List (PySem.Str × Addr)) (fps : List Addr), PTs (X.blk s H scope (compEnvC scope cl C X.env) fps) ifs ifsT)
    (gElt : ∀ (s : Shared) (H : Hp) (C : Addr) (cl : List (PySem.Str × Addr)) (fps : List Addr), PE (X.blk s H scope (compEnvC scope cl C X.env) fps) elt eltE) (plainS : ∀ x, foldedSetIterable iter X.env x = pure x := by intro _; rfl) :
    PE X (.SetComp elt [⟨tg, iter, ifs, 0⟩] scope pos) (tScT X.prog X.w walkI g ifsT eltE (own.map (·.2))) := by
  refine ⟨fun pins s σ H Q J0 h => ?_⟩
  rw [eval_SetComp]
  refine scT_core calmX ndN J0 pIter blk gTgt gIfs gElt plainS h fun DD C s' m H' Jn q hn f => ⟨m, hn, fun h'' sb => ?_⟩
  obtain ⟨f0, f1, g2, g3, f4, f5⟩ := f
  exact ⟨.ref DD, H', Jn.turned (t' := s'.toks) (fun b o hb e => (sb.2 b hb).trans e) f0 f1 g3 f4 f5, rfl, q⟩
/-- len of it -/
theorem pe_lenT {o : Expr} {to : TE} {p pos : Pos} (ho : PE X o to) (hg : Gl X "len") (hm : X.mg "len" = none) (hn : noStar o = true) : PE X (.Call (.Name "len" p) [o] [] pos)
    (fun σ H Q => to σ H fun x H1 => ∃ (DD : Addr) (S : Str → Bool) (n : Nat), x = .ref DD ∧ H1 DD = some (SetTO X.prog X.w DD S n) ∧ n < scanBound ∧ Q (.int n) H1) := by
  constructor
  intro pins s σ H Q I h
  refine wpAny_Call_Name_kw (ld_blt I hg hm (u := .builtin "len") (by decide +kernel) ?_ (by decide) (by decide))
  refine PyProof.Rows.callWith_builtin1 ?_ (starEach_one hn _ _) rfl
  rw [starEach_one hn]
  refine Calls.spliced_cons (thn (ho.run pins s σ H _ I h) fun u s1 ⟨x, H1, I1, rx, DD, S, n, ex, hD, hb, q⟩ => Calls.spliced_nil ?_)
  subst ex
  obtain rfl : u = Value.ref DD := rx
  obtain ⟨ob, es, ep, t, ho, hex, hd, _, _, _, hf, hn⟩ := (I1.hok DD _ hD).1
  refine call_len_set ho hex hd hf (by rw [hn]; unfold scanBound at hb; omega) ⟨.int n, H1, I1.tok _, ⟨_, by rw [hn]⟩, q⟩
end
section
variable {G : Gt} {cal : Cal}
theorem den_lenSet (elt : E) (t : T) (k : IK) (src ifs : List E) (own : List (Str × Nat)) (τ : Tau) (S : List O) :
    den G cal (.lenSet elt t k src ifs own) τ S = (iD G cal k src τ S).bind fun xg S1 => if xg.1.length ≤ 3000 then (stD xg.2 (fun a τ => T.asg t a τ) (condD G cal ifs) (fun τ S => den G cal elt τ S) (wipeT τ (own.map (·.2))) [] xg.1 S1).bind fun ys S2 => R.ok (A.int ys.length) S2 else .no := by
  show ((dens G cal src τ S).bind fun vs S1 => _) = _
  unfold iD
  cases dens G cal src τ S with
  | ok vs S1 =>
    simp only [R.bind_ok]
    cases srcO k vs S1 with
    | none => rfl
    | some xg => rfl
  | ex c fs S1 => rfl
  | no => rfl
def SetR (P : Program) (wo : World) (wc : Wd) (D : Addr) (acc : List (List Nat)) : Prop := ∃ Sf, wc.H D = some (SetTO P wo D Sf acc.length) ∧ ∀ y, Sf (mkS y) = decide (y ∈ acc)
theorem s_lenSet {P : Program} {wo : World} {K : PySem.W.Frag} {ad : Ad} {W W0 : WX} {elt : E} {t : T} {k : IK} {src ifs : List E} {own : List (Str × Nat)} (hsl : ∀ i ∈ t.slots, i ∈ own.map (·.2)) {σ : L2.St} {H : Hp} {Q : VK} (h : tE K ad G W (fun τ S => den G cal (.lenSet elt t k src ifs own) τ S) σ H Q) :
    tScT P wo (tI K ad G W (fun τ S => iD G cal k src τ S)) (gT K ad t) (tT K ad G W0 (fun τ S => condD G cal ifs τ S)) (tE K ad G W0 (fun τ S => den G cal elt τ S)) (own.map (·.2)) σ H
      (fun x H1 => ∃ (DD : Addr) (S : Str → Bool) (n : Nat), x = .ref DD ∧ H1 DD = some (SetTO P wo DD S n) ∧ n < scanBound ∧ Q (.int n) H1) := by
  obtain ⟨w, τ, e, s, rt, h⟩ := h
  have h : okR K ad G Q (fun c d H' => W c d σ H') w (den G cal (.lenSet elt t k src ifs own) τ w.S) := h
  rw [den_lenSet] at h
  refine ⟨w, τ, e, s, rt, okI.then (P := fun w x => okR K ad G Q (fun c d H' => W c d σ H') w x) h (fun _ _ l h => h.at l) (fun _ _ _ h => h) id ?_⟩
  rintro w1 ⟨xs, g⟩ J le s1 itm h
  intro D hD0
  have h : okR K ad G Q (fun c d H' => W c d σ H') w1 (if xs.length ≤ 3000 then (stD g (fun a τ => T.asg t a τ) (condD G cal ifs) (fun τ S => den G cal elt τ S) (wipeT τ (own.map (·.2))) [] xs w1.S).bind fun ys S2 => R.ok (A.int ys.length) S2 else .no) := h
  split at h
  case isFalse => exact h.elim
  rename_i hz
  have hbig : (3001 : Nat) < scanBound := by decide
  have nh : D ∉ w1.hid := fun z => by
    obtain ⟨_, o, q⟩ := s1.hid D z
    rw [hD0] at q; cases q
  have rt1 : RelT K w1 τ σ := rt.mono le.mo
  generalize hvs : own.map (·.2) = vs at h hsl ⊢
  refine ⟨fun i n H => ∃ wc acc, wc.H = H ∧ RelS K ad.cls wc ∧ Blt w1 wc D ∧ RelT K wc (wipeT τ vs) (L2.wipe σ vs) ∧ SetR P wo wc D acc ∧ acc.length ≤ i ∧ n = xs.length - i ∧ i ≤ xs.length ∧
    okR K ad G Q (fun c d H' => W c d σ H') w1 ((stD g (fun a τ => T.asg t a τ) (condD G cal ifs) (fun τ S => den G cal elt τ S) (wipeT τ vs) acc (xs.drop i) wc.S).bind fun ys S2 => R.ok (A.int ys.length) S2), ⟨xs.length, w1.hide D (SetTO P wo D (fun _ => false) 0), [], rfl, s1.hide hD0, Blt.start hD0, (rt1.mono (Mo.hide hD0)).wipe vs, ⟨_, upd_same, fun y => by simp⟩, Nat.zero_le _, by simp, Nat.zero_le _, h⟩, ?_⟩
  rintro i n H2 ⟨wc, acc, rfl, sc, b, rtc, ⟨Sf, hDc, hSf⟩, hacc, rfl, hi, hr⟩
  by_cases hlt : i < xs.length
  · right
    have hdrop : xs.drop i = xs[i] :: xs.drop (i + 1) := List.drop_eq_getElem_cons hlt
    rw [hdrop] at hr
    have gk : g.ok wc.S := by
      by_cases gk : g.ok wc.S
      · exact gk
      · simp only [stD, if_neg gk] at hr
        exact hr.elim
    simp only [stD, if_pos gk] at hr
    obtain ⟨go, yl⟩ := (itm wc b.mo sc gk i).2 xs[i] (List.getElem?_eq_getElem hlt)
    refine ⟨go, fun H' => ∃ wc acc, wc.H = H' ∧ RelS K ad.cls wc ∧ Blt w1 wc D ∧ RelT K wc (wipeT τ vs) (L2.wipe σ vs) ∧ SetR P wo wc D acc ∧ acc.length ≤ i + 1 ∧
      okR K ad G Q (fun c d H' => W c d σ H') w1 ((stD g (fun a τ => T.asg t a τ) (condD G cal ifs) (fun τ S => den G cal elt τ S) (wipeT τ vs) acc (xs.drop (i + 1)) wc.S).bind fun ys S2 => R.ok (A.int ys.length) S2), ?_, ?_⟩
    · rintro H' ⟨wd, acc', e1, e2, e3, e4, e6, e7, e8⟩
      exact ⟨xs.length - (i + 1), by omega, wd, acc', e1, e2, e3, e4, e6, e7, rfl, hlt, e8⟩
    · intro x H' hy
      obtain ⟨w2, e2, eS2, l2, s2, r2⟩ := yl x H' hy
      cases ea : T.asg t xs[i] (wipeT τ vs) with
      | none => rw [ea] at hr; exact hr.elim
      | some τ1 =>
        rw [ea] at hr
        have hr : okR K ad G Q (fun c d H' => W c d σ H') w1 (R.bind (match condD G cal ifs τ1 wc.S with
          | .ok true S1 => match den G cal elt τ1 S1 with
            | .ok (.str y) S2 => stD g (fun a τ => T.asg t a τ) (condD G cal ifs) (fun τ S => den G cal elt τ S) (wipeT τ vs) (if y ∈ acc then acc else acc ++ [y]) (xs.drop (i + 1)) S2
            | _ => .no
          | .ok false S1 => stD g (fun a τ => T.asg t a τ) (condD G cal ifs) (fun τ S => den G cal elt τ S) (wipeT τ vs) acc (xs.drop (i + 1)) S1
          | _ => .no) fun ys S2 => R.ok (A.int ys.length) S2) := hr
        refine ⟨w2, wipeT τ vs, xs[i], τ1, e2, s2, rtc.mono l2.mo, r2, ea, fun w3 σ3 eS3 l3 s3 rt3 chg => ⟨?_, ?_⟩⟩
        · rw [chg.wipe hsl, wipe_wipe]
        · refine ⟨w3, τ1, rfl, s3, rt3, ?_⟩
          show okB K ad G _ _ w3 (condD G cal ifs τ1 w3.S)
          rw [eS3, eS2]
          cases ec : condD G cal ifs τ1 wc.S with
          | no => rw [ec] at hr; exact hr.elim
          | ex c fs S1 => rw [ec] at hr; exact hr.elim
          | ok kk S1 =>
            rw [ec] at hr
            intro w4 eS4 l4 s4
            have l24 : Le wc w4 := l2.trans (l3.trans l4)
            cases kk with
            | false =>
              rw [if_neg (by decide)]
              refine ⟨w4, acc, rfl, s4, b.le l24, rtc.mono l24.mo, ⟨Sf, ?_, hSf⟩, by omega, by rw [eS4]; exact hr⟩
              exact l24.hidk D (by rw [b.hid]; exact List.mem_cons_self) _ hDc
            | true =>
              rw [if_pos rfl]
              refine ⟨w4, τ1, rfl, s4, rt3.mono l4.mo, ?_⟩
              show okR K ad G _ _ w4 (den G cal elt τ1 w4.S)
              rw [eS4]
              have hr : okR K ad G Q (fun c d H' => W c d σ H') w1 (R.bind (match den G cal elt τ1 S1 with
                | .ok (.str y) S2 => stD g (fun a τ => T.asg t a τ) (condD G cal ifs) (fun τ S => den G cal elt τ S) (wipeT τ vs) (if y ∈ acc then acc else acc ++ [y]) (xs.drop (i + 1)) S2
                | _ => .no) fun ys S2 => R.ok (A.int ys.length) S2) := hr
              cases ed : den G cal elt τ1 S1 with
              | no => rw [ed] at hr; exact hr.elim
              | ex c fs S1 => rw [ed] at hr; exact hr.elim
              | ok y S2 =>
                rw [ed] at hr
                cases y <;> first | exact (hr : False).elim | skip
                rename_i y
                have hr : okR K ad G Q (fun c d H' => W c d σ H') w1 (R.bind (stD g (fun a τ => T.asg t a τ) (condD G cal ifs) (fun τ S => den G cal elt τ S) (wipeT τ vs) (if y ∈ acc then acc else acc ++ [y]) (xs.drop (i + 1)) S2) fun ys S2 => R.ok (A.int ys.length) S2) := hr
                intro w5 v eS5 l5 s5 r5
                have l25 : Le wc w5 := l24.trans l5
                have b5 := b.le l25
                have hh : D ∈ w5.hid := by rw [b5.hid]; exact List.mem_cons_self
                have hD5 : w5.H D = some (SetTO P wo D Sf acc.length) := l25.hidk D (by rw [b.hid]; exact List.mem_cons_self) _ hDc
                obtain ⟨rfl, oy⟩ := relA_str r5
                have m5 : Mo w5 (w5.poke D (SetTO P wo D (fun j => Sf j || decide (j = mkS y)) (if Sf (mkS y) = true then acc.length else acc.length + 1))) := Mo.poke hh
                refine ⟨mkS y, Sf, acc.length, rfl, hD5, by omega, w5.poke D _, (if y ∈ acc then acc else acc ++ [y]), rfl, s5.poke hh, b5.poke hD0, (rtc.mono l25.mo).mono m5, ⟨fun j => Sf j || decide (j = mkS y), ?_, fun z => ?_⟩, (by split; exact (by omega); exact (by simp only [List.length_append, List.length_singleton]; omega)), ?_⟩
                · show (upd w5.H D _) D = _
                  rw [upd_same, hSf]
                  by_cases hy' : y ∈ acc
                  · simp [hy']
                  · simp [hy']
                · show (Sf (mkS z) || decide (mkS z = mkS y)) = _
                  rw [hSf]
                  by_cases hy' : y ∈ acc
                  · rw [if_pos hy']
                    by_cases hz' : z = y
                    · subst hz'; simp [hy']
                    · have : ¬ mkS z = mkS y := fun e => hz' (mkS_inj e)
                      simp [this]
                  · rw [if_neg hy']
                    by_cases hz' : z = y
                    · subst hz'; simp
                    · have : ¬ mkS z = mkS y := fun e => hz' (mkS_inj e)
                      simp [this, hz']
                · show okR K ad G Q _ w1 (R.bind (stD _ _ _ _ _ _ _ w5.S) _)
                  rw [eS5]; exact hr
  · left
    have e : i = xs.length := by omega
    subst e
    rw [List.drop_length] at hr
    have gk : g.ok wc.S := by
      by_cases gk : g.ok wc.S
      · exact gk
      · simp only [stD, if_neg gk] at hr
        exact hr.elim
    simp only [stD, if_pos gk, R.bind_ok] at hr
    refine ⟨(itm wc b.mo sc gk xs.length).1 rfl, D, Sf, acc.length, rfl, hDc, by omega, ?_⟩
    exact okR.ret (w := wc.show_ w1.hid) (hr.at b.end_) rfl (sc.show_ b.hid) int_rel
end
end Lt
/-! promises of defs where no repr is under way -/
namespace Lt
open PySem PySem.Spec PyProof.Rows L2
structure RoomG (K : PySem.W.Frag) (base : Heap) (k : Nat) (A : Around) : Prop extends Room k A where
  gd : GdOk K base A
theorem GdOk.eq {K : PySem.W.Frag} {base : Heap} {A B : Around} (h : GdOk K base A) (e : B.guards = A.guards) : GdOk K base B := by
  obtain ⟨g, hg, r⟩ := h
  exact ⟨g, e.trans hg, r⟩
theorem RoomG.mono {K : PySem.W.Frag} {base : Heap} {j k : Nat} {A : Around} (r : RoomG K base k A) (h : j ≤ k) : RoomG K base j A := ⟨r.toRoom.mono h, r.gd⟩
theorem RoomG.in1 {K : PySem.W.Frag} {base : Heap} {k : Nat} {A : Around} (r : RoomG K base (k + 1) A) : RoomG K base k A.in1 := ⟨r.toRoom.in1, r.gd.eq rfl⟩
theorem RoomG.make {K : PySem.W.Frag} {base : Heap} {k : Nat} {A : Around} (r : RoomG K base (k + 1) A) (C : Addr) (us : List Value) (kw : List (Str × Value)) : RoomG K base k (A.under (.builtin "type.__call__" ⟨.ref C :: us, kw⟩)) :=
  ⟨r.toRoom.make C us kw, by
    have : (A.under (.builtin "type.__call__" ⟨.ref C :: us, kw⟩)).guards = A.guards := by
      first | rfl | simp [Around.under, Code.guards, Code.isGuard, guardIds, pushGuards]
    exact r.gd.eq this⟩
theorem RoomG.deeper {K : PySem.W.Frag} {base : Heap} {k : Nat} {A : Around} (r : RoomG K base (k + 1) A) (env : Env) : RoomG K base k (A.deeper env) := ⟨r.toRoom.deeper _, r.gd.eq rfl⟩
def FnG (P : Program) (w : World) (K : PySem.W.Frag) (mg : Str → Option Value) (base : Heap) (CX : CXT) (k : Nat) (f : Addr) (sp : Sp) : Prop :=
  ∀ (A : Around) (outer : List Env) (s : Shared) (H : Hp) (us : List Value) (vs : List V) (Q : VK) (E : XK), RoomG K base k A → Env0 P w K mg base A outer s H → Vals vs us → sp vs H Q E →
    codeAny (model P w) A (.call (.ref f) ⟨us, []⟩) (CR CX outer P w H s Q E) s
structure FnOkG (P : Program) (w : World) (K : PySem.W.Frag) (mg : Str → Option Value) (base : Heap) (CX : CXT) (k : Nat) (f : Addr) (fd : FuncData) (ps : List Str) (sp : Sp) : Prop where
  len : ∀ vs H Q E, sp vs H Q E → vs.length = ps.length
  run : ∀ (A : Around) (outer : List Env) (s : Shared) (H : Hp) (args : Args) (us : List Value) (vs : List V) (Q : VK) (E : XK), RoomG K base k A → Env0 P w K mg base A outer s H → BindsTo s fd args (ps.zip us) → Vals vs us → sp vs H Q E →
    codeAny (model P w) A (.call (.ref f) args) (CR CX outer P w H s Q E) s
section
variable {P : Program} {w : World} {K : PySem.W.Frag} {mg : Str → Option Value} {base : Heap} {CX : CXT} {j k : Nat} {f : Addr} {fd : FuncData} {ps : List Str} {sp sp' : Sp}
theorem FnOkG.imp (F : FnOkG P w K mg base CX k f fd ps sp) (h : ∀ vs H Q E, sp' vs H Q E → sp vs H Q E) : FnOkG P w K mg base CX k f fd ps sp' :=
  ⟨fun vs H Q E q => F.len vs H Q E (h _ _ _ _ q), fun A outer s H args us vs Q E hr he hb hv hs => F.run A outer s H args us vs Q E hr he hb hv (h _ _ _ _ hs)⟩
theorem FnG.imp (F : FnG P w K mg base CX k f sp) (h : ∀ vs H Q E, sp' vs H Q E → sp vs H Q E) : FnG P w K mg base CX k f sp' := fun A outer s H us vs Q E hr e0 r hs => F A outer s H us vs Q E hr e0 r (h _ _ _ _ hs)
theorem FnOkG.raw {ds : List Value} {dvs : List V} (F : FnOkG P w K mg base CX k f fd ps sp) (hb : Binds K fd ps ds) (hd : Vals dvs ds) : FnG P w K mg base CX k f (fun vs H Q E => sp (vs ++ dvs) H Q E) := by
  intro A outer s H us vs Q E hr e0 r hs
  have r2 : Vals (vs ++ dvs) (us ++ ds) := r.append hd
  have hl : (us ++ ds).length = ps.length := by rw [← r2.length]; exact F.len _ _ _ _ hs
  exact F.run A outer s H ⟨us, []⟩ (us ++ ds) (vs ++ dvs) Q E hr e0 (hb s us (e0.mod.kin.keeps fun b o e => (e0.bs b o e).1) hl) r2 hs
/-- a def whose body does what it should where no repr is under way -/
theorem defG {x qual : Str} {params : Arguments} {body : List Stmt} {scope : Scope} {dvs : List V} {kws : List (Str × V)} {N : List Str} (F : FunD K x qual params body scope dvs kws f fd) (S : FnScope N ps scope) (len : ∀ vs H Q E, sp vs H Q E → vs.length = ps.length)
    (hbody : ∀ (cdv : Value) (A : Around) (outer : List Env) (s : Shared) (H : Hp) (vs : List V) (Q : VK) (E : XK), RoomG K base k (A.deeper (envOfC qual scope s.heap.objs.size f cdv)) → sp vs H Q E →
      ∃ t, PSs (cxOf CX P w K mg base N qual scope f cdv A outer s H E) body t ∧ t { nx := fun _ H' => Q .non H', rt := Q } (start N vs) H) : FnOkG P w K mg base CX (k + 1) f fd ps sp := by
  obtain ⟨oc, od, dV, kV, doc, pm, an, cdv, ct, osl, rfl, lk, hcd, _, _⟩ := F.ex
  refine ⟨len, fun A outer s H args us vs Q E hr e0 hb r hsp => ?_⟩
  have hl := len _ _ _ _ hsp
  have KX : K.In s.heap := e0.mod.kin.keeps fun b o e => (e0.bs b o e).1
  have lim : s.heap.NoLimit := e0.mod.nolimit.keeps fun b o e => (e0.bs b o e).1
  refine codeAny_call_function hr.toRoom.depth (KX _ _ lk) rfl S.co S.gen rfl (PySem.W.codeRec_of KX hcd) (hb _ _ _ _ (wpAny_newFunctionEnv_cells S.kind (fun y hy => ?_) fun env he s1 x => ?_))
  · rcases S.par y.1 (List.of_mem_zip hy).1 with q | q
    · exact .inl q
    · exact .inr ⟨q, PySem.W.cellsFrom_some _ _ _ (.inl q)⟩
  · subst he
    refine ⟨lim.keeps x.toInCall.keep, codeAny_func ?_⟩
    obtain ⟨t, ht, hq⟩ := hbody cdv A outer s H vs Q E (hr.deeper _) hsp
    have I : Inv (cxOf CX P w K mg base N qual scope f cdv A outer s H E) [] (start N vs) H s1 := inv_start S hr.hd e0 hl r x
    refine wpAny_mono (ht.run [] s1 (start N vs) H _ I hq) (fun fl s' hs => ?_) fun e s' hs => hs
    cases fl with
    | ret u => obtain ⟨v, σ', H', J, rv, q⟩ := hs; exact ⟨v, H', J.os, J.bare, J.base, J.hok, rv, q⟩
    | next => obtain ⟨σ', H', J, q⟩ := hs; exact ⟨.non, H', J.os, J.bare, J.base, J.hok, rfl, q⟩
    | brk => obtain ⟨_, _, _, q⟩ := hs; exact q.elim
    | cont => obtain ⟨_, _, _, q⟩ := hs; exact q.elim
end
end Lt
/-! list(d.values()) -/
namespace Lt
open PySem PySem.Spec PyProof.Rows L2
def tListVals (te : TE) : TE := fun σ H Q => te σ H fun x H1 => ∃ d kvs, x = .ref d ∧ H1 d = some (.dK kvs) ∧ ∀ p, H1 p = none → Q (.ref p) (upd H1 p (.lst (kvs.map (·.2))))
section
variable {X : Cx} {e : Expr} {te : TE} {p apos cpos pos : Pos}
theorem pe_listVals (hc : X.calm = true) (he : PE X e te) (hg : Gl X "list") (hm : X.mg "list" = none) (hbase : attributeBase e "values" X.env (eval e X.env) = eval e X.env) (hline : (apos.endLine == cpos.line) = true) :
    PE X (.Call (.Name "list" p) [.Call (.Attribute e "values" apos) [] [] cpos] [] pos) (tListVals te) := by
  have hs : starEach [Expr.Call (.Attribute e "values" apos) [] [] cpos] X.env = (false, eval (.Call (.Attribute e "values" apos) [] [] cpos) X.env) :: starEach [] X.env := by rfl
  refine ⟨fun pins s σ H Q I hq => ?_⟩
  refine wpAny_Call_Name_kw (ld_blt I hg hm (u := .type "list") (by decide +kernel) ?_)
  refine PyProof.Rows.callWith_type1 ?_ hs rfl
  rw [hs]
  show wpAny _ _ (spliced ((false, eval (.Call (.Attribute e "values" apos) [] [] cpos) X.env) :: backTo pos (starEach [] X.env))) _ _ s
  refine Calls.spliced_cons ?_
  refine wpAny_Call_method (T := "dict") (id := "dict.values") hbase rfl hline F.plainAttrs_dict F.slot_dict_values F.type_dict_values (thn (he.run pins s σ H _ I hq) fun u s1 ⟨x, H1, I1, rx, d, kvs, ex, hd, q⟩ => ?_)
  subst ex
  obtain rfl : u = Value.ref d := rx
  obtain ⟨hz, hs0, vs, kv, hdo⟩ := I1.hok d _ hd
  obtain ⟨ep, hat⟩ := hdo.dictAt
  have hl : kvs.length = vs.length := Paired.length kv
  have I2 : Inv X pins σ H1 { s1 with heap := s1.heap.push { cls := .type "dict_values", data := .fields #[.ref d] } } := I1.kept (t' := s1.toks) fun b ob q => Heap.get?_push_of_some _ q
  refine ⟨hdo.typeIs, hdo.mapOf.noDict, ?_⟩
  show wpAny _ _ (callWith cpos (.builtin "dict.values") [.ref d] [] []) _ X.xe s1
  refine method_meetsIn F.slot_dict_values F.entry_dict_values rfl (PySem.evalArgs_none ⟨rfl, hdo.typeIs, F.args_dict_values_1 _, _, meets_dict_values (mixKind X.prog X.w) d hs0, ⟨vs, hdo⟩, ?_⟩)
  refine Calls.spliced_nil ?_
  refine PySem.W.kdl_call (PySem.W.kdl_values (knd := mixKind X.prog X.w) (kvs := vs) (ep := ep)) (I1.ok.hd hc) ⟨⟨_, Heap.get?_push_size _ rfl, rfl, rfl⟩, hat.push _⟩ (by rw [← hl]; exact hz) fun h' tk acc' c' hkeep hS hacc => ?_
  refine ⟨.ref (s1.heap.push { cls := .type "dict_values", data := .fields #[.ref d] }).objs.size, upd H1 (s1.heap.push { cls := .type "dict_values", data := .fields #[.ref d] }).objs.size (.lst (kvs.map (·.2))), I2.laid hkeep (Nat.le_refl _) (show ObjOk X.prog X.w _ _ _ (.lst (kvs.map (·.2))) from ⟨?_, acc'.toList, c', ?_, ?_⟩), rfl, q _ (I2.hok.fresh (Nat.le_refl _))⟩
  · rw [List.length_map]; exact hz
  · have el : acc'.toList.length = acc'.size := by simp
    refine vals_of_at (by rw [List.length_map, el, hacc.1, hl]) fun j x w h1 h2 => ?_
    obtain ⟨k, hky⟩ := hacc.2 j w (by rw [← Array.getElem?_toList]; exact h2)
    rw [List.getElem?_map] at h1
    obtain ⟨pk, e1, rfl⟩ := Option.map_eq_some_iff.mp h1
    obtain ⟨y, e2, r⟩ := LiI.paired_get kv e1
    rw [hky] at e2; cases e2
    exact r.2
  · rw [Array.toArray_toList]; exact hS
end
end Lt
/-! what is known of own exceptions -/
namespace Lt
open PySem PySem.Spec PyProof.Rows L2
/-- what __init__ does with a new exception -/
def spXi (C : Addr) (fl : List Str) : Sp := fun vs H Q _ => ∃ a ws, vs = .ref a :: ws ∧ ws.length = fl.length ∧ H a = some (exo a C none) ∧ ∀ dx, H dx = none → dx ≠ a → Q .non (upd (upd H dx (exd dx (fl.zip ws).reverse)) a (exo a C (some dx)))
/-- what the head tells of an own exception -/
structure XcK (K : PySem.W.Frag) (C : Addr) (fl : List Str) : Prop where
  oex : OexC K C
  xf : XfC K C
  no : ∀ f ∈ fl, PySem.W.findIn K (.ref C) f = some none
  fl1 : 0 < fl.length
  fl2 : fl.length ≤ 100
  vV : PySem.W.findCls K (.type "ValueError") (.type "type") "__init__" = some (.val (.builtin "ValueError.__init__"))
  cl : (PySem.W.clsIn K C).isSome = true
  ca : PySem.W.findIn K (.ref C) "__class__" = some (some (.builtin "object.__class__"))
  cn : PySem.W.specialIn K (.builtin "object.__class__") "__get__" = some (some (.builtin "getset_descriptor.__get__"))
  ct : PySem.W.takesIn K (.builtin "object.__class__") = some true
  cm : PySem.W.mroIn K C (.type "object") = some true
/-- an own exception, ready to be made -/
structure XcOk (P : Program) (w : World) (K : PySem.W.Frag) (mg : Str → Option Value) (base : Heap) (C : Addr) (nm : Str) (fl : List Str) : Prop extends XcK K C fl where
  mg_ : mg nm = some (.ref C)
  ini : ∃ fI fd ps, PySem.W.findIn K (.ref C) "__init__" = some (some (.ref fI)) ∧ PySem.W.typeIn K (.ref fI) = some (.type "function") ∧ Binds K fd ps [] ∧ FnOk P w K mg base (L2.CX P w) 1 fI fd ps (spXi C fl)
end Lt
/-! D.get(k, x), D a dict of the module -/
namespace Lt
open PySem PySem.Spec PyProof.Rows L2
section
variable {X : Cx} {o e f : Expr} {ty tx : TE} {apos cpos : Pos} {d : Addr} {es : Array DictEntry} {n : Nat}
theorem pe_kget2 (D : KDict X.K X.w d es n) (hd : (d == sysModules) = false) (ho : PE X o (tC (.ref d))) (he : PE X e ty) (hf : PE X f tx) (m : M2 X o "get" apos e f cpos) : PE X (.Call (.Attribute o "get" apos) [e, f] [] cpos)
    (fun σ H Q => ty σ H fun y H1 => tx σ H1 fun z H2 => ∃ (x : Str) (r : Option Value), y = .str x ∧ PySem.W.nsIn X.K d x = some r ∧ ((r = none ∧ Q z H2) ∨ ∃ u0 v0, r = some u0 ∧ RelV v0 u0 ∧ Q v0 H2)) := by
  refine ⟨fun pins s σ H Q I h => ?_⟩
  refine wpAny_Call_method m.base m.few m.line PySem.F.plainAttrs_dict PySem.F.slot_dict_get PySem.F.type_dict_get (thn (ho.run pins s σ H (fun x H1 => x = .ref d ∧ ty σ H1 fun y H2 => tx σ H2 fun z H3 => ∃ (x : Str) (r : Option Value), y = .str x ∧ PySem.W.nsIn X.K d x = some r ∧ ((r = none ∧ Q z H3) ∨ ∃ u0 v0, r = some u0 ∧ RelV v0 u0 ∧ Q v0 H3)) I ⟨rfl, h⟩) fun u s1 ⟨x, H1, I1, rx, ex, q1⟩ => ?_)
  subst ex
  obtain rfl : u = Value.ref d := rx
  have M1 := PySem.W.mapOf_K (prog := X.prog) (w := X.w) I1.kIn D.at_ D.lit
  refine ⟨M1.typeIs, M1.noDict, ?_⟩
  rw [m.trees]
  refine Calls.callWith_builtin rfl (Calls.evalArgs_plain (Calls.spliced_cons (thn (he.run pins s1 σ H1 _ I1 q1) fun iv s2 ⟨y, H2, I2, ry, q2⟩ =>
    Calls.spliced_cons (thn (hf.run pins s2 σ H2 _ I2 q2) fun fv s3 ⟨z, H3, I3, rz, xs, r, ey, en, q3⟩ => Calls.spliced_nil ?_))))
  subst ey
  obtain ⟨t, rfl⟩ := ry
  have M3 := PySem.W.mapOf_K (prog := X.prog) (w := X.w) I3.kIn D.at_ D.lit
  refine call_meetsIn PySem.F.slot_dict_get M3.typeIs PySem.F.entry_dict_get (PySem.F.args_dict_get_3 _ _ _) (meets_dict_get_default (PySem.strKind X.prog X.w) d (PySem.strKind_is X.prog X.w xs t) hd fv) ⟨_, M3, ?_⟩
  have ef := PySem.W.find_K D.at_ en
  simp only [ef]
  rcases q3 with ⟨rfl, q⟩ | ⟨u0, v0, rfl, r0, q⟩
  · exact ⟨z, H3, I3.tok _, rz, q⟩
  · exact ⟨v0, H3, I3.tok _, r0, q⟩
end
end Lt
/-! expressions: the program does what the small language says -/
namespace Lt
open PySem L2
def spF (K : PySem.W.Frag) (ad : Ad) (G : Gt) (f : List A → List O → R A) : Sp := fun vs H Q E => ∃ w as, w.H = H ∧ RelS K ad.cls w ∧ RelAs K w as vs ∧ okR K ad G Q E w (f as w.S)
theorem fill_vals {kc : Kc} {vs zs : List V} {us ws : List Value} (r : Vals vs us) (rz : Vals zs ws) : Vals (kc.fill V.non vs zs) (kc.fill Value.none us ws) := by
  unfold Kc.fill
  rw [← r.length, ← rz.length]
  split
  · have q := r.append rz
    generalize kc.out = l
    induction l with
    | nil => exact .nil
    | cons i l ih =>
      refine .cons ?_ ih
      cases e : (vs ++ zs)[i]? with
      | none =>
        have e2 : (us ++ ws)[i]? = none := by rw [List.getElem?_eq_none_iff] at e ⊢; rw [← q.length]; exact e
        simp only [List.getD_eq_getElem?_getD, e, e2, Option.getD_none]; rfl
      | some x =>
        obtain ⟨u, eu, ru⟩ := q.get e
        simp only [List.getD_eq_getElem?_getD, e, eu, Option.getD_some]; exact ru
  · exact .nil
theorem fill_rel {K : PySem.W.Frag} {w : Wd} {kc : Kc} {as bs : List A} {vs zs : List V} (r : RelAs K w as vs) (rz : RelAs K w bs zs) : RelAs K w (kc.fill A.non as bs) (kc.fill V.non vs zs) := by
  unfold Kc.fill
  rw [← r.length, ← rz.length]
  split
  · have q := r.append rz
    generalize kc.out = l
    induction l with
    | nil => exact RelAs.nil
    | cons i l ih =>
      refine RelAs.cons ?_ ih
      cases e : (as ++ bs)[i]? with
      | none =>
        have e2 := q.none e
        simp only [List.getD_eq_getElem?_getD, e, e2, Option.getD_none]; exact non_rel
      | some x =>
        obtain ⟨u, eu, ru⟩ := q.get e
        simp only [List.getD_eq_getElem?_getD, e, eu, Option.getD_some]; exact ru
  · exact RelAs.nil
theorem kw_all {pos : Pos} {env : Env} : ∀ {kws : List Keyword} {ks : List Str}, kws.map (·.arg) = ks.map some → (backToKw pos (keywordEach kws env)).all (·.1.isSome) = true ∧ (backToKw pos (keywordEach kws env)).filterMap (·.1) = ks ∧ (backToKw pos (keywordEach kws env)).any (·.1.isNone) = false
  | [], [], _ => ⟨rfl, rfl, rfl⟩
  | [], _ :: _, h => by cases h
  | _ :: _, [], h => by cases h
  | ⟨nm, e, p⟩ :: kws, k :: ks, h => by
    have h' : nm = some k ∧ kws.map (·.arg) = ks.map some := by simpa using h
    obtain ⟨rfl, h2⟩ := h'
    obtain ⟨a, b, c⟩ := kw_all (pos := pos) (env := env) h2
    refine ⟨?_, ?_, ?_⟩
    · show (true && List.all (backToKw pos (keywordEach kws env)) _) = true
      rw [a]; rfl
    · show k :: List.filterMap _ (backToKw pos (keywordEach kws env)) = k :: ks
      rw [b]
    · show (false || List.any (backToKw pos (keywordEach kws env)) _) = false
      rw [c]; rfl
/-- a class's members -/
structure ClM (K : PySem.W.Frag) (ad : Ad) (c : Nat) (ci : Ci) : Prop where
  init : ∀ d, ci.init = some d → Mk K (ad.cls c) (ad.df d)
  meth : ∀ m d, ci.meths.lookup m = some d → Meth K (ad.cls c) m (ad.df d)
  fld : ∀ f, ci.fields.contains f = true → NoAttr K (ad.cls c) f
/-- a dict of the module: texts to constants -/
structure TabOk (K : PySem.W.Frag) (w : World) (d : Addr) (kvs : List (List Nat × A)) : Prop where
  kd : ∃ es n, KDict K w d es n
  no : ∀ z, kvs.lookup z = none → PySem.W.nsIn K d (mkS z) = some none
  at_ : ∀ z a, kvs.lookup z = some a → ∃ u v, PySem.W.nsIn K d (mkS z) = some (some u) ∧ RelV v u ∧ ∀ wd, RelA K wd a v
/-- what is known of the text behind its top -/
structure Fs (P : Program) (w : World) (K : PySem.W.Frag) (mg : Str → Option Value) (base : Heap) (ad : Ad) (G : Gt) (k : Nat) (cal : Cal) : Prop where
  fns : ∀ d, FnG P w K mg base (L2.CX P w) (4 * k) (ad.df d) (spF K ad G (cal d))
  con : ∀ x a, G.consts.lookup x = some a → ∃ v u, mg x = some u ∧ RelV v u ∧ ∀ w, RelA K w a v
  blt : ∀ x, bltN.contains x = true → mg x = none
  dn : ∀ (d : Nat) (x : Str), G.dnames[d]? = some (some x) → mg x = some (.ref (ad.df d)) ∧ PySem.W.keepIn K (.ref (ad.df d)) = true
  cls : ∀ (c : Nat) (ci : Ci), G.clss[c]? = some ci → mg ci.name = some (.ref (ad.cls c))
  cf : ∀ c, c < G.clss.length → CF K ad.cls G.clss.length (ad.cls c)
  ow : ∀ c d, c < G.clss.length → d < G.clss.length → PySem.W.kitOne K (.ref (ad.cls c)) (.ref (ad.cls d)) = some (c == d)
  mem : ∀ (c : Nat) (ci : Ci), G.clss[c]? = some ci → ClM K ad c ci
  tab : ∀ (x : Str) (kvs : List (List Nat × A)), G.tabs.lookup x = some kvs → mg x = some (.ref (ad.tb x)) ∧ TabOk K w (ad.tb x) kvs
  dft : ∀ (i : Nat) (p : Dq), G.dft[i]? = some p → ∃ dvs, (∀ wd, RelAs K wd p.vals dvs) ∧ FnG P w K mg base (L2.CX P w) (4 * k) (ad.df p.d) (fun vs H Q E => vs.length = p.np ∧ spF K ad G (cal p.d) (vs ++ dvs) H Q E)
  xcs : ∀ (c : Nat) (p : Str × List Str), G.xcs[c]? = some p → ad.xc c = ad.cls (1000 + c) ∧ XcOk P w K mg base (ad.xc c) p.1 p.2
  xeq : ∀ c d, c < G.xcs.length → d < G.xcs.length → PySem.W.exmOne K (.ref (ad.xc c)) (.ref (ad.xc d)) = some (c == d) ∧ PySem.W.kitOne K (.ref (ad.xc c)) (.ref (ad.xc d)) = some (c == d)
  xbi : ∀ c x b, c < G.xcs.length → xBi x = some b → PySem.W.kitOne K (.ref (ad.xc c)) (.type x) = some b
  xo : ∀ x, G.xo.contains x = true → mg x = some (.ref (ad.tb x)) ∧ ∀ c, c < G.xcs.length → PySem.W.kitOne K (.ref (ad.xc c)) (.ref (ad.tb x)) = some false
  kwf : ∀ (i : Nat) (kc : Kc), G.kwc[i]? = some kc → ∃ fd ps, FnOkG P w K mg base (L2.CX P w) (4 * k) (ad.df kc.d) fd ps (spF K ad G (cal kc.d)) ∧ KBinds K fd ps kc.ks (kc.fill Value.none) (kc.fill V.non)
structure Fx (X : Cx) (ad : Ad) (G : Gt) (W : WX) (k : Nat) (cal : Cal) (m : MC) : Prop extends Mx X m where
  st : Fs X.prog X.w X.K X.mg X.base ad G k cal
  stA : ∀ base, Fs X.prog X.w X.K X.mg base ad G k cal
  room : m.calm = true → RoomG X.K X.base (4 * k + 3) X.A
  un : X.A.units + 70 < cLine
  ps : ∀ σ, PassesAt (L2.CX X.prog X.w) X σ (fun c d H => W c d σ H)

theorem str_beq {x y : Str} (h : (x == y) = true) : x = y := by simpa using h
section
variable {X : Cx} {ad : Ad} {G : Gt} {W : WX} {k : Nat} {cal : Cal} {m : MC}
theorem Fx.glob (F : Fx X ad G W k cal m) {x : Str} (h : Lt.glob m.sc x = true) : Gl X x := by
  unfold Lt.glob at h
  show X.env.scope.names.lookup x = _
  rw [F.sc]
  split at h
  · assumption
  · cases h
theorem Fx.see (F : Fx X ad G W k cal m) {x : Str} (h : seen m.sc x = true) : Vis X.env.scope x := by
  unfold seen at h
  rw [F.sc]
  split at h
  · exact .inl (by assumption)
  · exact .inr (.inl (by assumption))
  · exact .inr (.inr (by assumption))
  · cases h
theorem not_odd {x : Str} (h : (!odd x) = true) : (x == ("__debug__" : Str)) = false ∧ (x == ("__classdict__" : Str)) = false := by
  unfold odd at h
  simpa using h
/-- the context of a comprehension's block -/
theorem Fx.blk (F : Fx X ad G W k cal m) (s : Shared) (H : Hp) (scope : Scope) (cl : List (Str × Addr)) (C : Addr) (fp : List Addr) : Fx (X.blk s H scope (compEnvC scope cl C X.env) fp) ad G (fun _ _ _ _ => False) k cal (m.blk scope) := by
  refine { N := F.N, sc := ?_, fb := fun x h => h, nd := F.nd, calm := F.calm, st := F.st, stA := F.stA, room := F.room, un := F.un, ps := fun σ pins H' s' e s'' I c => ?_ }
  · show relS scope X.env.scope = relS scope m.sc
    rw [F.sc]
  · exact passL (X := X.blk s H scope (compEnvC scope cl C X.env) fp) pins σ H' s' e s'' I c

/-! ### calls -/
def tCalR (sp : Sp) (W : WX) (t : TA) : TE := fun σ H Q => t σ H fun vs H1 => sp vs H1 Q (fun c d H' => W c d σ H')
theorem run_fnRS {CX : CXT} {f : Addr} {sp : Sp} {E : XK} {pins : List (Addr × Obj)} {σ : L2.St} {H : Hp} {s : Shared} {Q : VK} {us : List Value} {vs : List V} (F : FnG X.prog X.w X.K X.mg X.base CX k f sp) (hr : RoomG X.K X.base k X.A) (hx : PassesAt CX X σ E) (I : L2.Inv X pins σ H s) (r : Vals vs us) (h : sp vs H Q E) :
    wpAny (model X.prog X.w) X.A (call (.ref f) us) (EP X pins σ Q) X.xe s := by
  apply wpAny_call
  refine codeAny_mono (F X.A X.stack s H us vs Q E hr I.env0 r h) ?_
  rintro (e | fl) s' hq
  · exact hx pins H s e s' I hq
  · cases fl with
    | ret u => exact I.after hq
    | _ => exact hq.elim
theorem pe_calR {CX : CXT} {f : Addr} {sp : Sp} {x : Str} {p pos : Pos} {e : Expr} {es : List Expr} {t : TA} (F : FnG X.prog X.w X.K X.mg X.base CX k f sp) (hr : RoomG X.K X.base k X.A) (hg : Gl X x) (hm : X.mg x = some (.ref f)) (hk : PySem.W.keepIn X.K (.ref f) = true)
    (hx : ∀ σ, PassesAt CX X σ (fun c d H => W c d σ H)) (ha : PA X (e :: es) t) (hdb : (x == ("__debug__" : Str)) = false) (h1 : noStar e = true) (h2 : es.all noStar = true) : PE X (.Call (.Name x p) (e :: es) [] pos) (tCalR sp W t) := by
  constructor
  intro pins s σ H Q I h
  refine wpAny_Call_Name_kw (ld_glob I hg hm ?_ hdb)
  refine PySem.W.callWith_K (h₀ := X.base) I.ok.mod.kin hk (thn (ha.run pos pins s σ H _ I h) ?_) (starEach_one h1 _ _) (starEach_any pos X.env h2)
  rintro us s1 ⟨vs, H1, I1, r, q⟩
  exact ⟨I1.kIn, run_fnRS F hr (hx σ) I1 r q⟩
theorem pe_calR0 {CX : CXT} {f : Addr} {sp : Sp} {x : Str} {p pos : Pos} (F : FnG X.prog X.w X.K X.mg X.base CX k f sp) (hr : RoomG X.K X.base k X.A) (hg : Gl X x) (hm : X.mg x = some (.ref f)) (hk : PySem.W.keepIn X.K (.ref f) = true)
    (hx : ∀ σ, PassesAt CX X σ (fun c d H => W c d σ H)) (hdb : (x == ("__debug__" : Str)) = false) : PE X (.Call (.Name x p) [] [] pos) (fun σ H Q => sp [] H Q (fun c d H' => W c d σ H')) := by
  constructor
  intro pins s σ H Q I h
  exact wpAny_Call_Name_kw (ld_glob I hg hm (PySem.W.callWith_K0 I.kIn hk (run_fnRS (us := []) F hr (hx σ) I .nil h)) hdb)
/-- a call by names -/
theorem run_kwS {CX : CXT} {j : Nat} {f : Addr} {fd : FuncData} {ps ks : List Str} {sp : Sp} {g : List Value → List Value → List Value} {gV : List V → List V → List V} {E : XK} {pins : List (Addr × Obj)} {σ : L2.St} {H : Hp} {s : Shared} {Q : VK} {us ws : List Value} {vs zs : List V}
    (F : FnOkG X.prog X.w X.K X.mg X.base CX j f fd ps sp) (hb : KBinds X.K fd ps ks g gV) (hr : RoomG X.K X.base j X.A) (hx : PassesAt CX X σ E) (I : L2.Inv X pins σ H s) (r : Vals vs us) (rz : Vals zs ws) (h : sp (gV vs zs) H Q E) :
    wpAny (model X.prog X.w) X.A (call (.ref f) us (ks.zip ws)) (EP X pins σ Q) X.xe s := by
  apply wpAny_call
  have rr := hb.rel r rz
  have len : (g us ws).length = ps.length := rr.length.symm.trans (F.len _ _ _ _ h)
  refine codeAny_mono (F.run _ X.stack s H ⟨us, ks.zip ws⟩ _ _ Q E hr I.env0 (hb.to s us ws I.kIn len) rr h) ?_
  rintro (e | fl) s' hq
  · exact hx pins H s e s' I hq
  · cases fl with
    | ret u => exact I.after hq
    | _ => exact hq.elim
def tKwR (sp : Sp) (gV : List V → List V → List V) (W : WX) (t tk : TA) : TE := fun σ H Q => t σ H fun vs H1 => tk σ H1 fun zs H2 => sp (gV vs zs) H2 Q (fun c d H' => W c d σ H')
theorem pe_kwR {CX : CXT} {j : Nat} {f : Addr} {fd : FuncData} {ps ks : List Str} {sp : Sp} {g : List Value → List Value → List Value} {gV : List V → List V → List V} {x : Str} {p pos : Pos} {e : Expr} {es : List Expr} {kws : List Keyword} {t tk : TA}
    (F : FnOkG X.prog X.w X.K X.mg X.base CX j f fd ps sp) (hb : KBinds X.K fd ps ks g gV) (hr : RoomG X.K X.base j X.A) (hg : Gl X x) (hm : X.mg x = some (.ref f)) (hk : PySem.W.keepIn X.K (.ref f) = true) (hx : ∀ σ, PassesAt CX X σ (fun c d H => W c d σ H))
    (ha : PA X (e :: es) t) (hkw : PK X kws tk) (hn : kws.map (·.arg) = ks.map some) (hdb : (x == ("__debug__" : Str)) = false) (h1 : noStar e = true) (h2 : es.all noStar = true) : PE X (.Call (.Name x p) (e :: es) kws pos) (tKwR sp gV W t tk) := by
  constructor
  intro pins s σ H Q I h
  obtain ⟨n1, n2, n3⟩ := kw_all (pos := pos) (env := X.env) hn
  refine wpAny_Call_Name_kw (ld_glob I hg hm ?_ hdb)
  refine PySem.W.callWith_KW (h₀ := X.base) I.ok.mod.kin hk n1 (thn (ha.run pos pins s σ H _ I h) ?_) (by rw [n3, starEach_any pos X.env (es := e :: es) (by simp [h1, h2])]; rfl) (starEach_one h1 _ _)
  rintro us s1 ⟨vs, H1, I1, r, q⟩
  refine thn (hkw.run pos pins s1 σ H1 _ I1 q) ?_
  rintro ws s2 ⟨zs, H2, I2, rz, q2⟩
  rw [n2]
  exact ⟨I2.kIn, run_kwS F hb hr (hx σ) I2 r rz q2⟩
theorem pe_kwR0 {CX : CXT} {j : Nat} {f : Addr} {fd : FuncData} {ps ks : List Str} {sp : Sp} {g : List Value → List Value → List Value} {gV : List V → List V → List V} {x : Str} {p pos : Pos} {kws : List Keyword} {tk : TA}
    (F : FnOkG X.prog X.w X.K X.mg X.base CX j f fd ps sp) (hb : KBinds X.K fd ps ks g gV) (hr : RoomG X.K X.base j X.A) (hg : Gl X x) (hm : X.mg x = some (.ref f)) (hk : PySem.W.keepIn X.K (.ref f) = true) (hx : ∀ σ, PassesAt CX X σ (fun c d H => W c d σ H))
    (hkw : PK X kws tk) (hn : kws.map (·.arg) = ks.map some) (hdb : (x == ("__debug__" : Str)) = false) : PE X (.Call (.Name x p) [] kws pos) (tKwR sp gV W tNil tk) := by
  constructor
  intro pins s σ H Q I h
  obtain ⟨n1, n2, n3⟩ := kw_all (pos := pos) (env := X.env) hn
  refine wpAny_Call_Name_kw (ld_glob I hg hm ?_ hdb)
  refine PySem.W.callWith_KW0 (h₀ := X.base) I.ok.mod.kin hk n1 (thn (hkw.run pos pins s σ H _ I h) ?_) (by rw [n3]; rfl)
  rintro ws s2 ⟨zs, H2, I2, rz, q2⟩
  rw [n2]
  exact ⟨I2.kIn, run_kwS (us := []) (vs := []) F hb hr (hx σ) I2 .nil rz q2⟩
/-- a new instance -/
theorem run_mkRS {CX : CXT} {j : Nat} {C f : Addr} {sp : Sp} {E : XK} {pins : List (Addr × Obj)} {σ : L2.St} {H : Hp} {s : Shared} {Q : VK} {us : List Value} {vs : List V} (M : Mk X.K C f) (F : FnG X.prog X.w X.K X.mg X.base CX j f sp) (hr : RoomG X.K X.base (j + 1) X.A) (hx : PassesAt CX X σ E) (I : L2.Inv X pins σ H s) (r : Vals vs us)
    (h : ∀ x dx, H x = none → H dx = none → dx ≠ x → sp (.ref x :: vs) (upd (upd H dx (.own x)) x (.ins C dx [])) (fun v H2 => v = .non ∧ Q (.ref x) H2) E) : wpAny (model X.prog X.w) X.A (call (.ref C) us) (EP X pins σ Q) X.xe s := by
  have J := Inv.made (C := C) I
  have q := h (s.heap.objs.size + 1) s.heap.objs.size (I.hok.fresh (Nat.le_succ _)) (I.hok.fresh (Nat.le_refl _)) (Nat.ne_of_lt (Nat.lt_succ_self _))
  apply wpAny_call
  refine make_map (f := f) I.kIn M.makes M.init (beq_iff_eq.mp M.fn) (codeAny_mono (F _ X.stack _ _ (Value.ref (s.heap.objs.size + 1) :: us) (V.ref (s.heap.objs.size + 1) :: vs) _ E (hr.make C us []) (J.env0.make C us []) (.cons rfl r) q) ?_)
  rintro (e | fl) s' hq
  · exact hx pins _ _ e s' J hq
  · cases fl with
    | ret u =>
      obtain ⟨v, H', J', rv, ev, q'⟩ := J.after hq
      subst ev
      exact ⟨rv, V.ref (s.heap.objs.size + 1), H', J', rfl, q'⟩
    | _ => exact hq.elim
def tMkR (C : Addr) (sp : Sp) (W : WX) (t : TA) : TE := fun σ H Q => t σ H fun vs H1 => ∀ x dx, H1 x = none → H1 dx = none → dx ≠ x → sp (.ref x :: vs) (upd (upd H1 dx (.own x)) x (.ins C dx [])) (fun v H2 => v = .non ∧ Q (.ref x) H2) (fun c d H' => W c d σ H')
theorem pe_mkR {CX : CXT} {j : Nat} {C f : Addr} {sp : Sp} {x : Str} {p pos : Pos} {e : Expr} {es : List Expr} {t : TA} (M : Mk X.K C f) (F : FnG X.prog X.w X.K X.mg X.base CX j f sp) (hr : RoomG X.K X.base (j + 1) X.A) (hg : Gl X x) (hm : X.mg x = some (.ref C))
    (hx : ∀ σ, PassesAt CX X σ (fun c d H => W c d σ H)) (ha : PA X (e :: es) t) (hdb : (x == ("__debug__" : Str)) = false) (h1 : noStar e = true) (h2 : es.all noStar = true) : PE X (.Call (.Name x p) (e :: es) [] pos) (tMkR C sp W t) := by
  constructor
  intro pins s σ H Q I h
  refine wpAny_Call_Name_kw (ld_glob I hg hm ?_ hdb)
  refine PySem.W.callWith_K (h₀ := X.base) I.ok.mod.kin M.kp (thn (ha.run pos pins s σ H _ I h) ?_) (starEach_one h1 _ _) (starEach_any pos X.env h2)
  rintro us s1 ⟨vs, H1, I1, r, q⟩
  exact ⟨I1.kIn, run_mkRS M F hr (hx σ) I1 r q⟩
theorem pe_mkR0 {CX : CXT} {j : Nat} {C f : Addr} {sp : Sp} {x : Str} {p pos : Pos} (M : Mk X.K C f) (F : FnG X.prog X.w X.K X.mg X.base CX j f sp) (hr : RoomG X.K X.base (j + 1) X.A) (hg : Gl X x) (hm : X.mg x = some (.ref C))
    (hx : ∀ σ, PassesAt CX X σ (fun c d H => W c d σ H)) (hdb : (x == ("__debug__" : Str)) = false) : PE X (.Call (.Name x p) [] [] pos) (tMkR C sp W tNil) := by
  constructor
  intro pins s σ H Q I h
  exact wpAny_Call_Name_kw (ld_glob I hg hm (PySem.W.callWith_K0 I.kIn M.kp (run_mkRS (us := []) M F hr (hx σ) I .nil h)) hdb)
/-! ### methods of own classes -/
def plOf (o : Expr) (env : Env) : Sem Bool := do return (← importBound o env).getD true
theorem meth_ev {o : Expr} {m : Str} {apos pos : Pos} {args : List Expr} {env : Env} (hb : attributeBase o m env (eval o env) = eval o env) (hs : args.all noStar = true) (hl : args.length < 20) (hline : (apos.endLine == pos.line) = true) :
    eval (.Call (.Attribute o m apos) args [] pos) env = (do
      let ov ← eval o env
      standAt apos.atName
      let (f, first) ← holding [ov] (getMethod ov m (plOf o env))
      callWith pos f first (backTo pos (starEach args env)) (backToKw pos (keywordEach [] env))) := by
  have hform : methodCallForm (args.length + ([] : List Keyword).length) (backTo pos (starEach args env)) (backToKw pos (keywordEach [] env)) = true := by
    unfold methodCallForm
    rw [starEach_all pos env hs]
    have : decide (args.length + ([] : List Keyword).length + (if (backToKw pos (keywordEach [] env)).isEmpty = true then 0 else 1) < 30) = true := by
      rw [decide_eq_true_eq]
      have : (if (backToKw pos (keywordEach [] env)).isEmpty = true then 0 else 1) ≤ 1 := by split <;> omega
      simp only [List.length_nil]; omega
    rw [this]; rfl
  have hpos : methodCallPos true o env apos pos = pure pos := by unfold methodCallPos; simp [hline]
  have e : ∀ ov, methodCall o m apos pos env ov (args.length + ([] : List Keyword).length) (backTo pos (starEach args env)) (backToKw pos (keywordEach [] env)) = (do
      let (f, first) ← holding [ov] (getMethod ov m (plOf o env))
      callWith pos f first (backTo pos (starEach args env)) (backToKw pos (keywordEach [] env))) := by
    intro ov
    unfold methodCall
    rw [hform, hpos]
    rfl
  rw [arm_eval_Call, hb]
  simp only [e]
/-- o.m(..), o an instance of an own class that is known where it runs -/
def rMth (K : PySem.W.Frag) (P : Program) (w : World) (mg : Str → Option Value) (base : Heap) (CX : CXT) (j : Nat) (m : Str) (x : V) (H : Hp) (k : Sp → Prop) : Prop :=
  ∃ a C f dx fs sp, x = .ref a ∧ H a = some (.ins C dx fs) ∧ Cls K C ∧ Meth K C m f ∧ FnG P w K mg base CX j f sp ∧ fs.lookup m = none ∧ k sp
def tMthR (X : Cx) (CX : CXT) (j : Nat) (m : Str) (W : WX) (to : TE) (t : TA) : TE := fun σ H Q => to σ H fun x H1 => rMth X.K X.prog X.w X.mg X.base CX j m x H1 fun sp => t σ H1 fun vs H2 => sp (x :: vs) H2 Q (fun c d H' => W c d σ H')
theorem pe_mthR {CX : CXT} {j : Nat} {o e : Expr} {m : Str} {es : List Expr} {to : TE} {t : TA} {apos pos : Pos} (ho : PE X o to) (ha : PA X (e :: es) t) (hr : RoomG X.K X.base j X.A) (hx : ∀ σ, PassesAt CX X σ (fun c d H => W c d σ H))
    (hb : plainBase o = true) (hs : (e :: es).all noStar = true) (hl : (e :: es).length < 20) (hline : (apos.endLine == pos.line) = true) : PE X (.Call (.Attribute o m apos) (e :: es) [] pos) (tMthR X CX j m W to t) := by
  have hs' : noStar e = true ∧ es.all noStar = true := by simpa using hs
  constructor
  intro pins s σ H Q I h
  refine PySem.W.methodCall_KW (pl := plOf o X.env) (thn (ho.run pins s σ H _ I h) ?_) (meth_ev (base_plain hb _ _ _) hs hl hline)
  rintro u s1 ⟨x, H1, I1, rx, a, C, f, dx, fs, sp, rfl, ea, c, hm, F, l, q⟩
  obtain rfl : u = Value.ref a := rx
  refine getmeth_ok I1 ea c hm l ?_
  refine PySem.W.callWith_K (first := [.ref a]) (h₀ := X.base) I.ok.mod.kin hm.kp (thn (ha.run pos pins s1 σ H1 _ I1 q) ?_) (starEach_one hs'.1 _ _) (starEach_any pos X.env hs'.2)
  rintro us s2 ⟨vs, H2, I2, r, q2⟩
  exact ⟨I2.kIn, run_fnRS (us := .ref a :: us) (vs := .ref a :: vs) F hr (hx σ) I2 (.cons rfl r) q2⟩
theorem pe_mthR0 {CX : CXT} {j : Nat} {o : Expr} {m : Str} {to : TE} {apos pos : Pos} (ho : PE X o to) (hr : RoomG X.K X.base j X.A) (hx : ∀ σ, PassesAt CX X σ (fun c d H => W c d σ H))
    (hb : plainBase o = true) (hline : (apos.endLine == pos.line) = true) : PE X (.Call (.Attribute o m apos) [] [] pos) (tMthR X CX j m W to tNil) := by
  constructor
  intro pins s σ H Q I h
  refine PySem.W.methodCall_KW (pl := plOf o X.env) (thn (ho.run pins s σ H _ I h) ?_) (meth_ev (base_plain hb _ _ _) rfl (by show 0 < 20; omega) hline)
  rintro u s1 ⟨x, H1, I1, rx, a, C, f, dx, fs, sp, rfl, ea, c, hm, F, l, q⟩
  obtain rfl : u = Value.ref a := rx
  refine getmeth_ok I1 ea c hm l ?_
  exact PySem.W.callWith_K0 (first := [.ref a]) I1.kIn hm.kp (run_fnRS (us := [.ref a]) (vs := [.ref a]) F hr (hx σ) I1 (.cons rfl .nil) q)
/-- len(o), o an instance of an own class -/
def tLenR (X : Cx) (CX : CXT) (j : Nat) (W : WX) (to : TE) : TE := fun σ H Q => to σ H fun x H1 => rMth X.K X.prog X.w X.mg X.base CX j "__len__" x H1 fun sp => sp [x] H1 (fun v H2 => ∃ i : Int, v = .int i ∧ 0 ≤ i ∧ i < 2 ^ 63 ∧ Q (.int i) H2) (fun c d H' => W c d σ H')
theorem pe_lenR {CX : CXT} {j : Nat} {o : Expr} {to : TE} {p pos : Pos} (ho : PE X o to) (hr : RoomG X.K X.base (j + 1) X.A) (hx : ∀ σ, PassesAt CX X σ (fun c d H => W c d σ H)) (hg : Gl X "len") (hm : X.mg "len" = none) (hn : noStar o = true) : PE X (.Call (.Name "len" p) [o] [] pos) (tLenR X CX j W to) := by
  constructor
  intro pins s σ H Q I h
  refine wpAny_Call_Name_kw (ld_blt I hg hm (u := .builtin "len") (by decide +kernel) ?_ (by decide) (by decide))
  refine PyProof.Rows.callWith_builtin1 ?_ (starEach_one hn _ _) rfl
  rw [starEach_one hn]
  refine Calls.spliced_cons (thn (ho.run pins s σ H _ I h) fun u s1 ⟨x, H1, I1, rx, q⟩ => Calls.spliced_nil ?_)
  obtain ⟨a, C, f, dx, fs, sp, rfl, ea, c, hm, F, l, q⟩ := q
  obtain rfl : u = Value.ref a := rx
  obtain ⟨mA, J, _⟩ := ins_get I1.hok ea
  obtain ⟨od, J, _⟩ := J.look
  obtain ⟨mm, hF⟩ := I1.fr
  refine PySem.W.len_K hF I1.ok.mod.kin J hm.at_ hm.fn ?_
  have e0 : Env0 X.prog X.w X.K X.mg X.base X.A.in1 X.stack s1 H1 := by
    have e := I1.env0
    exact ⟨e.frames, e.mod, e.bs, e.bsz, e.funs, e.frf, e.hok, e.bare⟩
  refine wpAny_call (codeAny_mono (F X.A.in1 X.stack s1 H1 [.ref a] [.ref a] _ _ hr.in1 e0 (.cons rfl .nil) q) fun r s' hq => ?_)
  cases r with
  | error e => exact hx σ pins H1 s1 e s' I1 hq
  | ok fl =>
    cases fl with
    | ret w =>
      obtain ⟨z, H', I', rz, i, ez, h0, h1, q2⟩ := I1.after hq
      subst ez
      obtain ⟨t, rfl⟩ := rz
      exact ⟨⟨h0, h1⟩, .int i, H', I'.tok _, ⟨_, rfl⟩, q2⟩
    | next => exact False.elim hq
    | brk => exact False.elim hq
    | cont => exact False.elim hq
/-- a test that is an IfExp -/
theorem pt_ifx {a b c : Expr} {pos : Pos} {tc ta tb : TT} (hc : PT X c tc) (ha : PT X a ta) (hb : PT X b tb) : PT X (.IfExp c a b pos) (fun σ H Q => tc σ H fun d H1 => if d = true then ta σ H1 Q else tb σ H1 Q) := by
  constructor
  intro pins s σ H Q I h
  rw [arm_isTrue_IfExp]
  refine wpAny_bind (thn (hc.run pins s σ H _ I h) ?_)
  rintro d s1 ⟨H1, I1, q⟩
  cases d with
  | true => exact ha.run pins s1 σ H1 Q I1 q
  | false => exact hb.run pins s1 σ H1 Q I1 q
end

/-! ### readings -/
section
variable {K : PySem.W.Frag} {ad : Ad} {G : Gt} {W : WX} {E : XK} {w w' : Wd} {σ : L2.St} {H : Hp} {cal : Cal}
theorem okB.ret {Q : Bool → Hp → Prop} {b : Bool} {S : List O} (h : okB K ad G Q E w (.ok b S)) (e : w.S = S) (s : RelS K ad.cls w) : Q b w.H := h w e (Le.refl w) s
theorem tst_and (a b : Lt.E) (τ : Tau) (S : List O) : tst G cal (.and_ a b) τ S = (tst G cal a τ S).bind fun c S1 => if c then tst G cal b τ S1 else .ok false S1 := by
  show ((den G cal a τ S).bind _).bind _ = ((den G cal a τ S).bind _).bind _
  cases den G cal a τ S with
  | ok x S1 =>
    simp only [R.bind_ok]
    cases h : truO S1 x with
    | none => rfl
    | some k => cases k with
      | true => rfl
      | false => simp [h]
  | ex c fs S => rfl
  | no => rfl
theorem tst_or (a b : Lt.E) (τ : Tau) (S : List O) : tst G cal (.or_ a b) τ S = (tst G cal a τ S).bind fun c S1 => if c then .ok true S1 else tst G cal b τ S1 := by
  show ((den G cal a τ S).bind _).bind _ = ((den G cal a τ S).bind _).bind _
  cases den G cal a τ S with
  | ok x S1 =>
    simp only [R.bind_ok]
    cases h : truO S1 x with
    | none => rfl
    | some k => cases k with
      | true => simp [h]
      | false => rfl
  | ex c fs S => rfl
  | no => rfl
theorem tst_not (a : Lt.E) (τ : Tau) (S : List O) : tst G cal (.no_ a) τ S = (tst G cal a τ S).bind fun c S1 => .ok (!c) S1 := by
  show ((den G cal a τ S).bind _).bind _ = ((den G cal a τ S).bind _).bind _
  cases den G cal a τ S with
  | ok x S1 =>
    simp only [R.bind_ok]
    cases h : truO S1 x with
    | none => rfl
    | some k => rfl
  | ex c fs S => rfl
  | no => rfl
theorem tst_ifx (t a b : Lt.E) (τ : Tau) (S : List O) : tst G cal (.ifx t a b) τ S = (tst G cal t τ S).bind fun c S1 => if c then tst G cal a τ S1 else tst G cal b τ S1 := by
  show ((den G cal t τ S).bind _).bind _ = ((den G cal t τ S).bind _).bind _
  cases den G cal t τ S with
  | ok x S1 =>
    simp only [R.bind_ok]
    cases h : truO S1 x with
    | none => rfl
    | some k => cases k <;> rfl
  | ex c fs S => rfl
  | no => rfl
theorem den_ifx (t a b : Lt.E) (τ : Tau) (S : List O) : den G cal (.ifx t a b) τ S = (tst G cal t τ S).bind fun c S1 => if c then den G cal a τ S1 else den G cal b τ S1 := by
  show ((den G cal t τ S).bind _) = ((den G cal t τ S).bind _).bind _
  cases den G cal t τ S with
  | ok x S1 =>
    simp only [R.bind_ok]
    cases h : truO S1 x with
    | none => rfl
    | some k => cases k <;> rfl
  | ex c fs S => rfl
  | no => rfl
/-- a test, then the rest -/
theorem tT1 {mt : Tau → List O → R Bool} {f : Bool → Tau → List O → R A} {Q : VK} {r : Bool → Hp → VK → Prop} (h : tE K ad G W (fun τ S => (mt τ S).bind fun a S1 => f a τ S1) σ H Q)
    (k : ∀ w τ b, RelS K ad.cls w → RelT K w τ σ → okR K ad G Q (fun c d H' => W c d σ H') w (f b τ w.S) → r b w.H Q) : tT K ad G W mt σ H fun b H1 => r b H1 Q := by
  obtain ⟨w, τ, e, s, t, h⟩ := h
  exact ⟨w, τ, e, s, t, okB.bindR h fun w1 b l s1 h1 => k w1 τ b s1 (t.mono l.mo) h1⟩
theorem tT2 {mt : Tau → List O → R Bool} {f : Bool → Tau → List O → R Bool} {Q : Bool → Hp → Prop} {r : Bool → Hp → (Bool → Hp → Prop) → Prop} (h : tT K ad G W (fun τ S => (mt τ S).bind fun a S1 => f a τ S1) σ H Q)
    (k : ∀ w τ b, RelS K ad.cls w → RelT K w τ σ → okB K ad G Q (fun c d H' => W c d σ H') w (f b τ w.S) → r b w.H Q) : tT K ad G W mt σ H fun b H1 => r b H1 Q := by
  obtain ⟨w, τ, e, s, t, h⟩ := h
  exact ⟨w, τ, e, s, t, okB.bindB h fun w1 b l s1 h1 => k w1 τ b s1 (t.mono l.mo) h1⟩
theorem tE.congr {m m' : Tau → List O → R A} {Q : VK} (h : tE K ad G W m σ H Q) (e : ∀ τ S, m τ S = m' τ S) : tE K ad G W m' σ H Q := by
  obtain ⟨w, τ, a, b, c, h⟩ := h
  exact ⟨w, τ, a, b, c, by rw [← e]; exact h⟩
theorem tT.congr {m m' : Tau → List O → R Bool} {Q : Bool → Hp → Prop} (h : tT K ad G W m σ H Q) (e : ∀ τ S, m τ S = m' τ S) : tT K ad G W m' σ H Q := by
  obtain ⟨w, τ, a, b, c, h⟩ := h
  exact ⟨w, τ, a, b, c, by rw [← e]; exact h⟩
/-- the arguments, then the rest -/
theorem tA1 {ma : Tau → List O → R (List A)} {f : List A → Tau → List O → R A} {Q : VK} {r : List V → Hp → VK → Prop} (h : tE K ad G W (fun τ S => (ma τ S).bind fun a S1 => f a τ S1) σ H Q)
    (k : ∀ w τ a v, RelS K ad.cls w → RelT K w τ σ → RelAs K w a v → okR K ad G Q (fun c d H' => W c d σ H') w (f a τ w.S) → r v w.H Q) : tL K ad G W ma σ H fun x H1 => r x H1 Q := by
  obtain ⟨w, τ, e, s, t, h⟩ := h
  exact ⟨w, τ, e, s, t, okA.bindR h fun w1 a v l s1 q h1 => k w1 τ a v s1 (t.mono l.mo) q h1⟩
theorem tI1 {ma : Tau → List O → R (List A)} {f : List A → Tau → List O → R (List A × Gd)} {Q : It → Hp → Prop} {r : List V → Hp → (It → Hp → Prop) → Prop} (h : tI K ad G W (fun τ S => (ma τ S).bind fun a S1 => f a τ S1) σ H Q)
    (k : ∀ w τ a v, RelS K ad.cls w → RelT K w τ σ → RelAs K w a v → okI K ad G Q (fun c d H' => W c d σ H') w (f a τ w.S) → r v w.H Q) : tL K ad G W ma σ H fun x H1 => r x H1 Q := by
  obtain ⟨w, τ, e, s, t, h⟩ := h
  exact ⟨w, τ, e, s, t, okA.bindI h fun w1 a v l s1 q h1 => k w1 τ a v s1 (t.mono l.mo) q h1⟩
end
end Lt
/-! a call apart: all that stands is hidden from it -/
namespace Lt
open PySem L2
open Classical in
/-- what stands, by address -/
noncomputable def Wd.all (w : Wd) : List Addr := w.hid ++ w.ms.filter fun a => decide (w.Live a)
theorem mem_all {w : Wd} {a : Addr} : a ∈ w.all ↔ w.Live a := by
  unfold Wd.all
  simp only [List.mem_append, List.mem_filter, decide_eq_true_eq]
  constructor
  · rintro (h | ⟨_, h⟩)
    · exact .inl h
    · exact h
  · rintro (h | ⟨n, o, e, q, l⟩)
    · exact .inl h
    · exact .inr ⟨List.mem_of_getElem? e, .inr ⟨n, o, e, q, l⟩⟩
noncomputable def Wd.apart (w : Wd) : Wd := ⟨[], [], w.H, w.all⟩
theorem apart_live {w : Wd} {a : Addr} : w.apart.Live a ↔ w.Live a := by
  unfold Wd.Live Wd.apart
  simp only [mem_all]
  constructor
  · rintro (h | ⟨n, o, e, _⟩)
    · exact h
    · simp at e
  · exact .inl
mutual
theorem apart_rel {K : PySem.W.Frag} {w : Wd} : ∀ {a : A} {v : V}, a.pure = true → RelA K w a v → RelA K w.apart a v
  | .non, v, _, r => by simpa [RelA] using r
  | .bl _, v, _, r => by simpa [RelA] using r
  | .int _, v, _, r => by simpa [RelA] using r
  | .str _, v, _, r => by simpa [RelA] using r
  | .ref _, v, h, _ => by simp [A.pure] at h
  | .scr _, v, h, _ => by simp [A.pure] at h
  | .ktup _, v, h, _ => by simp [A.pure] at h
  | .tup xs, v, h, r => by
    simp only [RelA] at r ⊢
    obtain ⟨a, vs, e, q, rs⟩ := r
    exact ⟨a, vs, e, ⟨q.1, fun l => q.2 (apart_live.mp l)⟩, apart_rels (by simpa [A.pure] using h) rs⟩
  | .lst xs, v, h, r => by
    simp only [RelA] at r ⊢
    obtain ⟨a, vs, e, q, rs⟩ := r
    exact ⟨a, vs, e, ⟨q.1, fun l => q.2 (apart_live.mp l)⟩, apart_rels (by simpa [A.pure] using h) rs⟩
theorem apart_rels {K : PySem.W.Frag} {w : Wd} : ∀ {as : List A} {vs : List V}, A.pures as = true → RelAs K w as vs → RelAs K w.apart as vs
  | [], vs, _, r => by simpa [RelAs] using r
  | x :: xs, vs, h, r => by
    simp only [A.pures, Bool.and_eq_true] at h
    simp only [RelAs] at r ⊢
    obtain ⟨v, q, e, r1, r2⟩ := r
    exact ⟨v, q, e, apart_rel h.1 r1, apart_rels h.2 r2⟩
end
mutual
/-- a plain value needs but what is not changed -/
theorem plain_rel {K : PySem.W.Frag} {w w' : Wd} (hl : ∀ a xs, VL w a xs → VL w' a xs) (ht : ∀ a xs, VT w a xs → VT w' a xs) : ∀ {a : A} {v : V}, a.pure = true → RelA K w a v → RelA K w' a v
  | .non, v, _, r => by simpa [RelA] using r
  | .bl _, v, _, r => by simpa [RelA] using r
  | .int _, v, _, r => by simpa [RelA] using r
  | .str _, v, _, r => by simpa [RelA] using r
  | .ref _, v, h, _ => by simp [A.pure] at h
  | .scr _, v, h, _ => by simp [A.pure] at h
  | .ktup _, v, h, _ => by simp [A.pure] at h
  | .tup xs, v, h, r => by
    simp only [RelA] at r ⊢
    obtain ⟨a, vs, e, q, rs⟩ := r
    exact ⟨a, vs, e, ht _ _ q, plain_rels hl ht (by simpa [A.pure] using h) rs⟩
  | .lst xs, v, h, r => by
    simp only [RelA] at r ⊢
    obtain ⟨a, vs, e, q, rs⟩ := r
    exact ⟨a, vs, e, hl _ _ q, plain_rels hl ht (by simpa [A.pure] using h) rs⟩
theorem plain_rels {K : PySem.W.Frag} {w w' : Wd} (hl : ∀ a xs, VL w a xs → VL w' a xs) (ht : ∀ a xs, VT w a xs → VT w' a xs) : ∀ {as : List A} {vs : List V}, A.pures as = true → RelAs K w as vs → RelAs K w' as vs
  | [], vs, _, r => by simpa [RelAs] using r
  | x :: xs, vs, h, r => by
    simp only [A.pures, Bool.and_eq_true] at h
    simp only [RelAs] at r ⊢
    obtain ⟨v, q, e, r1, r2⟩ := r
    exact ⟨v, q, e, plain_rel hl ht h.1 r1, plain_rels hl ht h.2 r2⟩
end
theorem apart_S {K : PySem.W.Frag} {cls : Nat → Addr} {w : Wd} (s : RelS K cls w) : RelS K cls w.apart :=
  ⟨rfl, .nil, fun n a e => by simp [Wd.apart] at e, fun n a o e => by simp [Wd.apart] at e, fun a ha => ⟨by simp [Wd.apart], by
    rcases mem_all.mp ha with h | ⟨n, o, e, q, l⟩
    · exact (s.hid a h).2
    · exact s.has n a e⟩⟩
/-- back from it -/
theorem apart_back {K : PySem.W.Frag} {cls : Nat → Addr} {w w1 : Wd} (s : RelS K cls w) (l : Le w.apart w1) :
    let w' : Wd := ⟨w.ms, w.S, w1.H, w.hid⟩
    Le w w' ∧ RelS K cls w' ∧ ∀ a v, a.pure = true → RelA K w1 a v → RelA K w' a v := by
  intro w'
  have hlv : ∀ a, w'.Live a ↔ w.Live a := fun a => Iff.rfl
  have hh : ∀ a, w.Live a → w1.Live a := fun a h => .inl (by rw [l.hid]; exact mem_all.mpr h)
  have hk : ∀ a h, w.H a = some h → w1.H a = some h := fun a h e => by
    by_cases hl : w.Live a
    · exact l.hidk a (mem_all.mpr hl) h e
    · exact (l.mo.keep a h e fun z => hl (apart_live.mp z)).1
  have le : Le w w' := ⟨⟨⟨[], by simp [w']⟩, fun a h e nl => ⟨hk a h e, nl⟩⟩, rfl, fun a _ h e => hk a h e⟩
  refine ⟨le, ⟨s.len, s.nd, fun n a e => ?_, fun n a o e q => ?_, fun a ha => ?_⟩, fun a v hp r => ?_⟩
  · obtain ⟨h, q⟩ := s.has n a e
    exact ⟨h, hk a h q⟩
  · obtain ⟨h, z⟩ := s.has n a e
    exact (s.obj n a o e q).mono le.mo ((hk a h z).trans z.symm)
  · obtain ⟨h1, h, h2⟩ := s.hid a ha
    exact ⟨h1, h, hk a h h2⟩
  · exact plain_rel (w := w1) (w' := w') (fun a xs q => ⟨q.1, fun z => q.2 (hh a z)⟩) (fun a xs q => ⟨q.1, fun z => q.2 (hh a z)⟩) hp r
theorem pures_mem {x : A} : ∀ {xs : List A}, A.pures xs = true → x ∈ xs → x.pure = true
  | [], _, h => by cases h
  | y :: ys, hp, hm => by
    simp only [A.pures, Bool.and_eq_true] at hp
    rcases List.mem_cons.mp hm with rfl | hm
    · exact hp.1
    · exact pures_mem hp.2 hm
theorem paired_to {α β : Type} {R R' : α → β → Prop} {zs : List α} {ws : List β} (pr : Paired R zs ws) (h : ∀ p ∈ zs, ∀ q, R p q → R' p q) : Paired R' zs ws := by
  induction pr with
  | nil => exact .nil
  | cons a _ ih => exact .cons (h _ List.mem_cons_self _ a) (ih fun p hp => h p (List.mem_cons_of_mem _ hp))
theorem apart_ex {K : PySem.W.Frag} {ad : Ad} {G : Gt} {w w1 : Wd} {c : Nat} {fs : List A} {cv : Value} {d : Option Addr} (s : RelS K ad.cls w) (l : Le w.apart w1) (hp : A.pures fs = true) (h : ExR K ad G w1 c fs cv d) : ExR K ad G ⟨w.ms, w.S, w1.H, w.hid⟩ c fs cv d := by
  obtain ⟨le, s2, hr⟩ := apart_back s l
  obtain ⟨e, dd, ws, ci, e1, q, e2, pr⟩ := h
  refine ⟨e, dd, ws, ci, e1, ⟨q.1, fun z => q.2 (.inl (by rw [l.hid]; exact mem_all.mpr z))⟩, e2, ?_⟩
  have hq : ∀ p ∈ (ci.2.zip fs).reverse, p.2.pure = true := by
    intro p hp'
    have hp2 : p ∈ ci.2.zip fs := List.mem_reverse.mp hp'
    have hm : p.2 ∈ fs := (List.of_mem_zip hp2).2
    exact pures_mem hp hm
  exact paired_to pr fun p hp q h => ⟨h.1, hr _ _ (hq p hp) h.2⟩
theorem spF_pcal {K : PySem.W.Frag} {ad : Ad} {G : Gt} {cal : Cal} {d : Nat} {vs : List V} {H : Hp} {Q : VK} {E : XK} (h : spF K ad G (pcal cal d) vs H Q E) : spF K ad G (cal d) vs H Q E := by
  obtain ⟨w, as, rfl, s, r, ok⟩ := h
  unfold pcal at ok
  by_cases hp : A.pures as = true
  · rw [if_pos hp] at ok
    refine ⟨w.apart, as, rfl, apart_S s, apart_rels hp r, ?_⟩
    show okR K ad G Q E w.apart (cal d as [])
    cases e : cal d as [] with
    | ok v T =>
      rw [e] at ok
      by_cases hv : v.pure = true
      · simp only [hv, if_true] at ok
        intro w1 u e1 l1 s1 r1
        obtain ⟨le, s2, hr⟩ := apart_back s l1
        exact ok ⟨w.ms, w.S, w1.H, w.hid⟩ u rfl le s2 (hr v u hv r1)
      · simp only [hv] at ok; exact ok.elim
    | ex c fs T =>
      rw [e] at ok
      by_cases hv : A.pures fs = true
      · simp only [hv, if_true] at ok
        intro w1 cv dx e1 l1 s1 r1
        obtain ⟨le, s2, hr⟩ := apart_back s l1
        exact ok ⟨w.ms, w.S, w1.H, w.hid⟩ cv dx rfl le s2 (apart_ex s l1 hv r1)
      · simp only [hv] at ok; exact ok.elim
    | no => rw [e] at ok; exact ok.elim
  · rw [if_neg hp] at ok; exact ⟨w, as, rfl, s, r, ok⟩
end Lt
/-! a tuple from behind -/
namespace Lt
open PySem L2 PySem.Spec PyProof.Rows HT
section
variable {prog : Program} {w : World} {A : Around} {E : Value → Shared → Prop} {s : Shared}
theorem adjust_rev (n : Nat) : Builtin.Slice.sliceAdjust none none (-1) (n : Int) = ((n : Int) - 1, -1) := by
  unfold Builtin.Slice.sliceAdjust
  have h1 : (-1 : Int) < 0 := by omega
  simp only [h1, if_true]
theorem places_rev (n : Nat) : Builtin.Slice.slicePlaces ((n : Int) - 1) (-1) (-1) = n := by
  unfold Builtin.Slice.slicePlaces
  have h1 : ¬ (-1 : Int) > 0 := by omega
  simp only [h1, if_false]
  cases n with
  | zero => rfl
  | succ n =>
    have : (-1 : Int) < ((n + 1 : Nat) : Int) - 1 := by omega
    have e1 : (- (-1) : Int) = 1 := rfl
    simp only [this, if_true, e1, Int.ediv_one]
    omega
theorem applied_rev {sl : Addr} {vl vu vs : Value} {n : Nat} {Q : Int × Int × Nat → Shared → Prop} (hs : s.heap.IsSliceOf sl vl vu vs) (pl : IsPart vl none) (pu : IsPart vu none) (ps : IsPart vs (some (-1)))
    (h : Q ((n : Int) - 1, -1, n) s) : wpAny (model prog w) A (Builtin.Slice.sliceApplied (.ref sl) (pure (n : Int))) Q E s := by
  obtain ⟨os, hos, hcs, hds⟩ := id hs
  unfold Builtin.Slice.sliceApplied Builtin.Slice.sliceFields
  refine wpAny_bind (wpAny_bind (wpAny_field hos hds (x := vl) rfl (wpAny_bind (wpAny_field hos hds (x := vu) rfl (wpAny_bind (wpAny_field hos hds (x := vs) rfl (wpAny_pure ?_)))))))
  refine wpAny_bind (slicePart_ ps ?_)
  show wpAny _ _ (if ((-1 : Int) == 0) = true then _ else _) _ _ s
  rw [if_neg (by decide)]
  refine wpAny_bind (slicePart_ pl (wpAny_bind (slicePart_ pu (wpAny_bind (wpAny_pure ?_)))))
  show wpAny _ _ (match Builtin.Slice.sliceAdjust none none (-1) (n : Int) with | (lo, hi) => pure (lo, (-1 : Int), Builtin.Slice.slicePlaces lo hi (-1))) _ _ s
  rw [adjust_rev n]
  show wpAny _ _ (pure ((n : Int) - 1, (-1 : Int), Builtin.Slice.slicePlaces ((n : Int) - 1) (-1) (-1))) _ _ s
  rw [places_rev]
  exact wpAny_pure h
theorem pick_rev (xs : Array Value) : ((List.range xs.size).filterMap fun (m : Nat) => xs[(((xs.size : Int) - 1) + (m : Int) * -1).toNat]?).toArray = xs.toList.reverse.toArray := by
  have e : (fun (m : Nat) => xs[(((xs.size : Int) - 1) + (m : Int) * -1).toNat]?) = (fun i => xs[i]?) ∘ fun k => xs.size - 1 - k := by
    funext m
    have : (((xs.size : Int) - 1) + (m : Int) * -1).toNat = xs.size - 1 - m := by omega
    rw [this]; rfl
  rw [e, ← List.filterMap_map, PySem.W.krv_range, List.filterMap_reverse, PySem.W.krv_all]
theorem getItem_tuple_rev {t sl : Addr} {items : Array Value} {vl vu vs : Value} {Q : Value → Shared → Prop} (ht : IsTup s.heap t items) (hs : s.heap.IsSliceOf sl vl vu vs) (pl : IsPart vl none) (pu : IsPart vu none) (ps : IsPart vs (some (-1)))
    (h : Q (.ref s.heap.objs.size) { s with heap := s.heap.push { cls := .type "tuple", data := .seq items.toList.reverse.toArray } })
    (hsz : items.size ≤ sizeLine) : wpAny (model prog w) A (getItem (.ref t) (.ref sl)) Q E s := by
  have htake : sizeOk (.seq items.toList.reverse.toArray) := by
    show items.toList.reverse.toArray.size ≤ sizeLine
    rw [List.size_toArray, List.length_reverse, Array.length_toList]
    exact hsz
  obtain ⟨os, hos, hcs, hds⟩ := id hs
  have hTs : s.TypeIs (.ref sl) "slice" := ⟨os, hos, hcs⟩
  unfold getItem
  try with_reducible refine wpAny_holding ?_
  first | refine wpAny_bind (wpAny_pure ?_) | skip
  refine wpAny_bind (wpAny_sequenceKey ht.typeIs (by decide) ?_)
  refine wpAny_bind (wpAny_callSpecial?_slot (name := Str.ofString "__getitem__") ht.typeIs PyProof.Rows.slot_tuple_getitem
    (wpAny_call_entry PyProof.Rows.slot_tuple_getitem ht.typeIs entry_tuple_getitem ?_ (args_tuple_getitem _ _)))
  show wpAny _ _ (Builtin.Tuple.tupleItemsOf (.ref t) >>= _) _ _ s
  refine wpAny_bind (tupleItemsOf_ ht ?_)
  refine wpAny_bind (wpAny_typeOf hTs ?_)
  rw [if_pos (by decide)]
  refine wpAny_bind (applied_rev hs pl pu ps ?_)
  have hno : ¬ (((((items.size : Nat) : Int) - 1) == 0 && (-1 : Int) == 1 && items.size == items.size) = true) := by
    intro q
    rw [Bool.and_eq_true, Bool.and_eq_true] at q
    exact absurd q.1.2 (by decide)
  show wpAny _ _ (if ((((items.size : Nat) : Int) - 1) == 0 && (-1 : Int) == 1 && items.size == items.size) = true then _ else _) _ _ s
  rw [if_neg hno, pick_rev]
  first
    | exact wpAny_bind (m := Builtin.Tuple.tupleExact _) (wpAny_newObj_type (wpAny_pure ⟨_, rfl, wpAny_pure h⟩) htake)
    | exact wpAny_bind (m := Builtin.Tuple.tupleExact _) (wpAny_newObj_type (wpAny_bind (wpAny_pure (wpAny_pure ⟨_, rfl, wpAny_pure h⟩))) htake)
    | exact wpAny_bind (wpAny_bind (m := Builtin.Tuple.tupleExact _) (wpAny_newObj_type (wpAny_pure (wpAny_pure ⟨_, rfl, wpAny_pure h⟩)) htake))
    | exact wpAny_bind (wpAny_bind (m := Builtin.Tuple.tupleExact _) (wpAny_newObj_type (wpAny_pure ⟨_, rfl, wpAny_pure h⟩) htake))
end
section
variable {X : Cx}
/-- a list or a tuple from behind -/
def tRevA (K : PySem.W.Frag) (te : TE) : TE := fun σ H Q => te σ H fun x H1 => (∃ a xs, x = .ref a ∧ SqL K H1 a xs ∧ ∀ p, H1 p = none → Q (.ref p) (upd H1 p (.lst xs.reverse))) ∨ (∃ a xs, x = .ref a ∧ SqT K H1 a xs ∧ ∀ p, H1 p = none → Q (.ref p) (upd H1 p (.tup xs.reverse)))
theorem pe_revA {e : Expr} {te : TE} {k : Nat} {p1 p2 p3 pos : Pos} (he : PE X e te) : PE X (.Subscript e (.Slice none none (some (.UnaryOp .USub (.Constant (.int 1) k p1) p2)) p3) pos) (tRevA X.K te) := by
  refine ⟨fun pins s σ H Q I h => ?_⟩
  refine Subscript_ (thn (he.run pins s σ H _ I h) fun v s1 ⟨x, H1, I1, r1, q1⟩ => ?_)
  have hst : PO X (some (.UnaryOp .USub (.Constant (.int 1) k p1) p2)) (tPart (tUn (rU fun i => .int (-i)) (tC (.int 1)))) := po_some (pe_un un_neg pe_int)
  refine wpAny_Slice (thn (po_none.run pins s1 σ H1 (fun o H2 => o = none ∧ H2 = H1) I1 ⟨rfl, rfl⟩) fun vl s2 ⟨l, H2, I2, pl, el, e2⟩ => ?_)
  subst el e2
  refine thn (po_none.run pins s2 σ H2 (fun o H3 => o = none ∧ H3 = H2) I2 ⟨rfl, rfl⟩) fun vu s3 ⟨u, H3, I3, pu, eu, e3⟩ => ?_
  subst eu e3
  refine thn (hst.run pins s3 σ H3 (fun o H4 => o = some (-1) ∧ H4 = H3) I3 ⟨1, rfl, -1, rfl, rfl, rfl⟩) fun vs s4 ⟨o, H4, I4, ps, eo, e4⟩ => ?_
  subst eo e4
  have I5 : Inv X pins σ H4 { s4 with heap := s4.heap.push { cls := .type "slice", data := .fields #[vl, vu, vs] } } := I4.kept (t' := s4.toks) fun b ob q => Heap.get?_push_of_some _ q
  rcases q1 with ⟨a, xs, ex, hx, q⟩ | ⟨a, xs, ex, hx, q⟩
  · subst ex
    cases r1
    obtain ⟨its, r, ht, hz⟩ := I5.list hx
    have hlen := r.length
    show wpAny (model X.prog X.w) X.A (subscriptTail e (.Slice none none (some (.UnaryOp .USub (.Constant (.int 1) k p1) p2)) p3) (.ref a) (.ref s4.heap.objs.size)) (EP X pins σ Q) X.xe { s4 with heap := s4.heap.push { cls := .type "slice", data := .fields #[vl, vu, vs] } }
    refine tail_any (ops := [.ref a, .ref s4.heap.objs.size]) ht.isList.typeIs (PySem.slot_list_getitem.lookup) ?_ (by with_unfolding_all rfl)
    refine wpAny_getItem_list_slice ht.isList (Heap.IsSliceOf.new _ vl vu vs) pl pu ps (by decide) ?_ (by rw [List.size_toArray]; omega)
    rw [PySem.W.krv_pick]
    refine ⟨.ref _, _, I5.laid (t' := s4.toks) (o := .lst xs.reverse) (fun b ob q => Heap.get?_push_of_some _ q) (Nat.le_refl _) ?_, rfl, q _ (I5.hok.fresh (Nat.le_refl _))⟩
    exact ⟨by rw [List.length_reverse]; exact hz, _, 0, r.reverse, Heap.get?_push_size _ rfl⟩
  · subst ex
    cases r1
    obtain ⟨its, r, ht, hz⟩ := I5.tuple hx
    have hlen := r.length
    show wpAny (model X.prog X.w) X.A (subscriptTail e (.Slice none none (some (.UnaryOp .USub (.Constant (.int 1) k p1) p2)) p3) (.ref a) (.ref s4.heap.objs.size)) (EP X pins σ Q) X.xe { s4 with heap := s4.heap.push { cls := .type "slice", data := .fields #[vl, vu, vs] } }
    refine tail_any (ops := [.ref a, .ref s4.heap.objs.size]) ht.typeIs (PyProof.Rows.slot_tuple_getitem.lookup) ?_ (by with_unfolding_all rfl)
    refine getItem_tuple_rev ht (Heap.IsSliceOf.new _ vl vu vs) pl pu ps ?_ (by rw [List.size_toArray]; omega)
    refine ⟨.ref _, _, I5.laid (t' := s4.toks) (o := .tup xs.reverse) (fun b ob q => Heap.get?_push_of_some _ q) (Nat.le_refl _) ?_, rfl, q _ (I5.hok.fresh (Nat.le_refl _))⟩
    exact ⟨by rw [List.length_reverse]; exact hz, _, r.reverse, ⟨_, Heap.get?_push_size _ rfl, rfl, _, rfl⟩⟩
end
end Lt
/-! a list's comprehension over two sources -/
namespace Lt
open PySem L2
section
variable {G : Gt} {cal : Cal}
/-- the inner one -/
noncomputable def inD (G : Gt) (cal : Cal) (elt : E) (t2 : T) (k2 : IK) (src2 : List E) (vs1 : List Nat) (τ1 : Tau) (acc : List A) (S : List O) : R (List A) := (iD G cal k2 src2 τ1 S).bind fun yg S1 =>
  if acc.length + yg.1.length ≤ sizeLine then lcD yg.2 (fun a τ => T.asg t2 a τ) (fun _ S => .ok true S) (fun τ S => den G cal elt τ S) (wipeT τ1 vs1) acc yg.1 S1 else .no
theorem den_lc2 (fl : Bool) (elt : E) (t : T) (k : IK) (src : List E) (t2 : T) (k2 : IK) (src2 : List E) (own : List (Str × Nat)) (vs1 : List Nat) (τ : Tau) (S : List O) :
    den G cal (.lc2 fl elt t k src t2 k2 src2 own vs1) τ S = (iD G cal k src τ S).bind fun xg S1 => if xg.1.length ≤ sizeLine then (ocD xg.2 (fun a τ => T.asg t a τ) (inD G cal elt t2 k2 src2 vs1) (wipeT τ (own.map (·.2))) [] xg.1 S1).bind fun ys S2 => mkL fl ys S2 else .no := by
  have e : (inD G cal elt t2 k2 src2 vs1) = fun τ1 acc S => (dens G cal src2 τ1 S).bind fun vs S1 => match srcO k2 vs S1 with
      | none => .no
      | some (ys, g2) => if acc.length + ys.length ≤ sizeLine then lcD g2 (fun a τ => T.asg t2 a τ) (fun _ S => .ok true S) (fun τ S => den G cal elt τ S) (wipeT τ1 vs1) acc ys S1 else .no := by
    funext τ1 acc S
    unfold inD iD
    cases dens G cal src2 τ1 S with
    | ok vs S1 =>
      simp only [R.bind_ok]
      cases srcO k2 vs S1 with
      | none => rfl
      | some xg => rfl
    | ex c fs S1 => rfl
    | no => rfl
  rw [e]
  show ((dens G cal src τ S).bind fun vs S1 => _) = _
  unfold iD
  cases dens G cal src τ S with
  | ok vs S1 =>
    simp only [R.bind_ok]
    cases srcO k vs S1 with
    | none => rfl
    | some xg => rfl
  | ex c fs S1 => rfl
  | no => rfl
theorem s_lc2 {K : PySem.W.Frag} {ad : Ad} {W W0 : WX} {fl : Bool} {elt : E} {t : T} {k : IK} {src : List E} {t2 : T} {k2 : IK} {src2 : List E} {own : List (Str × Nat)} {vs1 : List Nat} (hsl : ∀ i ∈ t.slots, i ∈ own.map (·.2)) (hs2 : ∀ i ∈ t2.slots, i ∈ vs1) {σ : L2.St} {H : Hp} {Q : VK}
    (h : tE K ad G W (fun τ S => den G cal (.lc2 fl elt t k src t2 k2 src2 own vs1) τ S) σ H Q) :
    tLc2 (tI K ad G W (fun τ S => iD G cal k src τ S)) (gT K ad t) tYes (tI K ad G W0 (fun τ S => iD G cal k2 src2 τ S)) (gT K ad t2) tYes (tE K ad G W0 (fun τ S => den G cal elt τ S)) (own.map (·.2)) vs1 σ H Q := by
  obtain ⟨w, τ, e, s, rt, h⟩ := h
  have h : okR K ad G Q (fun c d H' => W c d σ H') w (den G cal (.lc2 fl elt t k src t2 k2 src2 own vs1) τ w.S) := h
  rw [den_lc2] at h
  refine ⟨w, τ, e, s, rt, okI.then (P := fun w x => okR K ad G Q (fun c d H' => W c d σ H') w x) h (fun _ _ l h => h.at l) (fun _ _ _ h => h) id ?_⟩
  rintro w1 ⟨xs, g⟩ J le s1 itm h
  intro D hD0
  generalize hin : inD G cal elt t2 k2 src2 vs1 = inn at h
  have h : okR K ad G Q (fun c d H' => W c d σ H') w1 (if xs.length ≤ sizeLine then (ocD g (fun a τ => T.asg t a τ) inn (wipeT τ (own.map (·.2))) [] xs w1.S).bind fun ys S2 => mkL fl ys S2 else .no) := h
  split at h
  case isFalse => exact h.elim
  rename_i hz
  have nh : D ∉ w1.hid := fun z => by
    obtain ⟨_, o, q⟩ := s1.hid D z
    rw [hD0] at q; cases q
  have rt1 : RelT K w1 τ σ := rt.mono le.mo
  generalize hvs : own.map (·.2) = vs at h hsl ⊢
  refine ⟨fun i n H => ∃ wc acc accv, wc.H = H ∧ RelS K ad.cls wc ∧ Blt w1 wc D ∧ RelT K wc (wipeT τ vs) (L2.wipe σ vs) ∧ wc.H D = some (.lst accv) ∧ RelAs K wc acc accv ∧ n = xs.length - i ∧ i ≤ xs.length ∧
    okR K ad G Q (fun c d H' => W c d σ H') w1 ((ocD g (fun a τ => T.asg t a τ) inn (wipeT τ vs) acc (xs.drop i) wc.S).bind fun ys S2 => mkL fl ys S2), ⟨xs.length, w1.hide D (.lst []), [], [], rfl, s1.hide hD0, Blt.start hD0, (rt1.mono (Mo.hide hD0)).wipe vs, upd_same, RelAs.nil, by simp, Nat.zero_le _, h⟩, ?_⟩
  rintro i n H2 ⟨wc, acc, accv, rfl, sc, b, rtc, hDc, ra, rfl, hi, hr⟩
  by_cases hlt : i < xs.length
  · right
    have hdrop : xs.drop i = xs[i] :: xs.drop (i + 1) := List.drop_eq_getElem_cons hlt
    rw [hdrop] at hr
    have gk : g.ok wc.S := by
      by_cases gk : g.ok wc.S
      · exact gk
      · simp only [ocD, if_neg gk] at hr
        exact hr.elim
    simp only [ocD, if_pos gk] at hr
    obtain ⟨go, yl⟩ := (itm wc b.mo sc gk i).2 xs[i] (List.getElem?_eq_getElem hlt)
    refine ⟨go, fun H' => ∃ wc acc accv, wc.H = H' ∧ RelS K ad.cls wc ∧ Blt w1 wc D ∧ RelT K wc (wipeT τ vs) (L2.wipe σ vs) ∧ wc.H D = some (.lst accv) ∧ RelAs K wc acc accv ∧
      okR K ad G Q (fun c d H' => W c d σ H') w1 ((ocD g (fun a τ => T.asg t a τ) inn (wipeT τ vs) acc (xs.drop (i + 1)) wc.S).bind fun ys S2 => mkL fl ys S2), ?_, ?_⟩
    · rintro H' ⟨wd, acc', accv', e1, e2, e3, e4, e5, e6, e8⟩
      exact ⟨xs.length - (i + 1), by omega, wd, acc', accv', e1, e2, e3, e4, e5, e6, rfl, hlt, e8⟩
    · intro x H' hy
      obtain ⟨w2, e2, eS2, l2, s2, r2⟩ := yl x H' hy
      cases ea : T.asg t xs[i] (wipeT τ vs) with
      | none => rw [ea] at hr; exact hr.elim
      | some τ1 =>
        rw [ea] at hr
        have hr : okR K ad G Q (fun c d H' => W c d σ H') w1 (R.bind (match inn τ1 acc wc.S with
          | .ok acc' S2 => ocD g (fun a τ => T.asg t a τ) inn (wipeT τ vs) acc' (xs.drop (i + 1)) S2
          | _ => .no) fun ys S2 => mkL fl ys S2) := hr
        refine ⟨w2, wipeT τ vs, xs[i], τ1, e2, s2, rtc.mono l2.mo, r2, ea, fun w3 σ3 eS3 l3 s3 rt3 chg => ⟨?_, ?_⟩⟩
        · rw [chg.wipe hsl, wipe_wipe]
        · dsimp only [tYes]
          rw [if_pos rfl]
          refine ⟨w3, τ1, rfl, s3, rt3, ?_⟩
          show okI K ad G _ _ w3 (iD G cal k2 src2 τ1 w3.S)
          rw [eS3, eS2]
          cases ei : inn τ1 acc wc.S with
          | no => rw [ei] at hr; exact hr.elim
          | ex c fs S1 => rw [ei] at hr; exact hr.elim
          | ok accF SF =>
            rw [ei] at hr
            have hr : okR K ad G Q (fun c d H' => W c d σ H') w1 (R.bind (ocD g (fun a τ => T.asg t a τ) inn (wipeT τ vs) accF (xs.drop (i + 1)) SF) fun ys S2 => mkL fl ys S2) := hr
            rw [← hin] at ei
            unfold inD at ei
            cases ej : iD G cal k2 src2 τ1 wc.S with
            | no => rw [ej] at ei; cases ei
            | ex c fs S1 => rw [ej] at ei; cases ei
            | ok yg S1 =>
              rw [ej] at ei
              obtain ⟨ys, g2⟩ := yg
              have ei : (if acc.length + ys.length ≤ sizeLine then lcD g2 (fun a τ => T.asg t2 a τ) (fun _ S => .ok true S) (fun τ S => den G cal elt τ S) (wipeT τ1 vs1) acc ys S1 else .no) = .ok accF SF := ei
              split at ei
              case isFalse => cases ei
              rename_i hz2
              intro w4 J1 eS4 l4 s4 itm2
              have l24 : Le wc w4 := l2.trans (l3.trans l4)
              refine ⟨fun j n H => ∃ wd acc' accv', wd.H = H ∧ RelS K ad.cls wd ∧ Blt w1 wd D ∧ Mo w4 wd ∧ wd.hid = w4.hid ∧ wd.H D = some (.lst accv') ∧ RelAs K wd acc' accv' ∧ acc'.length + (ys.length - j) ≤ sizeLine ∧ n = ys.length - j ∧ j ≤ ys.length ∧
                lcD g2 (fun a τ => T.asg t2 a τ) (fun _ S => .ok true S) (fun τ S => den G cal elt τ S) (wipeT τ1 vs1) acc' (ys.drop j) wd.S = .ok accF SF,
                ⟨ys.length, w4, acc, accv, rfl, s4, b.le l24, Mo.refl _, rfl, l24.hidk D (by rw [b.hid]; exact List.mem_cons_self) _ hDc, ra.mono l24.mo, by omega, by simp, Nat.zero_le _, by rw [eS4]; exact ei⟩, ?_⟩
              rintro j n H5 ⟨wd, acc', accv', rfl, sd, bd, md, hdd, hDd, rad, hzd, rfl, hj, hl⟩
              by_cases hlj : j < ys.length
              · right
                have hdrop2 : ys.drop j = ys[j] :: ys.drop (j + 1) := List.drop_eq_getElem_cons hlj
                rw [hdrop2] at hl
                have gk2 : g2.ok wd.S := by
                  by_cases gk2 : g2.ok wd.S
                  · exact gk2
                  · simp only [lcD, if_neg gk2] at hl
                    cases hl
                simp only [lcD, if_pos gk2] at hl
                obtain ⟨go2, yl2⟩ := (itm2 wd md sd gk2 j).2 ys[j] (List.getElem?_eq_getElem hlj)
                refine ⟨go2, fun H' => ∃ wd acc' accv', wd.H = H' ∧ RelS K ad.cls wd ∧ Blt w1 wd D ∧ Mo w4 wd ∧ wd.hid = w4.hid ∧ wd.H D = some (.lst accv') ∧ RelAs K wd acc' accv' ∧ acc'.length + (ys.length - (j + 1)) ≤ sizeLine ∧
                  lcD g2 (fun a τ => T.asg t2 a τ) (fun _ S => .ok true S) (fun τ S => den G cal elt τ S) (wipeT τ1 vs1) acc' (ys.drop (j + 1)) wd.S = .ok accF SF, ?_, ?_⟩
                · rintro H' ⟨we, a1, a2, e1, e2, e3, e4, e5, e6, e7, e8, e9⟩
                  exact ⟨ys.length - (j + 1), by omega, we, a1, a2, e1, e2, e3, e4, e5, e6, e7, e8, rfl, hlj, e9⟩
                · intro x H' hy
                  obtain ⟨w6, e6, eS6, l6, s6, r6⟩ := yl2 x H' hy
                  cases eb : T.asg t2 ys[j] (wipeT τ1 vs1) with
                  | none => rw [eb] at hl; cases hl
                  | some τ2 =>
                    rw [eb] at hl
                    have hl : (match den G cal elt τ2 wd.S with
                      | .ok y S2 => lcD g2 (fun a τ => T.asg t2 a τ) (fun _ S => .ok true S) (fun τ S => den G cal elt τ S) (wipeT τ1 vs1) (acc' ++ [y]) (ys.drop (j + 1)) S2
                      | _ => .no) = .ok accF SF := hl
                    have rt2 : RelT K w6 (wipeT τ1 vs1) (L2.wipe σ3 vs1) := (((rt3.mono l4.mo).mono md).mono l6.mo).wipe vs1
                    refine ⟨w6, wipeT τ1 vs1, ys[j], τ2, e6, s6, rt2, r6, eb, fun w7 σ4 eS7 l7 s7 rt7 chg2 => ⟨?_, ?_⟩⟩
                    · rw [chg2.wipe hs2, wipe_wipe]
                    · dsimp only [tYes]
                      rw [if_pos rfl]
                      refine ⟨w7, τ2, rfl, s7, rt7, ?_⟩
                      show okR K ad G _ _ w7 (den G cal elt τ2 w7.S)
                      rw [eS7, eS6]
                      cases ed : den G cal elt τ2 wd.S with
                      | no => rw [ed] at hl; cases hl
                      | ex c fs S1 => rw [ed] at hl; cases hl
                      | ok y S2 =>
                        rw [ed] at hl
                        intro w8 v eS8 l8 s8 r8
                        have l68 : Le wd w8 := l6.trans (l7.trans l8)
                        have b8 := bd.le l68
                        have hh : D ∈ w8.hid := by rw [b8.hid]; exact List.mem_cons_self
                        have hD8 : w8.H D = some (.lst accv') := l68.hidk D (by rw [bd.hid]; exact List.mem_cons_self) _ hDd
                        have ra8 := rad.mono l68.mo
                        have m8 : Mo w8 (w8.poke D (.lst (accv' ++ [v]))) := Mo.poke hh
                        refine ⟨accv', hD8, by have := rad.length; omega, w8.poke D (.lst (accv' ++ [v])), acc' ++ [y], accv' ++ [v], rfl, s8.poke hh, b8.poke hD0, (md.trans l68.mo).trans m8, by show w8.hid = _; rw [l68.hid, hdd], upd_same, (ra8.append (RelAs.cons r8 RelAs.nil)).mono m8, by simp; omega, ?_⟩
                        show lcD _ _ _ _ _ _ _ w8.S = _
                        rw [eS8]; exact hl
              · left
                have e : j = ys.length := by omega
                subst e
                rw [List.drop_length] at hl
                have gk2 : g2.ok wd.S := by
                  by_cases gk2 : g2.ok wd.S
                  · exact gk2
                  · simp only [lcD, if_neg gk2] at hl
                    cases hl
                simp only [lcD, if_pos gk2] at hl
                cases hl
                refine ⟨(itm2 wd md sd gk2 ys.length).1 rfl, wd, _, accv', rfl, sd, bd, (rtc.mono l24.mo).mono md, hDd, rad, hr⟩
  · left
    have e : i = xs.length := by omega
    subst e
    rw [List.drop_length] at hr
    have gk : g.ok wc.S := by
      by_cases gk : g.ok wc.S
      · exact gk
      · simp only [ocD, if_neg gk] at hr
        exact hr.elim
    simp only [ocD, if_pos gk, R.bind_ok] at hr
    refine ⟨(itm wc b.mo sc gk xs.length).1 rfl, ?_⟩
    cases fl with
    | true =>
      obtain ⟨h1, h2, h3⟩ := b.adopt (o := .lst acc) nh sc ⟨_, hDc⟩ (fun w' e m => ⟨accv, by rw [e]; exact hDc, ra.mono m⟩)
      exact hr ⟨wc.ms ++ [D], wc.S ++ [.lst acc], wc.H, w1.hid⟩ _ rfl h1 h2 h3
    | false =>
      obtain ⟨h1, h2, h3⟩ := b.value nh sc hDc ra
      exact hr (wc.show_ w1.hid) _ rfl h1 h2 h3
end
end Lt
/-! a set of whole numbers that is made, then sorted -/
namespace Lt
open PySem PySem.Spec PyProof.Rows L2
theorem addI_ok {X : Cx} {pins : List (Addr × Obj)} {σ : L2.St} {H : Hp} {s : Shared} {E : Value → Shared → Prop} {D : Addr} {S : Int → Bool} {n : Nat} {y : Int} {tk : Tok} {Q : Value → Shared → Prop} (I : Inv X pins σ H s) (hD : H D = some (SetO X.w D S n)) (room : n + 1 < scanBound)
    (h : ∀ s', Inv X pins σ (upd H D (SetO X.w D (fun j => S j || decide (j = y)) (if S y = true then n else n + 1))) s' → Q .none s') : wpAny (model X.prog X.w) X.A (call (.builtin "set.add") [.ref D, .int y tk]) Q E s := by
  have R := setO_get I hD
  refine setR_add R room fun h' sb new => ?_
  have he : ∃ u, h'.get? D = some u := by
    have ⟨o, _, _, _, ho, _⟩ := new
    exact ⟨o, ho⟩
  exact h _ (I.write (e := D) (t' := s.toks + 1) (by rw [hD]; trivial) (.inl rfl) (fun b u hb hu => (sb.2 b hb).trans hu) he (setO_new new))

section
variable {X : Cx}
/-- {elt for target in iter if ..}, elt a text: DD the new set -/
def tScI (w : World) (walkI : TI) (g : TG) (ifsT : TT) (eltE : TE) (vs : List Nat) : TE := fun σ H Q => walkI σ H fun J Hq => ∀ DD, Hq DD = none → ∃ WW : Nat → Nat → Hp → Prop, (∃ m, WW 0 m (upd Hq DD (SetO w DD (fun _ => false) 0))) ∧
  ∀ i m H, WW i m H → (J.stop i H ∧ Q (.ref DD) H) ∨ (J.go i H ∧ ∃ Nxt : Hp → Prop, (∀ H', Nxt H' → ∃ m', m' < m ∧ WW (i + 1) m' H') ∧
    ∀ x H', J.yld i H x H' → g x (L2.wipe σ vs) H' fun σ2 Hq => L2.wipe σ2 vs = L2.wipe σ vs ∧ ifsT σ2 Hq fun b Hr => if b = true then eltE σ2 Hr fun y H4 =>
      ∃ (c : Int) (S : Int → Bool) (n : Nat), y = .int c ∧ H4 DD = some (SetO w DD S n) ∧ n + 1 < scanBound ∧ Nxt (upd H4 DD (SetO w DD (fun j => S j || decide (j = c)) (if S c = true then n else n + 1))) else Nxt Hr)
open PpSet in
theorem scI_core {pins : List (Addr × Obj)} {s : Shared} {σ : L2.St} {H : Hp} {Q : VK} {elt tg iter : Expr} {ifs : List Expr} {scope : Scope} {own : List (PySem.Str × Nat)} {pos pos' : Pos} {walkI : TI} {g : TG} {ifsT : TT} {eltE : TE} {usage : Option (Value → Sem Unit)} {Qfin : Value → Shared → Prop}
    (calmX : X.calm = true) (ndN : X.N.Nodup) (J0 : Inv X pins σ H s) (pIter : PI X tg iter walkI) (blk : BlkOk X.N X.env.scope scope own)
    (gTgt : ∀ (s : Shared) (H : Hp) (C : Addr) (cl : List (PySem.Str × Addr)) (fps : List Addr), PG (X.blk s H scope (compEnvC scope cl C X.env) fps) tg g) (gIfs : ∀ (s : Shared) (H : Hp) (C : Addr) (cl : List (PySem.Str × Addr)) (fps : List Addr), PTs (X.blk s H scope (compEnvC scope cl C X.env) fps) ifs ifsT)
    (gElt : ∀ (s : Shared) (H : Hp) (C : Addr) (cl : List (PySem.Str × Addr)) (fps : List Addr), PE (X.blk s H scope (compEnvC scope cl C X.env) fps) elt eltE) (plainS : ∀ x, foldedSetIterable iter X.env x = pure x)
    (h : tScI X.w walkI g ifsT eltE (own.map (·.2)) σ H Q)
    (andThen : ∀ DD C s' m H', Inv X pins σ H' s' → Q (.ref DD) H' → s'.heap.Ns C m → FpOk X pins H' C → compPost (model X.prog X.w) X.A X.xe usage Qfin (.ref DD) C (.ok .next) s') :
    wpAny (model X.prog X.w) X.A (comprehension (.SetComp elt [⟨tg, iter, ifs, 0⟩] scope pos) scope X.env pos' (newSet (.type "set")) false (eval iter X.env) usage) Qfin X.xe s := by
  have freeOk : ∀ y ∈ scope.names, y.2 = .free → ∃ c, X.env.cells.lookup y.1 = some c := fun y hy e => by
    rcases blk.free y hy e with k | k
    · exact J0.ok.has _ (.inl k)
    · exact J0.ok.has _ (.inr k)
  refine wpAny_comprehension_free (use := usage) rfl plainS (closure_ok freeOk) blk.kind (fun y hy e => by rw [blk.uniq y hy, e])
    (thn (pIter.run pins s σ H _ J0 h) fun xval s1 hx => thn hx fun itval sh2 h2 => ?_)
  obtain ⟨itr, fps, tnd, J, Hq, e, J2, T, at2, g2, q⟩ := h2
  subst e
  refine newSet_ok (newEnv_comp ?_)
  generalize eqD : sh2.heap.objs.size = DD
  have noneD : Hq DD = none := J2.hok.fresh (Nat.le_of_eq eqD)
  obtain ⟨WW, ⟨meas, w0⟩, turnW⟩ := q DD noneD
  -- the new set
  generalize eSh3 : ({ sh2 with heap := sh2.heap.push { cls := .type "set", dict := none, data := .set #[] 0 (.fresh 0 0 (!X.w.params.followText "set-order")) } } : Shared) = sh3
  have J3 : Inv X pins σ (upd Hq DD (SetO X.w DD (fun _ => false) 0)) sh3 := by
    rw [← eSh3]
    refine J2.laid (t' := sh2.toks) (fun b o e => Heap.get?_push_of_some _ e) (Nat.le_of_eq eqD) ?_
    rw [← eqD]
    exact setO_new (setR_fresh X.w)
  have heap3 : sh3.heap = sh2.heap.push { cls := .type "set", dict := none, data := .set #[] 0 (.fresh 0 0 (!X.w.params.followText "set-order")) } := by rw [← eSh3]
  have szs : ∀ b ∈ fps, b < sh2.heap.objs.size := fun b hb => by
    obtain ⟨o, e, _⟩ := T.obj _ _ at2 b hb
    exact Heap.lt_size e
  have g3 : ∀ b ∈ fps, FpOk X pins (upd Hq DD (SetO X.w DD (fun _ => false) 0)) b ∧ b < sh3.heap.objs.size := fun b hb => by
    have hlt := szs b hb
    refine ⟨⟨?_, (g2 b hb).2⟩, by rw [heap3, Heap.size_push]; exact Nat.lt_succ_of_lt hlt⟩
    rw [upd_ne (by rw [← eqD]; exact Nat.ne_of_lt hlt)]
    exact (g2 b hb).1
  have at3 : tnd 0 sh3.heap := T.keep _ _ _ at2 fun b _ o e => by rw [heap3]; exact Heap.get?_push_of_some _ e
  have J4 := block_start J3 blk ndN g3
  have gp := gTgt sh3 (upd Hq DD (SetO X.w DD (fun _ => false) 0)) sh3.heap.objs.size (cellsFrom (sh3.heap.objs.size + 1) scope.names (cloFrom X.env.cells scope.names [])) fps
  have tp := gIfs sh3 (upd Hq DD (SetO X.w DD (fun _ => false) 0)) sh3.heap.objs.size (cellsFrom (sh3.heap.objs.size + 1) scope.names (cloFrom X.env.cells scope.names [])) fps
  have ep := gElt sh3 (upd Hq DD (SetO X.w DD (fun _ => false) 0)) sh3.heap.objs.size (cellsFrom (sh3.heap.objs.size + 1) scope.names (cloFrom X.env.cells scope.names [])) fps
  show codeAny _ _ (.compStart (.SetComp elt [⟨tg, iter, ifs, 0⟩] scope pos) 0 (.ref itr) (.ref DD) (compEnvC scope (cellsFrom (sh3.heap.objs.size + 1) scope.names (cloFrom X.env.cells scope.names [])) sh3.heap.objs.size X.env)) (compPost (model X.prog X.w) X.A X.xe usage Qfin (.ref DD) sh3.heap.objs.size) { sh3 with heap := pushCells (sh3.heap.push { cls := .type "dict", data := .dict #[] }) scope.names }
  have noFp : ∀ b ∈ fps, (upd Hq DD (SetO X.w DD (fun _ => false) 0)) b = none := fun b hb => (g3 b hb).1.1
  generalize eCe : compEnvC scope (cellsFrom (sh3.heap.objs.size + 1) scope.names (cloFrom X.env.cells scope.names [])) sh3.heap.objs.size X.env = cenv at J4 gp tp ep ⊢
  have cLoc : cenv.locals = sh3.heap.objs.size := by subst eCe; rfl
  generalize eHr : upd Hq DD (SetO X.w DD (fun _ => false) 0) = Hr at J3 J4 gp tp ep w0 noFp g3
  generalize eSh4 : ({ sh3 with heap := pushCells (sh3.heap.push { cls := .type "dict", data := .dict #[] }) scope.names } : Shared) = sh4 at J4 ⊢
  have at4 : tnd 0 sh4.heap := T.keep _ _ _ at3 fun b _ o e => by rw [← eSh4]; exact pushCells_keeps _ _ _ _ (Heap.get?_push_of_some _ e)
  have stays : ∀ {σ' : L2.St} {H' : Hp} {s' : Shared}, Inv (X.blk sh3 Hr scope cenv fps) [] σ' H' s' → (∀ b ∈ fps, H' b = none) → ∀ b ∈ fps, FpOk (X.blk sh3 Hr scope cenv fps) [] H' b := fun {σ' H' s'} Jn hn b hb =>
    ⟨hn b hb, (Jn.ok.exf b hb).1, Jn.ok.exfs b hb, .inl hb, fun x c e => (Jn.ok.exf b hb).2 x c e, fun p hp => absurd (show p ∈ ([] : List (Addr × Obj)) ++ [] from hp) (by simp)⟩
  have theLoop : codeAny (model X.prog X.w) X.A (.compLoop (.SetComp elt [⟨tg, iter, ifs, 0⟩] scope pos) 0 (.ref itr) (.ref DD) cenv) (compPost (model X.prog X.w) X.A X.xe usage Qfin (.ref DD) sh3.heap.objs.size) sh4 := by
    refine compLoopS_any (fun n s' => ∃ i H', Inv (X.blk sh3 Hr scope cenv fps) [] (L2.wipe σ (own.map (·.2))) H' s' ∧ tnd i s'.heap ∧ (∀ b ∈ fps, H' b = none) ∧ WW i n H') ?_ meas ⟨0, Hr, J4, at4, noFp, w0⟩
    rintro n sh5 ⟨i, Hs, J5, at5, n5, w5⟩
    rcases turnW i n Hs w5 with ⟨halts, wantQ⟩ | ⟨goes, Nxt, useN, stepW⟩
    · have td := T.done (X.blk sh3 Hr scope cenv fps) rfl rfl rfl calmX i [] sh5 _ Hs (fun _ _ => False) J5 (stays J5 n5) at5 halts
      refine thnF td fun r sh6 ⟨hr, J6⟩ => ?_
      subst hr
      have J7 : Inv X pins σ Hs sh6 := J3.call' (ch := fps) J6.os J6.base J6.hok J6.bare fun b hb => ⟨(g3 b hb).1.2.2.2.1, (g3 b hb).1.2.1, (g3 b hb).1.2.2.2.2.1, (g3 b hb).1.2.2.2.2.2⟩
      have nC : Hs sh3.heap.objs.size = none := by
        have z : Hs cenv.locals = none := J6.free
        rw [cLoc] at z
        exact z
      obtain ⟨m, hn, _⟩ := J6.loc
      have hn : sh6.heap.Ns cenv.locals m := hn
      rw [cLoc] at hn
      exact andThen DD sh3.heap.objs.size sh6 m Hs J7 wantQ hn (J3.fpOk (Nat.le_refl _) nC)
    · have ti := T.item (X.blk sh3 Hr scope cenv fps) rfl rfl rfl calmX i [] sh5 _ Hs (fun _ _ => False) J5 (stays J5 n5) at5 goes
      refine thnF ti fun r sh6 ⟨u, hr, h6⟩ => ?_
      subst hr
      refine thnF h6 fun _ sh7 ⟨x, H7, J7, r7, y7, at7, n7⟩ => ?_
      have J7' := J7.pinned (stays J7 n7) (T.obj _ _ at7)
      refine thnF (gp.run _ sh7 _ H7 x u _ J7' r7 (stepW x H7 y7)) fun _ sh8 ⟨σ8, H8, J8, hw8, q8⟩ => ?_
      refine thnF (tp.run _ sh8 σ8 H8 _ J8 q8) fun b sh9 ⟨H9, J9, q9⟩ => ?_
      -- the turn's end
      have turnEnd : ∀ {s' : Shared} {H' : Hp}, Inv (X.blk sh3 Hr scope cenv fps) ([] ++ pinsAt fps sh7.heap) σ8 H' s' → Nxt H' → ∃ m, m < n ∧ ∃ i H', Inv (X.blk sh3 Hr scope cenv fps) [] (L2.wipe σ (own.map (·.2))) H' s' ∧ tnd i s'.heap ∧ (∀ b ∈ fps, H' b = none) ∧ WW i m H' := fun {s' H'} Jn nx => by
        obtain ⟨m', hm, w'⟩ := useN H' nx
        have pinB : ∀ b ∈ fps, ∀ o, sh7.heap.get? b = some o → s'.heap.get? b = some o ∧ H' b = none := fun b hb o e =>
          let z := Jn.pin (b, o) (List.mem_append_right _ (List.mem_append_right _ (mem_pinsAt hb e)))
          ⟨z.1, z.2.1⟩
        have hl : (L2.wipe σ (own.map (·.2))).length = σ8.length := by rw [← hw8, wipe_length]
        refine ⟨m', hm, i + 1, H', (Jn.unpinned (pins := [])).weak hl (fun j v e => ?_), T.keep _ _ _ at7 fun b hb o e => (pinB b hb o e).1, fun b hb => ?_, w'⟩
        · rw [← hw8] at e
          exact (wipe_some e).1
        · obtain ⟨o, e, _⟩ := T.obj _ _ at7 b hb
          exact (pinB b hb o e).2
      cases b with
      | false =>
        simp only [Bool.false_eq_true, if_false] at q9 ⊢
        exact turnEnd J9 q9
      | true =>
        simp only [if_true] at q9 ⊢
        refine thnF (ep.run _ sh9 σ8 H9 _ J9 q9) fun z sh10 ⟨yv, H10, J10, r10, cb, S0, n0, ey, hD10, hz10, nx⟩ => ?_
        subst ey
        obtain ⟨tk, rfl⟩ := r10
        exact addI_ok (X := X.blk sh3 Hr scope cenv fps) J10 hD10 hz10 fun sh11 J11 => turnEnd J11 nx
  exact codeAny_compStart_set theLoop (T.self X.A 0 _ _ _ at4 theLoop)
open PpSet in
/-- .. as a value -/
theorem pe_scI {elt tg iter : Expr} {ifs : List Expr} {scope : Scope} {own : List (PySem.Str × Nat)} {pos : Pos} {walkI : TI} {g : TG} {ifsT : TT} {eltE : TE} (calmX : X.calm = true) (ndN : X.N.Nodup) (pIter : PI X tg iter walkI) (blk : BlkOk X.N X.env.scope scope own)
    (gTgt : ∀ (s : Shared) (H : Hp) (C : Addr) (cl : List (PySem.Str × Addr)) (fps : List Addr), PG (X.blk s H scope (compEnvC scope cl C X.env) fps) tg g) (gIfs : ∀ (s : Shared) (H : Hp) (C : Addr) (cl : List (PySem.Str × Addr)) (fps : List Addr), PTs (X.blk s H scope (compEnvC scope cl C X.env) fps) ifs ifsT)
    (gElt : ∀ (s : Shared) (H : Hp) (C : Addr) (cl : List (PySem.Str × Addr)) (fps : List Addr), PE (X.blk s H scope (compEnvC scope cl C X.env) fps) elt eltE) (plainS : ∀ x, foldedSetIterable iter X.env x = pure x := by intro _; rfl) :
    PE X (.SetComp elt [⟨tg, iter, ifs, 0⟩] scope pos) (tScI X.w walkI g ifsT eltE (own.map (·.2))) := by
  refine ⟨fun pins s σ H Q J0 h => ?_⟩
  rw [eval_SetComp]
  refine scI_core calmX ndN J0 pIter blk gTgt gIfs gElt plainS h fun DD C s' m H' Jn q hn f => ⟨m, hn, fun h'' sb => ?_⟩
  obtain ⟨f0, f1, g2, g3, f4, f5⟩ := f
  exact ⟨.ref DD, H', Jn.turned (t' := s'.toks) (fun b o hb e => (sb.2 b hb).trans e) f0 f1 g3 f4 f5, rfl, q⟩
/-- sorted of it -/
theorem pe_srtI {o : Expr} {to : TE} {p pos : Pos} (calmX : X.calm = true) (ho : PE X o to) (hg : Gl X "sorted") (hm : X.mg "sorted" = none) (hn : noStar o = true) : PE X (.Call (.Name "sorted" p) [o] [] pos)
    (fun σ H Q => to σ H fun x H1 => rSortedSet X.w [x] H1 Q) := by
  constructor
  intro pins s σ H Q I h
  refine wpAny_Call_Name_kw (ld_blt I hg hm (u := .builtin "sorted") (by decide +kernel) ?_ (by decide) (by decide))
  refine PyProof.Rows.callWith_builtin1 ?_ (starEach_one hn _ _) rfl
  rw [starEach_one hn]
  refine Calls.spliced_cons (thn (ho.run pins s σ H _ I h) fun u s1 ⟨x, H1, I1, rx, q⟩ => Calls.spliced_nil ?_)
  exact cr_sortedSet calmX pins s1 σ H1 [x] [u] Q I1 (.cons rx .nil) q
end
section
variable {G : Gt} {cal : Cal}
theorem den_srtSet (fl : Bool) (elt : E) (t : T) (k : IK) (src ifs : List E) (own : List (Str × Nat)) (τ : Tau) (S : List O) :
    den G cal (.srtSet fl elt t k src ifs own) τ S = (iD G cal k src τ S).bind fun xg S1 => if xg.1.length ≤ 3000 then (siD xg.2 (fun a τ => T.asg t a τ) (condD G cal ifs) (fun τ S => den G cal elt τ S) (wipeT τ (own.map (·.2))) [] xg.1 S1).bind fun ys S2 => if ys.length < 64 then mkL fl ((srtI ys).map A.int) S2 else .no else .no := by
  show ((dens G cal src τ S).bind fun vs S1 => _) = _
  unfold iD
  cases dens G cal src τ S with
  | ok vs S1 =>
    simp only [R.bind_ok]
    cases srcO k vs S1 with
    | none => rfl
    | some xg => rfl
  | ex c fs S1 => rfl
  | no => rfl
def SetRI (wo : World) (wc : Wd) (D : Addr) (acc : List Int) : Prop := acc.Nodup ∧ ∃ Sf, wc.H D = some (SetO wo D Sf acc.length) ∧ ∀ y, Sf y = decide (y ∈ acc)
theorem ints_relS {K : PySem.W.Frag} {w : Wd} : ∀ ns : List Int, RelAs K w (ns.map A.int) (ns.map V.int)
  | [] => RelAs.nil
  | n :: ns => RelAs.cons (by simp only [RelA]) (ints_relS ns)
theorem s_srtSet {wo : World} {K : PySem.W.Frag} {ad : Ad} {W W0 : WX} {fl : Bool} {elt : E} {t : T} {k : IK} {src ifs : List E} {own : List (Str × Nat)} (hsl : ∀ i ∈ t.slots, i ∈ own.map (·.2)) {σ : L2.St} {H : Hp} {Q : VK} (h : tE K ad G W (fun τ S => den G cal (.srtSet fl elt t k src ifs own) τ S) σ H Q) :
    tScI wo (tI K ad G W (fun τ S => iD G cal k src τ S)) (gT K ad t) (tT K ad G W0 (fun τ S => condD G cal ifs τ S)) (tE K ad G W0 (fun τ S => den G cal elt τ S)) (own.map (·.2)) σ H
      (fun x H1 => rSortedSet wo [x] H1 Q) := by
  obtain ⟨w, τ, e, s, rt, h⟩ := h
  have h : okR K ad G Q (fun c d H' => W c d σ H') w (den G cal (.srtSet fl elt t k src ifs own) τ w.S) := h
  rw [den_srtSet] at h
  refine ⟨w, τ, e, s, rt, okI.then (P := fun w x => okR K ad G Q (fun c d H' => W c d σ H') w x) h (fun _ _ l h => h.at l) (fun _ _ _ h => h) id ?_⟩
  rintro w1 ⟨xs, g⟩ J le s1 itm h
  intro D hD0
  have h : okR K ad G Q (fun c d H' => W c d σ H') w1 (if xs.length ≤ 3000 then (siD g (fun a τ => T.asg t a τ) (condD G cal ifs) (fun τ S => den G cal elt τ S) (wipeT τ (own.map (·.2))) [] xs w1.S).bind fun ys S2 => if ys.length < 64 then mkL fl ((srtI ys).map A.int) S2 else .no else .no) := h
  split at h
  case isFalse => exact h.elim
  rename_i hz
  have hbig : (3001 : Nat) < scanBound := by decide
  have nh : D ∉ w1.hid := fun z => by
    obtain ⟨_, o, q⟩ := s1.hid D z
    rw [hD0] at q; cases q
  have rt1 : RelT K w1 τ σ := rt.mono le.mo
  generalize hvs : own.map (·.2) = vs at h hsl ⊢
  refine ⟨fun i n H => ∃ wc acc, wc.H = H ∧ RelS K ad.cls wc ∧ Blt w1 wc D ∧ RelT K wc (wipeT τ vs) (L2.wipe σ vs) ∧ SetRI wo wc D acc ∧ acc.length ≤ i ∧ n = xs.length - i ∧ i ≤ xs.length ∧
    okR K ad G Q (fun c d H' => W c d σ H') w1 ((siD g (fun a τ => T.asg t a τ) (condD G cal ifs) (fun τ S => den G cal elt τ S) (wipeT τ vs) acc (xs.drop i) wc.S).bind fun ys S2 => if ys.length < 64 then mkL fl ((srtI ys).map A.int) S2 else .no), ⟨xs.length, w1.hide D (SetO wo D (fun _ => false) 0), [], rfl, s1.hide hD0, Blt.start hD0, (rt1.mono (Mo.hide hD0)).wipe vs, ⟨.nil, _, upd_same, fun y => by simp⟩, Nat.zero_le _, by simp, Nat.zero_le _, h⟩, ?_⟩
  rintro i n H2 ⟨wc, acc, rfl, sc, b, rtc, ⟨hnd, Sf, hDc, hSf⟩, hacc, rfl, hi, hr⟩
  by_cases hlt : i < xs.length
  · right
    have hdrop : xs.drop i = xs[i] :: xs.drop (i + 1) := List.drop_eq_getElem_cons hlt
    rw [hdrop] at hr
    have gk : g.ok wc.S := by
      by_cases gk : g.ok wc.S
      · exact gk
      · simp only [siD, if_neg gk] at hr
        exact hr.elim
    simp only [siD, if_pos gk] at hr
    obtain ⟨go, yl⟩ := (itm wc b.mo sc gk i).2 xs[i] (List.getElem?_eq_getElem hlt)
    refine ⟨go, fun H' => ∃ wc acc, wc.H = H' ∧ RelS K ad.cls wc ∧ Blt w1 wc D ∧ RelT K wc (wipeT τ vs) (L2.wipe σ vs) ∧ SetRI wo wc D acc ∧ acc.length ≤ i + 1 ∧
      okR K ad G Q (fun c d H' => W c d σ H') w1 ((siD g (fun a τ => T.asg t a τ) (condD G cal ifs) (fun τ S => den G cal elt τ S) (wipeT τ vs) acc (xs.drop (i + 1)) wc.S).bind fun ys S2 => if ys.length < 64 then mkL fl ((srtI ys).map A.int) S2 else .no), ?_, ?_⟩
    · rintro H' ⟨wd, acc', e1, e2, e3, e4, e6, e7, e8⟩
      exact ⟨xs.length - (i + 1), by omega, wd, acc', e1, e2, e3, e4, e6, e7, rfl, hlt, e8⟩
    · intro x H' hy
      obtain ⟨w2, e2, eS2, l2, s2, r2⟩ := yl x H' hy
      cases ea : T.asg t xs[i] (wipeT τ vs) with
      | none => rw [ea] at hr; exact hr.elim
      | some τ1 =>
        rw [ea] at hr
        have hr : okR K ad G Q (fun c d H' => W c d σ H') w1 (R.bind (match condD G cal ifs τ1 wc.S with
          | .ok true S1 => match den G cal elt τ1 S1 with
            | .ok (.int y) S2 => siD g (fun a τ => T.asg t a τ) (condD G cal ifs) (fun τ S => den G cal elt τ S) (wipeT τ vs) (if y ∈ acc then acc else acc ++ [y]) (xs.drop (i + 1)) S2
            | _ => .no
          | .ok false S1 => siD g (fun a τ => T.asg t a τ) (condD G cal ifs) (fun τ S => den G cal elt τ S) (wipeT τ vs) acc (xs.drop (i + 1)) S1
          | _ => .no) fun ys S2 => if ys.length < 64 then mkL fl ((srtI ys).map A.int) S2 else .no) := hr
        refine ⟨w2, wipeT τ vs, xs[i], τ1, e2, s2, rtc.mono l2.mo, r2, ea, fun w3 σ3 eS3 l3 s3 rt3 chg => ⟨?_, ?_⟩⟩
        · rw [chg.wipe hsl, wipe_wipe]
        · refine ⟨w3, τ1, rfl, s3, rt3, ?_⟩
          show okB K ad G _ _ w3 (condD G cal ifs τ1 w3.S)
          rw [eS3, eS2]
          cases ec : condD G cal ifs τ1 wc.S with
          | no => rw [ec] at hr; exact hr.elim
          | ex c fs S1 => rw [ec] at hr; exact hr.elim
          | ok kk S1 =>
            rw [ec] at hr
            intro w4 eS4 l4 s4
            have l24 : Le wc w4 := l2.trans (l3.trans l4)
            cases kk with
            | false =>
              rw [if_neg (by decide)]
              refine ⟨w4, acc, rfl, s4, b.le l24, rtc.mono l24.mo, ⟨hnd, Sf, ?_, hSf⟩, by omega, by rw [eS4]; exact hr⟩
              exact l24.hidk D (by rw [b.hid]; exact List.mem_cons_self) _ hDc
            | true =>
              rw [if_pos rfl]
              refine ⟨w4, τ1, rfl, s4, rt3.mono l4.mo, ?_⟩
              show okR K ad G _ _ w4 (den G cal elt τ1 w4.S)
              rw [eS4]
              have hr : okR K ad G Q (fun c d H' => W c d σ H') w1 (R.bind (match den G cal elt τ1 S1 with
                | .ok (.int y) S2 => siD g (fun a τ => T.asg t a τ) (condD G cal ifs) (fun τ S => den G cal elt τ S) (wipeT τ vs) (if y ∈ acc then acc else acc ++ [y]) (xs.drop (i + 1)) S2
                | _ => .no) fun ys S2 => if ys.length < 64 then mkL fl ((srtI ys).map A.int) S2 else .no) := hr
              cases ed : den G cal elt τ1 S1 with
              | no => rw [ed] at hr; exact hr.elim
              | ex c fs S1 => rw [ed] at hr; exact hr.elim
              | ok y S2 =>
                rw [ed] at hr
                cases y <;> first | exact (hr : False).elim | skip
                rename_i y
                have hr : okR K ad G Q (fun c d H' => W c d σ H') w1 (R.bind (siD g (fun a τ => T.asg t a τ) (condD G cal ifs) (fun τ S => den G cal elt τ S) (wipeT τ vs) (if y ∈ acc then acc else acc ++ [y]) (xs.drop (i + 1)) S2) fun ys S2 => if ys.length < 64 then mkL fl ((srtI ys).map A.int) S2 else .no) := hr
                intro w5 v eS5 l5 s5 r5
                have l25 : Le wc w5 := l24.trans l5
                have b5 := b.le l25
                have hh : D ∈ w5.hid := by rw [b5.hid]; exact List.mem_cons_self
                have hD5 : w5.H D = some (SetO wo D Sf acc.length) := l25.hidk D (by rw [b.hid]; exact List.mem_cons_self) _ hDc
                cases relA_int r5
                have m5 : Mo w5 (w5.poke D (SetO wo D (fun j => Sf j || decide (j = y)) (if Sf (y) = true then acc.length else acc.length + 1))) := Mo.poke hh
                refine ⟨y, Sf, acc.length, rfl, hD5, by omega, w5.poke D _, (if y ∈ acc then acc else acc ++ [y]), rfl, s5.poke hh, b5.poke hD0, (rtc.mono l25.mo).mono m5, ⟨?_, fun j => Sf j || decide (j = y), ?_, fun z => ?_⟩, (by split; exact (by omega); exact (by simp only [List.length_append, List.length_singleton]; omega)), ?_⟩
                · split
                  · exact hnd
                  · rename_i hy'
                    exact List.nodup_append.mpr ⟨hnd, by simp, fun a ha b hb => by
                      rw [List.mem_singleton] at hb
                      subst hb
                      intro e
                      subst e
                      exact hy' ha⟩
                · show (upd w5.H D _) D = _
                  rw [upd_same, hSf]
                  by_cases hy' : y ∈ acc
                  · simp [hy']
                  · simp [hy']
                · show (Sf z || decide (z = y)) = _
                  rw [hSf]
                  by_cases hy' : y ∈ acc
                  · rw [if_pos hy']
                    by_cases hz' : z = y
                    · subst hz'; simp [hy']
                    · simp [hz']
                  · rw [if_neg hy']
                    by_cases hz' : z = y
                    · subst hz'; simp
                    · simp [hz']
                · show okR K ad G Q _ w1 (R.bind (siD _ _ _ _ _ _ _ w5.S) _)
                  rw [eS5]; exact hr
  · left
    have e : i = xs.length := by omega
    subst e
    rw [List.drop_length] at hr
    have gk : g.ok wc.S := by
      by_cases gk : g.ok wc.S
      · exact gk
      · simp only [siD, if_neg gk] at hr
        exact hr.elim
    simp only [siD, if_pos gk, R.bind_ok] at hr
    refine ⟨(itm wc b.mo sc gk xs.length).1 rfl, D, Sf, acc.length, rfl, hDc, ?_⟩
    split at hr
    case isFalse => exact hr.elim
    rename_i h64
    refine ⟨h64, fun ns p hp hm hl hn => ?_⟩
    have en : ns = srtI acc := by
      have nd : ns.Nodup := hp.imp fun {a b} h => by omega
      exact srtI_eq ((List.perm_ext_iff_of_nodup nd hnd).mpr fun k => by rw [hm k, hSf]; simp) (hp.imp fun {a b} h => by omega)
    subst en
    exact okR.mkL (w := wc.show_ w1.hid) (hr.at b.end_) (sc.show_ b.hid) (ints_relS _) p hn
end
end Lt
/-! what is walked, by the text -/
namespace Lt
open PySem L2
theorem callStrict_eq {m : MC} {e : Expr} {args : List Expr} (h : callStrict m e = some args) : ∃ p pos ck cp kp, e = .Call (.Name "zip" p) args [⟨some "strict", .Constant (.bool true) ck cp, kp⟩] pos ∧ glob m.sc "zip" = true := by
  unfold callStrict at h
  split at h
  · rename_i g p args' k ck cp kp pos
    split at h
    · rename_i e
      simp only [Bool.and_eq_true, beq_iff_eq] at e
      cases h
      obtain ⟨⟨rfl, hg⟩, rfl⟩ := e
      exact ⟨_, _, _, _, _, rfl, hg⟩
    · cases h
  · cases h
theorem callOf_eq {m : MC} {f : Str} {e : Expr} {args : List Expr} (h : callOf m f e = some args) : ∃ p pos, e = .Call (.Name f p) args [] pos ∧ glob m.sc f = true := by
  unfold callOf at h
  split at h
  · rename_i g p args' pos
    split at h
    · rename_i hc
      simp only [Bool.and_eq_true, beq_iff_eq] at hc
      cases h
      obtain ⟨rfl, h2⟩ := hc
      exact ⟨p, pos, rfl, h2⟩
    · cases h
  · cases h
theorem viewOf_eq {f : Str} {e : Expr} {args : List Expr} (h : viewOf f e = some args) : ∃ x apos pos, e = .Call (.Attribute x f apos) [] [] pos ∧ args = [x] ∧ plainBase x = true ∧ noStar x = true ∧ (apos.endLine == pos.line) = true := by
  unfold viewOf at h
  split at h
  · rename_i x g apos pos
    split at h
    · rename_i hc
      simp only [Bool.and_eq_true, beq_iff_eq] at hc
      cases h
      obtain ⟨⟨⟨rfl, h2⟩, h3⟩, h4⟩ := hc
      exact ⟨x, apos, pos, rfl, rfl, h2, h3, by simpa using h4⟩
    · cases h
  · cases h
theorem len_two {α : Type} {xs : List α} (h : xs.length = 2) : ∃ a b, xs = [a, b] := by
  rcases xs with _ | ⟨a, _ | ⟨b, _ | ⟨c, r⟩⟩⟩ <;> simp at h
  exact ⟨a, b, rfl⟩
theorem isTup_eq {e : Expr} (h : isTup e = true) : ∃ es k p, e = .Tuple es k p := by
  cases e <;> first | (cases h; done) | exact ⟨_, _, _, rfl⟩
section
variable {K : PySem.W.Frag} {ad : Ad} {G : Gt} {W : WX} {cal : Cal} {σ : L2.St} {H : Hp}
theorem iD_one (k : IK) (e : Lt.E) (τ : Tau) (S : List O) : iD G cal k [e] τ S = (den G cal e τ S).bind fun a S1 => R.of (srcO k [a] S1) S1 := by
  show ((den G cal e τ S).bind _).bind _ = _
  cases den G cal e τ S <;> rfl
theorem tI_one {k : IK} {e : Lt.E} {Q : It → Hp → Prop} {r : V → Hp → (It → Hp → Prop) → Prop} (h : tI K ad G W (fun τ S => iD G cal k [e] τ S) σ H Q)
    (kk : ∀ w τ a v, RelS K ad.cls w → RelT K w τ σ → RelA K w a v → okI K ad G Q (fun c d H' => W c d σ H') w (R.of (srcO k [a] w.S) w.S) → r v w.H Q) : tE K ad G W (fun τ S => den G cal e τ S) σ H fun x H1 => r x H1 Q := by
  obtain ⟨w, τ, e', s, t, h⟩ := h
  have h : okI K ad G Q (fun c d H' => W c d σ H') w (iD G cal k [e] τ w.S) := h
  rw [iD_one] at h
  exact ⟨w, τ, e', s, t, okR.bindI h fun w1 a v l s1 q h1 => kk w1 τ a v s1 (t.mono l.mo) q h1⟩
theorem dens_len : ∀ {es : List Lt.E} {τ : Tau} {S S' : List O} {xs : List A}, dens G cal es τ S = .ok xs S' → xs.length = es.length
  | [], τ, S, S', xs, h => by cases h; rfl
  | e :: es, τ, S, S', xs, h => by
    have h : ((den G cal e τ S).bind fun x S1 => (dens G cal es τ S1).bind fun xs S2 => .ok (x :: xs) S2) = .ok xs S' := h
    cases h1 : den G cal e τ S with
    | ok x S1 =>
      rw [h1, R.bind_ok] at h
      cases h2 : dens G cal es τ S1 with
      | ok ys S2 =>
        rw [h2, R.bind_ok] at h
        cases h
        simp [dens_len h2]
      | ex c fs S => rw [h2] at h; cases h
      | no => rw [h2] at h; cases h
    | ex c fs S => rw [h1] at h; cases h
    | no => rw [h1] at h; cases h
theorem tI_many {k : IK} {es : List Lt.E} {Q : It → Hp → Prop} {r : List V → Hp → (It → Hp → Prop) → Prop} (h : tI K ad G W (fun τ S => iD G cal k es τ S) σ H Q)
    (kk : ∀ w τ a v, RelS K ad.cls w → RelT K w τ σ → RelAs K w a v → a.length = es.length → okI K ad G Q (fun c d H' => W c d σ H') w (R.of (srcO k a w.S) w.S) → r v w.H Q) : tL K ad G W (fun τ S => dens G cal es τ S) σ H fun x H1 => r x H1 Q := by
  obtain ⟨w, τ, e', s, t, h⟩ := h
  have h : okI K ad G Q (fun c d H' => W c d σ H') w ((dens G cal es τ w.S).bind fun vs S1 => R.of (srcO k vs S1) S1) := h
  refine ⟨w, τ, e', s, t, ?_⟩
  show okA K ad G _ _ w (dens G cal es τ w.S)
  cases hd : dens G cal es τ w.S with
  | ok a S1 =>
    rw [hd] at h
    intro w1 v eS l s1 ra
    exact kk w1 τ a v s1 (t.mono l.mo) ra (dens_len hd) (by rw [eS]; exact h.at l)
  | ex c fs S => rw [hd] at h; exact h
  | no => rw [hd] at h; exact h.elim
end
section
variable {X : Cx} {ad : Ad} {G : Gt} {W : WX} {k : Nat} {cal : Cal} {m : MC}
theorem PI.imp {tg e : Expr} {t t' : TI} (h : PI X tg e t) (k : ∀ σ H Q, t' σ H Q → t σ H Q) : PI X tg e t' := ⟨fun pins s σ H Q I q => h.run pins s σ H Q I (k _ _ _ q)⟩
theorem s_pi (F : Fx X ad G W k cal m) {kk : IK} {src : List Lt.E} {tg iter : Expr} {args : List Expr} (hs : srcArgs m kk tg iter = some args) (hl : rngLen kk args.length = true) (hst : args.all noStar = true) (hlen : src.length = args.length)
    (ha : PA X args (tL X.K ad G W (fun τ S => dens G cal src τ S))) (h1 : ∀ x, args = [x] → ∃ e, src = [e] ∧ PE X x (tE X.K ad G W (fun τ S => den G cal e τ S))) : PI X tg iter (tI X.K ad G W (fun τ S => iD G cal kk src τ S)) := by
  cases kk with
  | seq =>
    cases hs
    obtain ⟨e, rfl, he⟩ := h1 iter rfl
    refine PI.imp (pi_seq he) fun σ H Q h => ?_
    refine tI_one (r := fun x H1 Q => ∃ p, x = .ref p ∧ (((∃ xs, SqL X.K H1 p xs) ∧ Q (Itl X.K p) H1) ∨ ((∃ xs, SqT X.K H1 p xs) ∧ Q (Itt X.K p) H1))) h fun w τ a v s rt ra h => ?_
    obtain ⟨xg, e1, h⟩ := h.of
    obtain ⟨xs, e2, rfl⟩ := Option.map_eq_some_iff.mp e1
    have ok := h
    obtain ⟨p0, vs0, ev, hp0, _⟩ := seqO_rel s ra e2
    subst ev
    refine ⟨p0, rfl, ?_⟩
    rcases seqO_or e2 with e3 | e3
    · obtain ⟨p, ep, hx⟩ := lst_at s ra e3
      cases ep
      left
      refine ⟨?_, ok.ret rfl s (itm_list hx)⟩
      obtain ⟨p', vs', ep', h', _⟩ := lstO_rel s ra e3
      cases ep'
      exact ⟨_, h'⟩
    · obtain ⟨p, ep, vs, rs, hx⟩ := tup_at ra e3
      cases ep
      right
      exact ⟨⟨_, hx w (Mo.refl w)⟩, ok.ret rfl s (itm_tup rs hx)⟩
  | sgn =>
    cases hs
    obtain ⟨e, rfl, he⟩ := h1 iter rfl
    refine PI.imp (pi_str he) fun σ H Q h => ?_
    refine tI_one (r := fun x H1 Q => ∃ y, x = .str y ∧ Q (Its y) H1) h fun w τ a v s rt ra h => ?_
    obtain ⟨xg, e1, h⟩ := h.of
    cases a <;> simp only [srcO] at e1 <;> first | (cases e1; done) | skip
    cases e1
    obtain ⟨e, o⟩ := relA_str ra
    subst e
    exact ⟨_, rfl, h.ret rfl s (itm_str o)⟩
  | rng =>
    obtain ⟨p, pos, rfl, hg⟩ := callOf_eq hs
    have hgl := F.glob hg
    have hm : X.mg "range" = none := F.st.blt _ (by decide +kernel)
    rcases args with _ | ⟨x, _ | ⟨y, _ | ⟨z, r⟩⟩⟩
    · simp [rngLen] at hl
    · have hx : noStar x = true := by simpa using hst
      refine PI.imp (pi_range1 hgl hm ha (by rw [starEach_one hx]; rfl)) fun σ H Q h => ?_
      refine tI_many (r := fun vs H1 Q => ∃ j : Int, vs = [.int j] ∧ -(2 ^ 62) ≤ j ∧ j < 2 ^ 62 ∧ Q (Itr 0 j.toNat) H1) h fun w τ a v s rt ra hla h => ?_
      obtain ⟨xg, e1, h⟩ := h.of
      rw [hlen] at hla
      obtain ⟨a, rfl⟩ := List.length_eq_one_iff.mp hla
      obtain ⟨v, rfl, r1⟩ := one_of ra
      cases a <;> simp only [srcO] at e1 <;> first | (cases e1; done) | skip
      split at e1
      · rename_i hj
        cases e1
        cases relA_int r1
        exact ⟨_, rfl, hj.1, hj.2, h.ret rfl s itm_rng⟩
      · cases e1
    · have hx : noStar x = true ∧ noStar y = true := by simpa using hst
      refine PI.imp (pi_range2 hgl hm ha (by rw [starEach_one hx.1, starEach_one hx.2]; rfl) (by rw [starEach_one hx.2]; rfl)) fun σ H Q h => ?_
      refine tI_many (r := fun vs H1 Q => ∃ i j : Int, vs = [.int i, .int j] ∧ (-(2 ^ 62) ≤ i ∧ i < 2 ^ 62 ∧ -(2 ^ 62) ≤ j ∧ j < 2 ^ 62) ∧ Q (Itr i (j - i).toNat) H1) h fun w τ a v s rt ra hla h => ?_
      obtain ⟨xg, e1, h⟩ := h.of
      rw [hlen] at hla
      obtain ⟨a, b, rfl⟩ := len_two hla
      obtain ⟨v, u, rfl, r1, r2⟩ := two_of ra
      cases a <;> simp only [srcO] at e1 <;> first | (cases e1; done) | skip
      cases b <;> simp only [srcO] at e1 <;> first | (cases e1; done) | skip
      split at e1
      · rename_i hj
        cases e1
        cases relA_int r1
        cases relA_int r2
        exact ⟨_, _, rfl, hj, h.ret rfl s itm_rng⟩
      · cases e1
    · simp [rngLen] at hl
  | enum =>
    simp only [srcArgs] at hs
    by_cases ht : isTup tg = true
    case neg => rw [if_neg ht] at hs; cases hs
    rw [if_pos ht] at hs
    obtain ⟨es, kk, tp, rfl⟩ := isTup_eq ht
    obtain ⟨p, pos, rfl, hg⟩ := callOf_eq hs
    have hgl := F.glob hg
    have hm : X.mg "enumerate" = none := F.st.blt _ (by decide +kernel)
    rcases args with _ | ⟨x, _ | ⟨y, r⟩⟩
    · simp [rngLen] at hl
    · have hx : noStar x = true := by simpa using hst
      refine PI.imp (pi_ez hgl hm ha (by rw [starEach_one hx]; rfl)) fun σ H Q h => ?_
      refine tI_many (r := fun vs H1 Q => ∃ (p : Zs) (xs : List V), vs = [p.val] ∧ p.at_ X.K H1 xs ∧ Q (Itez X.K p) H1) h fun w τ a v s rt ra hla h => ?_
      obtain ⟨xg, e1, h⟩ := h.of
      rw [hlen] at hla
      obtain ⟨a, rfl⟩ := List.length_eq_one_iff.mp hla
      obtain ⟨v, rfl, r1⟩ := one_of ra
      obtain ⟨xs, e2, rfl⟩ := Option.map_eq_some_iff.mp (show (zipO w.S a).map _ = some xg from e1)
      obtain ⟨z1, rfl, ⟨vs', h1'⟩, hq⟩ := zs_at s r1 e2
      exact ⟨z1, vs', rfl, h1', h.ret rfl s (itm_ez hq)⟩
    · simp [rngLen] at hl
  | keys =>
    cases hs
    obtain ⟨e, rfl, he⟩ := h1 iter rfl
    refine PI.imp (pi_keys he) fun σ H Q h => ?_
    refine tI_one (r := fun x H1 Q => ∃ d o, x = .ref d ∧ ((∃ kvs, H1 d = some (.frz o (.dK kvs)) ∧ Q (Itk d o kvs) H1) ∨ ∃ kvs, H1 d = some (.frz o (.dT kvs)) ∧ Q (Itkt d o kvs) H1)) h fun w τ a v s rt ra h => ?_
    obtain ⟨xg, e1, h⟩ := h.of
    obtain ⟨kvs, e2, rfl⟩ := Option.map_eq_some_iff.mp e1
    obtain ⟨p, o, ws, rfl, hH, nl, hw⟩ := fdic_at s ra e2
    exact ⟨p, o, rfl, .inl ⟨ws, hH, h.ret rfl s (itm_keys hH nl hw)⟩⟩
  | vals =>
    obtain ⟨x, apos, pos, rfl, rfl, hb, hn, hline⟩ := viewOf_eq hs
    obtain ⟨e, rfl, he⟩ := h1 x rfl
    refine PI.imp (pi_values he (base_plain hb _ _ _) hline) fun σ H Q h => ?_
    refine tI_one (r := fun x H1 Q => ∃ d o kvs, x = .ref d ∧ H1 d = some (.frz o (.dK kvs)) ∧ Q (Itd d o kvs) H1) h fun w τ a v s rt ra h => ?_
    obtain ⟨xg, e1, h⟩ := h.of
    obtain ⟨kvs, e2, rfl⟩ := Option.map_eq_some_iff.mp e1
    obtain ⟨p, o, ws, rfl, hH, nl, hw⟩ := fdic_at s ra e2
    exact ⟨p, o, ws, rfl, hH, h.ret rfl s (itm_vals hH nl hw)⟩
  | items =>
    simp only [srcArgs] at hs
    by_cases ht : isTup tg = true
    case neg => rw [if_neg ht] at hs; cases hs
    rw [if_pos ht] at hs
    obtain ⟨es, kk, tp, rfl⟩ := isTup_eq ht
    obtain ⟨x, apos, pos, rfl, rfl, hb, hn, hline⟩ := viewOf_eq hs
    obtain ⟨e, rfl, he⟩ := h1 x rfl
    refine PI.imp (pi_items he (base_plain hb _ _ _) hline) fun σ H Q h => ?_
    refine tI_one (r := fun x H1 Q => ∃ d o kvs, x = .ref d ∧ H1 d = some (.frz o (.dK kvs)) ∧ Q (Iti d o kvs) H1) h fun w τ a v s rt ra h => ?_
    obtain ⟨xg, e1, h⟩ := h.of
    obtain ⟨kvs, e2, rfl⟩ := Option.map_eq_some_iff.mp e1
    obtain ⟨p, o, ws, rfl, hH, nl, hw⟩ := fdic_at s ra e2
    exact ⟨p, o, ws, rfl, hH, h.ret rfl s (itm_items hH nl hw)⟩
  | zips =>
    simp only [srcArgs] at hs
    by_cases ht : isTup tg = true ∧ m.calm = true
    case neg => rw [if_neg (by simpa using ht)] at hs; cases hs
    rw [if_pos (by simpa using ht)] at hs
    obtain ⟨ht, hcalm⟩ := ht
    obtain ⟨es, kk, tp, rfl⟩ := isTup_eq ht
    obtain ⟨p, pos, ck, cp, kp, rfl, hg⟩ := callStrict_eq hs
    have hgl := F.glob hg
    have hm : X.mg "zip" = none := F.st.blt _ (by decide +kernel)
    rcases args with _ | ⟨x, _ | ⟨y, _ | ⟨z, r⟩⟩⟩
    · simp [rngLen] at hl
    · simp [rngLen] at hl
    · have hx : noStar x = true ∧ noStar y = true := by simpa using hst
      refine PI.imp (pi_zt hgl hm ha (by rw [starEach_one hx.1]) (by rw [starEach_one hx.1, starEach_one hx.2]; rfl)) fun σ H Q h => ?_
      refine tI_many (r := fun vs H1 Q => ∃ (p q : Zs) (xs ys : List V), vs = [p.val, q.val] ∧ p.at_ X.K H1 xs ∧ q.at_ X.K H1 ys ∧ Q (Itzt X.K p q) H1) h fun w τ a v s rt ra hla h => ?_
      obtain ⟨xg, e1, h⟩ := h.of
      rw [hlen] at hla
      obtain ⟨a, b, rfl⟩ := len_two hla
      obtain ⟨v, u, rfl, r1, r2⟩ := two_of ra
      simp only [srcO] at e1
      split at e1
      · rename_i xs ys e2 e3
        split at e1
        case isFalse => cases e1
        rename_i hxy
        cases e1
        obtain ⟨z1, rfl, ⟨vs', h1'⟩, hq⟩ := zs_at s r1 e2
        obtain ⟨z2, rfl, ⟨us', h2'⟩, hq2⟩ := zs_at s r2 e3
        exact ⟨z1, z2, vs', us', rfl, h1', h2', h.ret rfl s (itm_zt hxy (fun w' mo s' g => hq w' mo s' (Gd.ok_l g)) (fun w' mo s' g => hq2 w' mo s' (Gd.ok_r g)))⟩
      · cases e1
    · simp [rngLen] at hl
  | zip =>
    simp only [srcArgs] at hs
    by_cases ht : isTup tg = true
    case neg => rw [if_neg ht] at hs; cases hs
    rw [if_pos ht] at hs
    obtain ⟨es, kk, tp, rfl⟩ := isTup_eq ht
    obtain ⟨p, pos, rfl, hg⟩ := callOf_eq hs
    have hgl := F.glob hg
    have hm : X.mg "zip" = none := F.st.blt _ (by decide +kernel)
    rcases args with _ | ⟨x, _ | ⟨y, _ | ⟨z, r⟩⟩⟩
    · simp [rngLen] at hl
    · simp [rngLen] at hl
    · have hx : noStar x = true ∧ noStar y = true := by simpa using hst
      refine PI.imp (pi_zs hgl hm ha (by rw [starEach_one hx.1]) (by rw [starEach_one hx.2]; rfl)) fun σ H Q h => ?_
      refine tI_many (r := fun vs H1 Q => ∃ (p q : Zs) (xs ys : List V), vs = [p.val, q.val] ∧ p.at_ X.K H1 xs ∧ q.at_ X.K H1 ys ∧ Q (Itzs X.K p q) H1) h fun w τ a v s rt ra hla h => ?_
      obtain ⟨xg, e1, h⟩ := h.of
      rw [hlen] at hla
      obtain ⟨a, b, rfl⟩ := len_two hla
      obtain ⟨v, u, rfl, r1, r2⟩ := two_of ra
      simp only [srcO] at e1
      split at e1
      · rename_i xs ys e2 e3
        cases e1
        obtain ⟨z1, rfl, ⟨vs', h1'⟩, hq⟩ := zs_at s r1 e2
        obtain ⟨z2, rfl, ⟨us', h2'⟩, hq2⟩ := zs_at s r2 e3
        exact ⟨z1, z2, vs', us', rfl, h1', h2', h.ret rfl s (itm_zs (fun w' mo s' g => hq w' mo s' (Gd.ok_l g)) (fun w' mo s' g => hq2 w' mo s' (Gd.ok_r g)))⟩
      · cases e1
    · simp [rngLen] at hl
end
end Lt
/-! list(range(..)) -/
namespace Lt
open PySem PySem.Spec PyProof.Rows L2
theorem rng_rel {K : PySem.W.Frag} {w : Wd} : ∀ (n : Nat) (lo : Int), RelAs K w (rngA lo n) ((List.range n).map fun i => V.int (lo + (i : Nat)))
  | 0, lo => RelAs.nil
  | n + 1, lo => by
    rw [List.range_succ_eq_map, List.map_cons, List.map_map]
    refine RelAs.cons (by simpa using int_rel) ?_
    have h := rng_rel (K := K) (w := w) n (lo + 1)
    have e : (fun i : Nat => V.int (lo + 1 + (i : Nat))) = ((fun i : Nat => V.int (lo + (i : Nat))) ∘ Nat.succ) := by
      funext i
      show V.int _ = V.int _
      congr 1
      simp only [Nat.succ_eq_add_one]
      omega
    rw [← e]; exact h
section
variable {X : Cx} {ad : Ad} {G : Gt} {W : WX} {k : Nat} {cal : Cal} {m : MC}
theorem lsr_one (fl : Bool) (e : E) (τ : Tau) (S : List O) : den G cal (.lsr fl [e]) τ S = (den G cal e τ S).bind fun x S1 => match srcO .rng [x] S1 with
    | some (xs, _) => if xs.length ≤ 1000000 then mkL fl xs S1 else .no
    | none => .no := by
  show ((dens G cal [e] τ S).bind _) = _
  rw [dens]
  cases den G cal e τ S <;> rfl
theorem lsr_two (fl : Bool) (e e2 : E) (τ : Tau) (S : List O) : den G cal (.lsr fl [e, e2]) τ S = (den G cal e τ S).bind fun x S1 => (den G cal e2 τ S1).bind fun y S2 => match srcO .rng [x, y] S2 with
    | some (xs, _) => if xs.length ≤ 1000000 then mkL fl xs S2 else .no
    | none => .no := by
  show ((dens G cal [e, e2] τ S).bind _) = _
  rw [dens]
  cases den G cal e τ S with
  | ok x S1 =>
    simp only [R.bind_ok, dens]
    cases den G cal e2 τ S1 <;> rfl
  | _ => rfl
theorem s_lsr1 {p p1 p2 pos : Pos} {a : Expr} {fl : Bool} {e : E} (hc : X.calm = true) (hl : Gl X "list") (hml : X.mg "list" = none) (hr : Gl X "range") (hmr : X.mg "range" = none) (ha : noStar a = true) (he : PE X a (tE X.K ad G W (fun τ S => den G cal e τ S))) :
    PE X (.Call (.Name "list" p) [.Call (.Name "range" p1) [a] [] p2] [] pos) (tE X.K ad G W (fun τ S => den G cal (.lsr fl [e]) τ S)) := by
  refine PE.imp (pe_listRg hc hl hml (prg_1 hr hmr he (by rw [starEach_one ha]))) ?_
  rintro σ H Q ⟨w, τ, rfl, s, rt, ok⟩
  dsimp only at ok
  rw [lsr_one] at ok
  refine ⟨w, τ, rfl, s, rt, okR.bindR ok fun w1 a v l1 s1 ra ok1 => ?_⟩
  split at ok1
  case h_2 => exact (ok1 : False).elim
  rename_i xs g e1
  split at ok1
  case isFalse => exact (ok1 : False).elim
  rename_i hn
  cases a <;> simp only [srcO] at e1 <;> first | (cases e1; done) | skip
  split at e1
  case isFalse => cases e1
  rename_i j hj
  cases e1
  cases relA_int ra
  rw [rngA_len] at hn
  refine ⟨j, rfl, ⟨by omega, by omega, hj.1, hj.2, by rw [Int.sub_zero]; omega⟩, ok1.mkL s1 ?_⟩
  have := rng_rel (K := X.K) (w := w1) j.toNat 0
  unfold rgV
  rw [Int.sub_zero]; exact this
theorem s_lsr2 {p p1 p2 pos : Pos} {a b : Expr} {fl : Bool} {e e2 : E} (hc : X.calm = true) (hl : Gl X "list") (hml : X.mg "list" = none) (hr : Gl X "range") (hmr : X.mg "range" = none) (ha : noStar a = true) (hb : noStar b = true) (he : PE X a (tE X.K ad G W (fun τ S => den G cal e τ S)))
    (he2 : PE X b (tE X.K ad G W (fun τ S => den G cal e2 τ S))) : PE X (.Call (.Name "list" p) [.Call (.Name "range" p1) [a, b] [] p2] [] pos) (tE X.K ad G W (fun τ S => den G cal (.lsr fl [e, e2]) τ S)) := by
  refine PE.imp (pe_listRg hc hl hml (prg_2 hr hmr he he2 (by rw [starEach_one ha]) (by rw [starEach_one hb]) (by rw [starEach_one hb]; rfl))) ?_
  rintro σ H Q ⟨w, τ, rfl, s, rt, ok⟩
  dsimp only at ok
  rw [lsr_two] at ok
  refine ⟨w, τ, rfl, s, rt, okR.bindR ok fun w1 a v l1 s1 ra ok1 => ?_⟩
  refine ⟨w1, τ, rfl, s1, rt.mono l1.mo, okR.bindR ok1 fun w2 b u l2 s2 rb ok2 => ?_⟩
  split at ok2
  case h_2 => exact (ok2 : False).elim
  rename_i xs g e1
  split at ok2
  case isFalse => exact (ok2 : False).elim
  rename_i hn
  cases a <;> simp only [srcO] at e1 <;> first | (cases e1; done) | skip
  cases b <;> simp only [srcO] at e1 <;> first | (cases e1; done) | skip
  split at e1
  case isFalse => cases e1
  rename_i i j hj
  cases e1
  cases relA_int ra
  cases relA_int rb
  rw [rngA_len] at hn
  refine ⟨i, j, rfl, rfl, ⟨hj.1, hj.2.1, hj.2.2.1, hj.2.2.2, by omega⟩, ok2.mkL s2 ?_⟩
  exact rng_rel (K := X.K) (w := w2) (j - i).toNat i
end
end Lt
/-! own ==, repr, bool -/
namespace Lt
open PySem PySem.Spec PyProof.Rows L2
/-- a value whose type is no class below C, or C itself -/
def NotFst (K : PySem.W.Frag) (H : Hp) (C : Addr) (y : V) : Prop := match y with
  | .non => True
  | .bl _ => True
  | .int _ => True
  | .str _ => True
  | .ref p => (∃ xs, SqL K H p xs) ∨ (∃ xs, SqT K H p xs) ∨ (∃ kvs, Rd H p (.dK kvs)) ∨ (∃ kvs, Rd H p (.dT kvs)) ∨ (∃ dx fs, H p = some (.ins C dx fs))
  | _ => False
section
variable {X : Cx} {W : WX} {CX : CXT} {j : Nat} {a b : Expr} {ta tb : TE} {pins : List (Addr × Obj)} {σ : L2.St} {H : Hp} {s : Shared} {C : Addr} {y : V} {u : Value}
theorem nf_T (K : PySem.W.Frag) (C : Addr) {T : String} (h : (fastBuiltinMro T).map (·.contains (.ref C)) = some false) : PySem.W.notFirst K C (.type T) = true := by
  have e : PySem.W.subIn K (.type T) (.ref C) = some false := h
  unfold PySem.W.notFirst
  rw [e]
  simp
theorem mro_no (T : String) (C : Addr) (l : List String) (h : fastBuiltinMro T = some (l.map Value.type)) : (fastBuiltinMro T).map (·.contains (.ref C)) = some false := by
  rw [h]
  simp
theorem nf_looks (I : L2.Inv X pins σ H s) (r : RelV y u) (h : NotFst X.K H C y) : ∃ tb, PySem.W.Looks (model X.prog X.w) s.heap (typeOf u) tb ∧ PySem.W.notFirst X.K C tb = true := by
  have ld : ∀ {p : Addr} {o : Obj}, s.heap.get? p = some o → PySem.W.Looks (model X.prog X.w) s.heap (typeOf (.ref p)) o.cls := fun {p o} e => (PySem.W.Looks.ld e).andThen .now
  cases y with
  | non => cases r; exact ⟨.type "NoneType", PySem.W.Looks.of_pure rfl, nf_T _ _ (mro_no _ _ ["NoneType", "object"] (by decide +kernel))⟩
  | bl k => cases r; exact ⟨.type "bool", PySem.W.Looks.of_pure rfl, nf_T _ _ (mro_no _ _ ["bool", "int", "object"] (by decide +kernel))⟩
  | int i => obtain ⟨t, rfl⟩ := r; exact ⟨.type "int", PySem.W.Looks.of_pure rfl, nf_T _ _ (mro_no _ _ ["int", "object"] (by decide +kernel))⟩
  | str x => obtain ⟨t, rfl⟩ := r; exact ⟨.type "str", PySem.W.Looks.of_pure rfl, nf_T _ _ (mro_no _ _ ["str", "object"] (by decide +kernel))⟩
  | ref p =>
    cases r
    rcases h with ⟨xs, h⟩ | ⟨xs, h⟩ | ⟨kvs, h⟩ | ⟨kvs, h⟩ | ⟨dx, fs, h⟩
    · obtain ⟨its, rv, ⟨o, n, e, hc, _⟩, _⟩ := I.list h
      exact ⟨.type "list", by rw [← hc]; exact ld e, nf_T _ _ (mro_no _ _ ["list", "object"] (by decide +kernel))⟩
    · obtain ⟨its, rv, ⟨o, e, hc, _⟩, _⟩ := I.tuple h
      exact ⟨.type "tuple", by rw [← hc]; exact ld e, nf_T _ _ (mro_no _ _ ["tuple", "object"] (by decide +kernel))⟩
    · obtain ⟨ob, e, hc⟩ : ∃ ob, s.heap.get? p = some ob ∧ ob.cls = .type "dict" := by
        obtain ⟨_, _, vs, _, dof⟩ := dk_rd I.hok h
        obtain ⟨ep, dat⟩ := dof.dictAt
        obtain ⟨ob, es, ho, ex, _⟩ := dat
        exact ⟨ob, ho, ex.1⟩
      exact ⟨.type "dict", by rw [← hc]; exact ld e, nf_T _ _ (mro_no _ _ ["dict", "object"] (by decide +kernel))⟩
    · obtain ⟨ob, e, hc⟩ : ∃ ob, s.heap.get? p = some ob ∧ ob.cls = .type "dict" := by
        obtain ⟨_, _, xs, _, ob, es, ep, ho, h2, _⟩ := dt_rd I.hok h
        exact ⟨ob, ho, h2.1⟩
      exact ⟨.type "dict", by rw [← hc]; exact ld e, nf_T _ _ (mro_no _ _ ["dict", "object"] (by decide +kernel))⟩
    · obtain ⟨mA, J, _⟩ := ins_get I.hok h
      obtain ⟨od, J, _⟩ := J.look
      refine ⟨.ref C, J.type, ?_⟩
      unfold PySem.W.notFirst
      simp
  | byt _ => exact False.elim h
  | flt _ => exact False.elim h
  | ty _ => exact False.elim h
def rEqR (X : Cx) (CX : CXT) (j : Nat) (E : XK) (x y : V) (H : Hp) (Q : VK) : Prop :=
  ∃ a C f dx fs sp, x = .ref a ∧ H a = some (.ins C dx fs) ∧ Cls X.K C ∧ Meth X.K C "__eq__" f ∧ FnG X.prog X.w X.K X.mg X.base CX j f sp ∧ NotFst X.K H C y ∧ sp [x, y] H (fun v H2 => ∃ k, v = .bl k ∧ Q (.bl k) H2) E
def tEqR (X : Cx) (CX : CXT) (j : Nat) (W : WX) (ta tb : TE) : TE := fun σ H Q => ta σ H fun x H1 => tb σ H1 fun y H2 => rEqR X CX j (fun c d H' => W c d σ H') x y H2 Q
theorem pc_eqR (ha : PE X a ta) (hb : PE X b tb) (hr : RoomG X.K X.base j X.A) (hx : ∀ σ, PassesAt CX X σ (fun c d H => W c d σ H)) (hu : X.A.units < cLine) : PC X .Eq a b (tEqR X CX j W ta tb) := by
  refine ⟨fun pins s σ H Q I h => ?_⟩
  refine thn (ha.run pins s σ H _ I h) fun v s1 ⟨x, H1, I1, r1, q1⟩ => ?_
  refine thn (hb.run pins s1 σ H1 _ I1 q1) fun u s2 ⟨y, H2, I2, r2, q2⟩ => ?_
  obtain ⟨a, C, f, dx, fs, sp, rfl, ea, c, hm, F, nf, q⟩ := q2
  obtain rfl : v = Value.ref a := r1
  obtain ⟨mA, J, _⟩ := ins_get I2.hok ea
  obtain ⟨od, J, _⟩ := J.look
  obtain ⟨mm, hF⟩ := I2.fr
  obtain ⟨tb, lk, hn⟩ := nf_looks I2 r2 nf
  have he : PySem.W.findIn X.K (.ref C) (cmpInfo .Eq).2.1 = some (some (.ref f)) := by rw [cmpInfo_Eq]; exact hm.at_
  refine PySem.W.cmp_ofEq (PySem.W.cmp_K (op := .Eq) hu hF I2.ok.mod.kin J lk hn he hm.fn ?_)
  refine thn (run_fnRS (us := [.ref a, u]) (vs := [.ref a, y]) F hr (hx σ) I2 (.cons rfl (.cons r2 .nil)) q) fun w s3 ⟨z, H3, I3, r3, k, ez, q3⟩ => ?_
  subst ez
  obtain rfl : w = Value.bool k := r3
  exact ⟨.bl k, H3, I3, rfl, q3⟩
/-- C takes != from object -/
structure NeOk (K : PySem.W.Frag) (C : Addr) : Prop where
  ne : PySem.W.findIn K (.ref C) "__ne__" = some (some (.builtin "object.__ne__"))
  ob : PySem.W.mroIn K C (.type "object") = some true
theorem ne_K {K : PySem.W.Frag} {prog : Program} {w : World} {A : Around} {E : Value → Shared → Prop} {s : Shared} {h₀ : Heap} {L x y C f : Addr} {m : Str → Option Value} {ox : Obj} {od : Option Obj} {Q : Value → Shared → Prop} (hu : A.units + 1 < cLine) (F : Fr h₀ L s.heap m) (X₀ : K.In h₀) (I : PySem.W.InstAt s.heap x ox C od)
    (hb : PySem.W.Looks (model prog w) s.heap (typeOf (.ref y)) (.ref C)) (N : NeOk K C) (hs : PySem.W.findIn K (.ref C) "__eq__" = some (some (.ref f))) (hf : PySem.W.isFn K (.ref f) = true)
    (h : wpAny (model prog w) A.in1 (call (.ref f) [.ref x, .ref y]) (fun v s' => ∃ k, v = .bool k ∧ Q (.bool (!k)) s') E s) : wpAny (model prog w) A (richCompare .NotEq (.ref x) (.ref y)) Q E s := by
  have X := X₀.keeps F.keep
  have ent : wpAny (model prog w) A.in1 (Builtin.«object.__ne__» ⟨[.ref x, .ref y], []⟩) (fun fin s' => ∃ k, fin = .done (.ret (.bool (!k))) ∧ Q (.bool (!k)) s') E s := by
    unfold Builtin.«object.__ne__»
    refine wpAny_bind (m := slotArgs _ _ _) (wpAny_pure ?_)
    refine wpAny_bind (wpAny_cRoomFor (by show A.units + 1 < _; exact hu) ?_)
    refine wpAny_bind (m := callSpecialIfBound? (.ref x) (Str.ofString "__eq__") [.ref y]) (PySem.W.ifBound_K X I hs hf (wpAny_mono h (fun v s' hv => ?_) fun _ _ e => e))
    obtain ⟨k, rfl, hq⟩ := hv
    refine wpAny_bind (m := truthy (.bool k)) (wpAny_truthy_bool ?_)
    exact wpAny_pure ⟨k, rfl, hq⟩
  have one : wpAny (model prog w) A (tryCompare (.ref x) (cmpInfo .NotEq).2.1 (.ref y)) (fun r s' => ∃ v, r = some v ∧ Q v s') E s := by
    rw [cmpInfo_NotEq]
    unfold tryCompare
    refine wpAny_bind ?_
    simp only [callSpecialIfBound?, bindSpecialIfBound?]
    refine wpAny_holding (wpAny_bind (wpAny_bind (wpAny_bind (I.type.here ((PySem.W.looks_findIn X N.ne).here ?_)))))
    have bnd : bindSpecial (.builtin "object.__ne__") (.ref x) = pure (.builtin "object.__ne__", [.ref x]) := PySem.F.cmp_object.ne.bind _
    have hi : PySem.W.Looks (model prog w) s.heap (isInstance (.ref x) (.type "object")) true := by
      exact (I.type).andThen (PySem.W.looks_mroIn X N.ob)
    have cl : wpAny (model prog w) A (call (.builtin "object.__ne__") [.ref x, .ref y]) (fun v s' => v ≠ .notImplemented ∧ Q v s') E s := by
      refine wpAny_call (codeAny_call_builtin PySem.F.cmp_object.ne.plain PySem.F.cmpEntry_ne (PySem.W.check_slot PySem.F.cmpKind_ne PySem.F.cmpSplit_ne hi (PySem.F.cmpArgs_ne _ _) (wpAny_mono ent (fun fin s' z => ?_) fun _ _ e => e)))
      obtain ⟨k, rfl, hq⟩ := z
      exact ⟨(fun x => nomatch x), hq⟩
    have tl : ∀ (v : Value) (s' : Shared), v ≠ .notImplemented ∧ Q v s' → wpAny (model prog w) A (match some v with
            | some Value.notImplemented => pure none
            | none => pure none
            | some r => pure (some r)) (fun r s' => ∃ v, r = some v ∧ Q v s') E s' := fun v s' z => by
      obtain ⟨hn, hq⟩ := z
      cases v <;> first | exact absurd rfl hn | exact wpAny_pure ⟨_, rfl, hq⟩
    refine wpAny_bind (wpAny_askSetting (wpAny_ite ?_))
    split
    · refine wpAny_bind ?_
      rw [bnd]
      exact wpAny_pure (wpAny_pure (wpAny_bind (wpAny_mono cl (fun v s' z => wpAny_pure (tl v s' z)) fun _ _ e => e)))
    · refine wpAny_tryCatch (wpAny_bind ?_)
      rw [bnd]
      exact wpAny_pure (wpAny_pure (wpAny_bind (wpAny_mono cl (fun v s' z => wpAny_pure (tl v s' z)) fun _ _ e => e)))
  unfold richCompare
  simp only [oneThing_ref]
  refine wpAny_holding (wpAny_bind (wpAny_cRoomFor (Nat.lt_of_succ_lt hu) ?_))
  refine wpAny_bind (I.type.here (wpAny_bind (hb.here ?_)))
  rw [show (Value.ref C != Value.ref C) = false from by simp]
  refine wpAny_bind (wpAny_pure ?_)
  simp only [Bool.false_eq_true, if_false]
  refine wpAny_bind (wpAny_mono one (fun r s' z => ?_) fun _ _ e => e)
  obtain ⟨v, rfl, hq⟩ := z
  exact wpAny_pure hq
def rNeR (X : Cx) (CX : CXT) (j : Nat) (E : XK) (x y : V) (H : Hp) (Q : VK) : Prop :=
  ∃ a b C f dx fs dy gs sp, x = .ref a ∧ y = .ref b ∧ H a = some (.ins C dx fs) ∧ H b = some (.ins C dy gs) ∧ Cls X.K C ∧ NeOk X.K C ∧ Meth X.K C "__eq__" f ∧ FnG X.prog X.w X.K X.mg X.base CX j f sp ∧ sp [x, y] H (fun v H2 => ∃ k, v = .bl k ∧ Q (.bl (!k)) H2) E
def tNeR (X : Cx) (CX : CXT) (j : Nat) (W : WX) (ta tb : TE) : TE := fun σ H Q => ta σ H fun x H1 => tb σ H1 fun y H2 => rNeR X CX j (fun c d H' => W c d σ H') x y H2 Q
theorem run_fnR1 {CX : CXT} {f : Addr} {sp : Sp} {E : XK} {A : Around} {Q : VK} {us : List Value} {vs : List V} (F : FnG X.prog X.w X.K X.mg X.base CX j f sp) (hr : RoomG X.K X.base j A) (ef : A.frames = X.A.frames) (hx : PassesAt CX X σ E) (I : L2.Inv X pins σ H s) (r : Vals vs us) (h : sp vs H Q E) :
    wpAny (model X.prog X.w) A (call (.ref f) us) (EP X pins σ Q) X.xe s := by
  have e0 : Env0 X.prog X.w X.K X.mg X.base A X.stack s H := by
    have e := I.env0
    exact ⟨ef.trans e.frames, e.mod, e.bs, e.bsz, e.funs, e.frf, e.hok, e.bare⟩
  apply wpAny_call
  refine codeAny_mono (F A X.stack s H us vs Q E hr e0 r h) ?_
  rintro (e | fl) s' hq
  · exact hx pins H s e s' I hq
  · cases fl with
    | ret u => exact I.after hq
    | _ => exact hq.elim
theorem pc_neR (ha : PE X a ta) (hb : PE X b tb) (hr : RoomG X.K X.base (j + 1) X.A) (hx : ∀ σ, PassesAt CX X σ (fun c d H => W c d σ H)) (hu : X.A.units + 1 < cLine) : PC X .NotEq a b (tNeR X CX j W ta tb) := by
  refine ⟨fun pins s σ H Q I h => ?_⟩
  refine thn (ha.run pins s σ H _ I h) fun v s1 ⟨x, H1, I1, r1, q1⟩ => ?_
  refine thn (hb.run pins s1 σ H1 _ I1 q1) fun u s2 ⟨y, H2, I2, r2, q2⟩ => ?_
  obtain ⟨a, b, C, f, dx, fs, dy, gs, sp, rfl, rfl, ea, eb, c, hN, hm, F, q⟩ := q2
  obtain rfl : v = Value.ref a := r1
  obtain rfl : u = Value.ref b := r2
  obtain ⟨mA, J, _⟩ := ins_get I2.hok ea
  obtain ⟨od, J, _⟩ := J.look
  obtain ⟨mB, Jb, _⟩ := ins_get I2.hok eb
  obtain ⟨ob, Jb, _⟩ := Jb.look
  obtain ⟨mm, hF⟩ := I2.fr
  refine PySem.W.cmp_ofNotEq (ne_K hu hF I2.ok.mod.kin J Jb.type hN hm.at_ hm.fn ?_)
  refine thn (run_fnR1 (us := [.ref a, .ref b]) (vs := [.ref a, .ref b]) (A := X.A.in1) F hr.in1 rfl (hx σ) I2 (.cons rfl (.cons rfl .nil)) q) fun w s3 ⟨z, H3, I3, r3, k, ez, q3⟩ => ?_
  subst ez
  obtain rfl : w = Value.bool k := r3
  exact ⟨k, rfl, .bl (!k), H3, I3, rfl, q3⟩
/-- repr(o) by an own __repr__ -/
def tReprR (X : Cx) (CX : CXT) (j : Nat) (W : WX) (to : TE) : TE := fun σ H Q => to σ H fun x H1 => rMth X.K X.prog X.w X.mg X.base CX j "__repr__" x H1 fun sp => sp [x] H1 (fun v H2 => ∃ y : Str, v = .str y ∧ Q (.str y) H2) (fun c d H' => W c d σ H')
theorem pe_reprR {o : Expr} {to : TE} {p pos : Pos} (ho : PE X o to) (hr : RoomG X.K X.base (j + 1) X.A) (hx : ∀ σ, PassesAt CX X σ (fun c d H => W c d σ H)) (hu : X.A.units + 1 < cLine) (hg : Gl X "repr") (hm : X.mg "repr" = none) (hn : noStar o = true) : PE X (.Call (.Name "repr" p) [o] [] pos) (tReprR X CX j W to) := by
  constructor
  intro pins s σ H Q I h
  refine wpAny_Call_Name_kw (ld_blt I hg hm (u := .builtin "repr") (by decide +kernel) ?_ (by decide) (by decide))
  refine PyProof.Rows.callWith_builtin1 ?_ (starEach_one hn _ _) rfl
  rw [starEach_one hn]
  refine Calls.spliced_cons (thn (ho.run pins s σ H _ I h) fun u s1 ⟨x, H1, I1, rx, q⟩ => Calls.spliced_nil ?_)
  obtain ⟨a, C, f, dx, fs, sp, rfl, ea, c, hm, F, l, q⟩ := q
  obtain rfl : u = Value.ref a := rx
  obtain ⟨mA, J, _⟩ := ins_get I1.hok ea
  obtain ⟨od, J, _⟩ := J.look
  obtain ⟨mm, hF⟩ := I1.fr
  refine PySem.W.repr_K (by show X.A.units + 1 < _; exact hu) hF I1.ok.mod.kin J hm.at_ hm.fn ?_
  refine thn (run_fnR1 (us := [.ref a]) (vs := [.ref a]) (A := X.A.in1) F hr.in1 rfl (hx σ) I1 (.cons rfl .nil) q) fun w s3 ⟨z, H3, I3, r3, y, ez, q3⟩ => ?_
  subst ez
  obtain ⟨t, rfl⟩ := r3
  exact ⟨.str y, H3, I3, ⟨t, rfl⟩, q3⟩
/-! bool(o) by an own __len__ -/
theorem bool_new (prog : Program) (w : World) (x : Value) : MeetsIn prog w (Builtin.«bool.__new__» ⟨[.type "bool", x], []⟩) (fun A R s => wpAny (model prog w) A.in1 (truthy x) (fun b s' => R (.ok (.ret (.bool b))) s') (fun e s' => R (.error e) s') s) := by
  intro A R s h
  unfold Builtin.«bool.__new__»
  have f1 := PySem.F.conv_sub_bool
  refine wpAny_bind (m := isType (.type "bool")) (wpAny_pure ?_)
  simp only [Bool.not_true, Bool.false_eq_true, if_false]
  refine wpAny_bind (m := isSubtype (.type "bool") (.type "bool")) ?_
  rw [f1]
  refine wpAny_pure ?_
  simp only [Bool.not_true, Bool.false_eq_true, if_false]
  refine wpAny_bind (m := someArgs "bool" 0 1 _) (wpAny_pure ?_)
  exact wpAny_bind (wpAny_mono h (fun b s' z => wpAny_pure z) fun _ _ e => e)
theorem truthy_len {K : PySem.W.Frag} {prog : Program} {w : World} {A : Around} {E : Value → Shared → Prop} {s : Shared} {h₀ : Heap} {L x C f : Addr} {m : Str → Option Value} {ox : Obj} {od : Option Obj} {Q : Bool → Shared → Prop} (F : Fr h₀ L s.heap m) (X₀ : K.In h₀) (I : PySem.W.InstAt s.heap x ox C od)
    (hb : PySem.W.findIn K (.ref C) "__bool__" = some none) (hs : PySem.W.findIn K (.ref C) "__len__" = some (some (.ref f))) (hf : PySem.W.isFn K (.ref f) = true)
    (h : wpAny (model prog w) A.in1 (call (.ref f) [.ref x]) (PySem.W.LenBack (fun v s' => ∃ n t, v = .int n t ∧ Q (n != 0) s')) E s) : wpAny (model prog w) A (truthy (.ref x)) Q E s := by
  have X := X₀.keeps F.keep
  have key : wpAny (model prog w) A (runValue (.builtin "len" ⟨[.ref x], []⟩)) (fun r s' => ∃ n t, r = .int n t ∧ Q (n != 0) s') E s := by
    refine wpAny_runValue (codeAny_builtin entry_len ?_)
    rw [Around.under_plainId plain_len _]
    unfold Builtin.«len»
    refine wpAny_bind (m := oneArg "len" _) (wpAny_pure ?_)
    refine wpAny_bind (m := callSpecial? (.ref x) (Str.ofString "__len__")) (PySem.W.special_fn X I hs (beq_iff_eq.mp hf) (wpAny_mono h (fun r s' hr => ?_) fun _ _ y => y))
    cases r <;> first | exact hr.elim | skip
    rename_i n u
    obtain ⟨⟨h0, h1⟩, hq⟩ := hr
    refine wpAny_bind (wpAny_holding (wpAny_pure ?_))
    refine wpAny_bind (wpAny_letGo ?_)
    show wpAny _ _ (if n < 0 then _ else _) _ _ _
    rw [if_neg (by omega)]
    show wpAny _ _ (if n ≥ 2 ^ 63 then _ else _) _ _ _
    rw [if_neg (by omega)]
    exact wpAny_bind (wpAny_mkInt (wpAny_pure hq))
  unfold truthy
  refine wpAny_bind (m := callSpecial? (.ref x) (Str.ofString "__bool__")) (wpAny_bind (wpAny_bind (I.type.here ((PySem.W.looks_findIn X hb).here (wpAny_pure ?_)))))
  refine wpAny_bind (wpAny_bind (I.type.here ((PySem.W.looks_findIn X hs).here ?_)))
  simp only [Option.isNone_some, Bool.false_eq_true, if_false]
  refine wpAny_bind (wpAny_mono key (fun r s' z => ?_) fun _ _ e => e)
  obtain ⟨n, t, rfl, hq⟩ := z
  exact wpAny_pure hq
def tBoolR (X : Cx) (CX : CXT) (j : Nat) (W : WX) (to : TE) : TE := fun σ H Q => to σ H fun x H1 => ∃ a C f dx fs sp, x = .ref a ∧ H1 a = some (.ins C dx fs) ∧ Cls X.K C ∧ Meth X.K C "__len__" f ∧ PySem.W.findIn X.K (.ref C) "__bool__" = some none ∧ FnG X.prog X.w X.K X.mg X.base CX j f sp ∧
  sp [x] H1 (fun v H2 => ∃ i : Int, v = .int i ∧ 0 ≤ i ∧ i < 2 ^ 63 ∧ Q (.bl (i != 0)) H2) (fun c d H' => W c d σ H')
theorem pe_boolR {o : Expr} {to : TE} {p pos : Pos} (ho : PE X o to) (hr : RoomG X.K X.base (j + 3) X.A) (hx : ∀ σ, PassesAt CX X σ (fun c d H => W c d σ H)) (hg : Gl X "bool") (hm : X.mg "bool" = none) (hn : noStar o = true) : PE X (.Call (.Name "bool" p) [o] [] pos) (tBoolR X CX j W to) := by
  constructor
  intro pins s σ H Q I h
  refine wpAny_Call_Name_kw (ld_blt I hg hm (u := .type "bool") (by decide +kernel) ?_ (by decide) (by decide))
  refine PyProof.Rows.callWith_type1 ?_ (starEach_one hn _ _) rfl
  rw [starEach_one hn]
  refine Calls.spliced_cons (thn (ho.run pins s σ H _ I h) fun u s1 ⟨x, H1, I1, rx, q⟩ => Calls.spliced_nil ?_)
  obtain ⟨a, C, f, dx, fs, sp, rfl, ea, c, hm, hb, F, q⟩ := q
  obtain rfl : u = Value.ref a := rx
  obtain ⟨mA, J, _⟩ := ins_get I1.hok ea
  obtain ⟨od, J, _⟩ := J.look
  obtain ⟨mm, hF⟩ := I1.fr
  refine callType_newIn PySem.F.called_bool PySem.F.newNe_bool (PySem.F.typeCall_bool_1 _) (PySem.F.newCall_bool_1 _) (fun obj => PySem.F.args_object_init_2 obj _) PySem.F.entry_bool_new (bool_new _ _ _) ?_
  refine truthy_len hF I1.ok.mod.kin J hb hm.at_ hm.fn ?_
  refine thn (run_fnR1 (us := [.ref a]) (vs := [.ref a]) (A := X.A.in1.in1.in1) F (hr.in1 (k := j + 2)).in1.in1 rfl (hx σ) I1 (.cons rfl .nil) q) fun w s3 ⟨z, H3, I3, r3, i, ez, h0, h1, q3⟩ => ?_
  subst ez
  obtain ⟨t, rfl⟩ := r3
  exact ⟨⟨h0, h1⟩, i, _, rfl, rfl, .bl (i != 0), H3, I3.tok _, rfl, q3⟩
end
end Lt
/-! str([o]), o an instance with an own __repr__ -/
namespace PySem
open Builtin Builtin.List PySem.Spec PyProof.Rows L2
section
variable {prog : Program} {w : World} {A : Around} {E : Value → Shared → Prop} {s : Shared} {K : PySem.W.Frag} {h₀ : Heap} {L x C f : Addr} {m : Str → Option Value} {ox : Obj} {od : Option Obj}
theorem under_K {b : Nat} {Q : Str → Shared → Prop} (hb : b ≤ sizeLine) (hu : A.units < cLine) (F : Fr h₀ L s.heap m) (X₀ : K.In h₀) (I : PySem.W.InstAt s.heap x ox C od) (hs : PySem.W.findIn K (.ref C) "__repr__" = some (some (.ref f))) (hf : PySem.W.isFn K (.ref f) = true)
    (h : wpAny (model prog w) A (call (.ref f) [.ref x]) (fun v s' => ∃ t u, v = .str t u ∧ Q t s') E s) : wpAny (model prog w) A (pyReprUnder b (.ref x)) Q E s := by
  have X := X₀.keeps F.keep
  refine wpAny_pyReprUnder_ref hb ?_
  unfold pyReprObjUnder pyReprObjBy
  refine wpAny_bind (wpAny_cRoomFor hu ?_)
  refine wpAny_bind (wpAny_bind (I.type.here ((PySem.W.looks_findIn X hs).here ?_)))
  show wpAny _ _ (if (some (Value.ref f)).isNone = true then _ else _) _ _ _
  rw [if_neg (by simp)]
  have fin : wpAny (model prog w) A (call (.ref f) ([.ref x] ++ []) >>= fun v => pure (some v)) (fun o s' => ∃ t u, o = some (.str t u) ∧ Q t s') E s := wpAny_bind (wpAny_mono h (fun v s' ⟨t, u, e, q⟩ => wpAny_pure ⟨t, u, by rw [e], q⟩) fun _ _ h' => h')
  refine wpAny_bind (m := callSpecialIfBoundBy? _ (.ref x) (Str.ofString "__repr__")) (wpAny_mono (Q := fun o s' => ∃ t u, o = some (.str t u) ∧ Q t s') ?_ (fun o s' z => ?_) fun _ _ e => e)
  · simp only [callSpecialIfBoundBy?, bindSpecialIfBound?]
    refine wpAny_holding (wpAny_bind (wpAny_bind (wpAny_bind (I.type.here ((PySem.W.looks_findIn X hs).here ?_)))))
    refine wpAny_bind (wpAny_askSetting (wpAny_ite ?_))
    split
    · exact wpAny_bind ((PySem.W.bind_fn X _ (beq_iff_eq.mp hf)).here (wpAny_pure (by exact fin)))
    · exact wpAny_tryCatch (wpAny_bind ((PySem.W.bind_fn X _ (beq_iff_eq.mp hf)).here (wpAny_pure (by exact fin))))
  · obtain ⟨t, u, rfl, q⟩ := z
    refine wpAny_bind (wpAny_isInstance (typeIs_str _ _ _) isSubtype_str_str ?_)
    exact wpAny_pure ⟨t, u, rfl, q⟩
end
section
variable {prog : Program} {w : World} {A : Around} {R : Result → Shared → Prop}
theorem loop1 {a P : Addr} (hne : a ≠ P) {x : Value} {oa : Obj} {na c : Nat} {s : Shared} (ha : s.heap.get? a = some oa) (hda : oa.data = .seq #[x] na) (hP : s.heap.get? P = some { cls := .type "list", dict := none, data := .seq #[] c, slots := #[] })
    (hrep : wpAny (model prog w) (A.under (.builtin "list.__repr__.loop" ⟨[.ref a, rawInt 0, .ref P, rawInt 0], []⟩)) (pyReprUnder 1 x) (fun t s1 => t.length + 2 ≤ sizeLine ∧ s1.heap.get? a = some oa ∧ s1.heap.get? P = some { cls := .type "list", dict := none, data := .seq #[] c, slots := #[] } ∧
      ∀ h' u tk, (∀ b o, b ≠ P → s1.heap.get? b = some o → h'.get? b = some o) → R (.ok (.ret (.str (listText [t]) u))) { s1 with heap := h', toks := tk }) (fun e s' => R (.error e) s') s) :
    codeAny (model prog w) A (.builtin "list.__repr__.loop" ⟨[.ref a, rawInt 0, .ref P, rawInt 0], []⟩) R s := by
  refine codeAny_builtin F.entry_list_repr_loop ?_
  show wpAny _ _ («list.__repr__.loop» ⟨[.ref a, .int ((0 : Nat) : Int) 0, .ref P, .int ((0 : Nat) : Int) 0], []⟩) _ _ s
  rw [repr_loop_tree]
  refine wpAny_bind (wpAny_listItems ha hda ?_)
  have hsome : (#[x] : Array Value)[((0 : Nat) : Int).toNat]? = some x := rfl
  simp only [hsome]
  refine wpAny_bind (wpAny_holding (wpAny_mono hrep (fun t s1 ⟨hz, ha1, hP1, hR⟩ => ?_) fun _ _ e => e))
  refine wpAny_bind (wpAny_mkStr ?_ (by omega))
  refine wpAny_bind ?_
  show wpAny _ _ (updateSeq P _) _ _ _
  refine wpAny_updateSeq hP1 rfl (wpAny_pure ⟨F.quiet_list_repr_loop _, ?_⟩) (by decide)
  refine codeAny_builtin F.entry_list_repr_loop ?_
  show wpAny _ _ («list.__repr__.loop» ⟨[.ref a, .int (((0 : Nat) : Int) + 1) 0, .ref P, .int (((((0 : Nat) : Int).toNat + (t.length + 2) : Nat)) : Int) 0], []⟩) _ _ _
  rw [repr_loop_tree]
  refine wpAny_bind (wpAny_listItems ((Heap.get?_update_other _ _ (fun h : P = a => hne h.symm)).trans ha1) hda ?_)
  have hnone : (#[x] : Array Value)[(((0 : Nat) : Int) + 1).toNat]? = none := rfl
  simp only [hnone]
  unfold reprEnd
  refine wpAny_bind (wpAny_listItems (Heap.get?_update_self _ hP1 rfl) rfl ?_)
  have hl : (#[].push (Value.str t s1.toks) : Array Value).toList = strValues [(t, s1.toks)] := rfl
  rw [hl, repr_fold]
  refine wpAny_bind (wpAny_pure ?_)
  refine wpAny_bind (wpAny_mkStr (wpAny_pure ?_) ?_)
  · exact hR _ _ _ fun b o hb e => (Heap.get?_update_other _ _ (fun h : P = b => hb h.symm)).trans e
  · have : (listText [t]).length = t.length + 2 := by
      show (("[" : Str) ++ (if 0 > 0 then ", " else "" : String) ++ t ++ "]").length = _
      rw [strLen_append, strLen_append, strLen_append]
      show 1 + 0 + t.length + 1 = _
      omega
    show (listText [t]).length ≤ _
    omega
end
section
variable {prog : Program} {w : World} {A : Around} {E : Value → Shared → Prop} {s : Shared} {Q : Value → Shared → Prop}
theorem list1_repr {a : Addr} {x : Value} {oa : Obj} {na : Nat} {g : List Code} (ha : s.heap.get? a = some oa) (hc : oa.cls = .type "list") (hda : oa.data = .seq #[x] na) (hg : A.guards = some g) (hcl : Clear g a)
    (hrep : wpAny (model prog w) (A.under (.builtin "list.__repr__.loop" ⟨[.ref a, rawInt 0, .ref s.heap.objs.size, rawInt 0], []⟩)) (pyReprUnder 1 x) (fun t s1 => t.length + 2 ≤ sizeLine ∧ s1.heap.get? a = some oa ∧ s1.heap.get? s.heap.objs.size = some { cls := .type "list", dict := none, data := .seq #[] 0, slots := #[] } ∧
      ∀ h' u tk, (∀ b o, b ≠ s.heap.objs.size → s1.heap.get? b = some o → h'.get? b = some o) → Q (.str (listText [t]) u) { s1 with heap := h', toks := tk }) E { s with heap := s.heap.push { cls := .type "list", data := .seq #[] } }) :
    wpAny (model prog w) A (call (.builtin "list.__repr__") [.ref a]) Q E s := by
  refine wpAny_call (codeAny_call_builtin F.slot_list_repr.plain F.entry_list_repr (F.slot_list_repr.check _ _ _ _ _ _ _ _ ⟨oa, ha, hc⟩ (F.args_list_repr_1 _) ?_))
  show wpAny _ _ (Builtin.listReprAt 0 ⟨[.ref a], []⟩) _ _ _
  refine wpAny_list_repr_head (A := A.in1) (x := x) (l := []) hg (fun v rest kw hm => listSameRef_of_ne (hcl _ _ _ _ hm)) ha hda ?_
  refine wpAny_bind (m := newList []) (wpAny_newObj_type ?_)
  refine wpAny_pure ⟨F.quiet_list_repr_loop _, ?_⟩
  exact loop1 (P := s.heap.objs.size) (c := 0) (Nat.ne_of_lt (Heap.lt_size ha)) (Heap.get?_push_of_some _ ha) hda (Heap.get?_push_size _ rfl) hrep
theorem str_newIn (prog : Program) (w : World) (x : Value) : MeetsIn prog w (Builtin.«str.__new__» ⟨[.type "str", x], []⟩) (fun A R s => wpAny (model prog w) A.in1 (Builtin.Str.strOf x) (fun r s' => R (.ok (.ret r)) s') (fun e s' => R (.error e) s') s) := by
  intro A R s h
  rw [str_new_tree x]
  refine wpAny_bind (wpAny_pure ?_)
  refine wpAny_bind (wpAny_of_eq isSubtype_str_str ?_)
  exact wpAny_bind (wpAny_mono h (fun r s' h' => wpAny_pure h') fun _ _ e => e)
end
end PySem
namespace Lt
open PySem PySem.Spec PyProof.Rows L2
theorem restrict2 (h : Heap) (p : Addr → Bool) : ∃ G : Heap, G.objs.size = h.objs.size ∧ (∀ b, p b = true → G.get? b = h.get? b) ∧ ∀ b, p b = false → G.get? b = none := by
  obtain ⟨l, hl⟩ : ∃ l : List Addr, l = (List.range h.objs.size).filter fun b => !p b := ⟨_, rfl⟩
  have m1 : ∀ b, b ∈ l → p b = false := fun b hb => by
    rw [hl] at hb
    have z := (List.mem_filter.mp hb).2
    simpa using z
  have m2 : ∀ b, b < h.objs.size → p b = false → b ∈ l := fun b h1 h2 => by
    rw [hl]
    exact List.mem_filter.mpr ⟨List.mem_range.mpr h1, by simp [h2]⟩
  refine ⟨PySem.W.hideAll h l, PySem.W.hideAll_size _ _, fun b hb => ?_, fun b hb => ?_⟩
  · cases e : h.get? b with
    | some o => exact PySem.W.hideAll_get l e fun hm => by rw [m1 b hm] at hb; cases hb
    | none =>
      cases e2 : (PySem.W.hideAll h l).get? b with
      | none => rfl
      | some o => have := PySem.W.of_hideAll l e2; rw [e] at this; cases this
  · cases e2 : (PySem.W.hideAll h l).get? b with
    | none => rfl
    | some o =>
      have e := PySem.W.of_hideAll l e2
      have := PySem.W.hideAll_none l (h := h) (m2 b (Heap.lt_size e) hb)
      rw [this] at e2; cases e2
theorem loop_depth {A : Around} {args : Args} : (A.under (.builtin "list.__repr__.loop" args)).depth ≤ A.depth + 1 := by
  first | exact Nat.le_refl _ | exact Nat.le_succ _ | simp [Around.under, Code.weight, Code.isCreation, Code.isGuard, Code.isCaller, Code.frames, Code.isFrame, guardIds]
theorem loop_frames {A : Around} {args : Args} : (A.under (.builtin "list.__repr__.loop" args)).frames = A.frames := by
  first | rfl | simp [Around.under, Code.frames, Code.isFrame]
theorem loop_handled {A : Around} {args : Args} : (A.under (.builtin "list.__repr__.loop" args)).handled = A.handled := by
  first | rfl | simp [Around.under]
theorem Room.loop3 {k : Nat} {A : Around} (r : Room (k + 3) A) (args : Args) : Room k (A.in1.in1.in1.under (.builtin "list.__repr__.loop" args)) := by
  have h1 := loop_depth (A := A.in1.in1.in1) (args := args)
  have h2 := units_under_list_loop A.in1.in1.in1 args
  have h3 : A.in1.in1.in1.depth = A.depth := rfl
  have h4 : A.in1.in1.in1.units = A.units + 1 + 1 + 1 := rfl
  have d := r.dp
  have u := r.un
  exact ⟨loop_handled.trans r.hd, by omega, by omega⟩

/-- str([o]) by an own __repr__ of o -/
def tStrL (X : Cx) (CX : CXT) (j : Nat) (W : WX) (to : TE) : TE := fun σ H Q => to σ H fun x H1 => ∃ a C f dx fs sp, x = .ref a ∧ H1 a = some (.ins C dx fs) ∧ Cls X.K C ∧ Meth X.K C "__repr__" f ∧ (∀ base, FnG X.prog X.w X.K X.mg base CX j f sp) ∧
  sp [x] H1 (fun v H2 => ∃ y : Str, v = .str y ∧ y.length + 2 ≤ sizeLine ∧ Q (.str (listText [y])) H2) (fun c d H' => W c d σ H')
section
variable {X : Cx} {W : WX} {CX : CXT} {j : Nat}
theorem mod_base {K : PySem.W.Frag} {mg : Str → Option Value} {base B : Heap} (M : Mod K mg base) (k : ∀ b o, base.get? b = some o → B.get? b = some o) : Mod K mg B := by
  have ns : ∀ {b : Addr} {m : Str → Option Value}, base.Ns b m → B.Ns b m := fun {b m} ⟨o, es, ep, e, d, r⟩ => ⟨o, es, ep, k _ _ e, d, r⟩
  obtain ⟨mb, h1, h2⟩ := M.blt
  obtain ⟨mc, h3, h4⟩ := M.nolimit
  exact ⟨M.kin.keeps k, ns M.glob, ⟨mb, ns h1, h2⟩, ⟨mc, ns h3, h4⟩⟩
theorem pe_strL {o : Expr} {to : TE} {p lp pos : Pos} (ho : PE X o to) (hr : RoomG X.K X.base (j + 3) X.A) (hx : ∀ σ, PassesAt CX X σ (fun c d H => W c d σ H)) (hg : Gl X "str") (hm : X.mg "str" = none) (hn : noStar o = true) : PE X (.Call (.Name "str" p) [.List [o] lp] [] pos) (tStrL X CX j W to) := by
  constructor
  intro pins s σ H Q I h
  refine wpAny_Call_Name_kw (ld_blt I hg hm (u := .type "str") (by decide +kernel) ?_ (by decide) (by decide))
  refine PyProof.Rows.callWith_type1 ?_ (starEach_one (e := .List [o] lp) rfl _ _) rfl
  rw [starEach_one (e := .List [o] lp) rfl]
  refine Calls.spliced_cons (wpAny_List_spliced ?_)
  rw [starEach_one hn]
  refine Calls.spliced_cons (thn (ho.run pins s σ H _ I h) fun u s1 ⟨x, H1, I1, rx, q⟩ => Calls.spliced_nil ⟨by show 1 ≤ _; decide, Calls.spliced_nil ?_⟩)
  obtain ⟨a, C, f, dx, fs, sp, rfl, ea, c, hm, F, q⟩ := q
  obtain rfl : u = Value.ref a := rx
  obtain ⟨hp, g1, d1, t1, os1⟩ := s1
  -- the list
  have hpn : H1 hp.objs.size = none := I1.hok.fresh (Nat.le_refl _)
  have I2 : L2.Inv X pins σ H1 ⟨hp.push { cls := .type "list", data := .seq #[Value.ref a] }, g1, d1, t1, os1⟩ := I1.kept (t' := t1) (fun b o e => Heap.get?_push_of_some _ e)
  obtain ⟨hp2, ep2⟩ : ∃ hp2, hp2 = hp.push { cls := .type "list", data := .seq #[Value.ref a] } := ⟨_, rfl⟩
  have gl : hp2.get? hp.objs.size = some { cls := .type "list", data := .seq #[Value.ref a] } := by rw [ep2]; exact Heap.get?_push_size _ rfl
  have ek : ([Value.ref a] : List Value).toArray = #[Value.ref a] := rfl
  rw [ek]
  rw [← ep2] at I2 ⊢
  refine callType_newIn PySem.F.called_str (by decide) (PySem.F.typeCall_str_1 _) (PySem.F.newCall_str_1 _) (fun obj => PySem.F.args_object_init_2 obj _) PySem.F.entry_str_new (str_newIn _ _ _) ?_
  have un := hr.toRoom.un
  refine PySem.wpAny_strOf_slot (T := "list") (idr := "list.__repr__") rfl (by show X.A.units + 1 + 1 + 1 < cLine; omega) ⟨_, gl, rfl⟩ PySem.F.slot_list_str PySem.F.slot_list_repr.toG ?_
  obtain ⟨g, hg0, hgp⟩ := hr.gd
  refine list1_repr (A := X.A.in1.in1.in1) (g := g) gl rfl rfl hg0 (fun id v rest kw hm' hv => ?_) ?_
  · obtain ⟨⟨o', e'⟩, _⟩ := hgp id v rest kw hm' _ hv
    exact absurd (Heap.lt_size (I1.bs _ _ e').1) (Nat.lt_irrefl _)
  -- the parts' list
  have hP : H1 hp2.objs.size = none := I2.hok.fresh (Nat.le_refl _)
  have fp2 : FpOk X pins H1 hp2.objs.size := I2.fpOk (Nat.le_refl _) hP
  have fp1 : FpOk X pins H1 hp.objs.size := I1.fpOk (Nat.le_refl _) hpn
  obtain ⟨hp3, ep3⟩ : ∃ hp3, hp3 = hp2.push { cls := .type "list", data := .seq #[] } := ⟨_, rfl⟩
  have I3 : L2.Inv X pins σ H1 ⟨hp3, g1, d1, t1, os1⟩ := by rw [ep3]; exact I2.kept (t' := t1) (fun b o e => Heap.get?_push_of_some _ e)
  have gl3 : hp3.get? hp.objs.size = some { cls := .type "list", data := .seq #[Value.ref a] } := by rw [ep3]; exact Heap.get?_push_of_some _ gl
  have gp3 : hp3.get? hp2.objs.size = some { cls := .type "list", dict := none, data := .seq #[] 0, slots := #[] } := by rw [ep3]; exact Heap.get?_push_size _ rfl
  show wpAny _ _ _ _ _ ⟨hp2.push { cls := .type "list", data := .seq #[] }, g1, d1, t1, os1⟩
  rw [← ep3]
  have I4 := I3.pinned (fp := [hp.objs.size, hp2.objs.size]) (fun b hb => by
      rcases List.mem_cons.mp hb with rfl | hb
      · exact fp1
      · rw [List.mem_singleton.mp hb]; exact fp2) (fun b hb => by
      rcases List.mem_cons.mp hb with rfl | hb
      · exact ⟨_, gl3, fun v z => by cases z⟩
      · rw [List.mem_singleton.mp hb]; exact ⟨_, gp3, fun v z => by cases z⟩)
  -- the base for the call
  obtain ⟨B, hB1, hB2, hB3⟩ := restrict2 hp3 fun b => b == hp.objs.size || (X.base.get? b).isSome
  have kB : ∀ b o, X.base.get? b = some o → B.get? b = some o := fun b o e => by
    rw [hB2 b (by rw [e]; simp)]
    exact (I3.bs b o e).1
  have bB : ∀ b o, B.get? b = some o → hp3.get? b = some o ∧ H1 b = none := fun b o e => by
    cases hb : (b == hp.objs.size || (X.base.get? b).isSome) with
    | false => rw [hB3 b hb] at e; cases e
    | true =>
      rw [hB2 b hb] at e
      refine ⟨e, ?_⟩
      rw [Bool.or_eq_true, beq_iff_eq] at hb
      rcases hb with rfl | hb
      · exact hpn
      · obtain ⟨o', e'⟩ := Option.isSome_iff_exists.mp hb
        exact (I3.bs b o' e').2
  have e0 : Env0 X.prog X.w X.K X.mg B ((X.A.in1.in1.in1).under (.builtin "list.__repr__.loop" ⟨[.ref hp.objs.size, rawInt 0, .ref hp2.objs.size, rawInt 0], []⟩)) X.stack ⟨hp3, g1, d1, t1, os1⟩ H1 := by
    have e := I3.env0
    refine ⟨loop_frames.trans e.frames, mod_base e.mod kB, bB, Nat.le_of_eq hB1, funFrames_none e.funs fun L hL => ?_, e.frf, e.hok, e.bare⟩
    obtain ⟨n1, n2, n3, _⟩ := e.funs.mem hL
    refine hB3 L ?_
    rw [Bool.or_eq_false_iff]
    refine ⟨?_, by rw [n1]; rfl⟩
    rw [beq_eq_false_iff_ne]
    rintro rfl
    obtain ⟨_, o1, e1, _⟩ := I1.env0.funs.mem hL
    exact absurd (Heap.lt_size e1) (Nat.lt_irrefl _)
  have hkp : X.K.lookup hp.objs.size = none := by
    cases e : X.K.lookup hp.objs.size with
    | none => rfl
    | some o' => exact absurd (Heap.lt_size (I1.kIn _ _ e)) (Nat.lt_irrefl _)
  have hr4 : RoomG X.K B j ((X.A.in1.in1.in1).under (.builtin "list.__repr__.loop" ⟨[.ref hp.objs.size, rawInt 0, .ref hp2.objs.size, rawInt 0], []⟩)) := by
    refine ⟨Room.loop3 hr.toRoom _, _, guards_under_guard (isGuard_list_loop _) hg0, fun id v rest kw hm' P hv => ?_⟩
    rcases List.mem_cons.mp hm' with e | hm'
    · cases e
      cases hv
      exact ⟨⟨_, (hB2 _ (by simp)).trans gl3⟩, hkp⟩
    · obtain ⟨⟨o', e'⟩, k'⟩ := hgp id v rest kw hm' P hv
      exact ⟨⟨o', kB _ _ e'⟩, k'⟩
  obtain ⟨mA, J, _⟩ := ins_get I3.hok ea
  obtain ⟨od, J, _⟩ := J.look
  obtain ⟨mm, hF⟩ := I3.fr
  refine under_K (b := 1) (by decide) (by have := units_under_list_loop (X.A.in1.in1.in1) ⟨[.ref hp.objs.size, rawInt 0, .ref hp2.objs.size, rawInt 0], []⟩; show Around.units _ < cLine; rw [this]; show X.A.units + 1 + 1 + 1 + 1 < cLine; omega) hF I3.ok.mod.kin J hm.at_ hm.fn ?_
  apply wpAny_call
  refine codeAny_mono (F B _ X.stack _ H1 [.ref a] [.ref a] _ (fun c d H => W c d σ H) hr4 e0 (.cons rfl .nil) q) ?_
  rintro (e | fl) s' hq
  · exact hx σ pins H1 _ e s' I3 hq
  · cases fl with
    | ret u =>
      obtain ⟨v, H2, I5, rv, y, ev, hz, q5⟩ := I4.after hq
      subst ev
      obtain ⟨tk, rfl⟩ := rv
      have pl := I5.pin (hp.objs.size, { cls := .type "list", data := .seq #[Value.ref a] }) (List.mem_append_right _ (List.mem_append_right _ (mem_pinsAt (by simp) gl3)))
      have pp := I5.pin (hp2.objs.size, { cls := .type "list", dict := none, data := .seq #[] 0, slots := #[] }) (List.mem_append_right _ (List.mem_append_right _ (mem_pinsAt (by simp) gp3)))
      refine ⟨y, tk, rfl, hz, pl.1, pp.1, fun h' u tk' hk => ⟨_, _, rfl, typeIs_str _ _ _, .str (listText [y]), H2, ?_, ⟨u, rfl⟩, q5⟩⟩
      obtain ⟨f0, f1, f2, f3, f4, f5⟩ := fp2
      exact (I5.unpinned).turned (t' := tk') hk pp.2.1 f1 f3 f4 f5
    | _ => exact hq.elim
end
end Lt
/-! an own class called by names -/
namespace Lt
open PySem PySem.Spec PyProof.Rows L2
section
variable {X : Cx} {W : WX} {CX : CXT} {j : Nat} {C f : Addr} {fd : FuncData} {ps ks : List Str} {sp : Sp} {g : List Value → List Value → List Value} {gV : List V → List V → List V}
theorem run_mkwS {E : XK} {pins : List (Addr × Obj)} {σ : L2.St} {H : Hp} {s : Shared} {Q : VK} {us ws : List Value} {vs zs : List V} (M : Mk X.K C f) (F : FnOkG X.prog X.w X.K X.mg X.base CX j f fd ps sp) (hb : KBinds X.K fd ps ks g gV) (hr : RoomG X.K X.base (j + 1) X.A) (hx : PassesAt CX X σ E) (I : L2.Inv X pins σ H s)
    (r : Vals vs us) (rz : Vals zs ws) (h : ∀ x dx, H x = none → H dx = none → dx ≠ x → sp (gV (.ref x :: vs) zs) (upd (upd H dx (.own x)) x (.ins C dx [])) (fun v H2 => v = .non ∧ Q (.ref x) H2) E) : wpAny (model X.prog X.w) X.A (call (.ref C) us (ks.zip ws)) (EP X pins σ Q) X.xe s := by
  have J := Inv.made (C := C) I
  have q := h (s.heap.objs.size + 1) s.heap.objs.size (I.hok.fresh (Nat.le_succ _)) (I.hok.fresh (Nat.le_refl _)) (Nat.ne_of_lt (Nat.lt_succ_self _))
  have r1 : Vals (V.ref (s.heap.objs.size + 1) :: vs) (Value.ref (s.heap.objs.size + 1) :: us) := .cons rfl r
  have rr := hb.rel r1 rz
  have len : (g (Value.ref (s.heap.objs.size + 1) :: us) ws).length = ps.length := rr.length.symm.trans (F.len _ _ _ _ q)
  apply wpAny_call
  refine make_map (f := f) I.kIn M.makes M.init (beq_iff_eq.mp M.fn) (codeAny_mono (F.run _ X.stack _ _ ⟨Value.ref (s.heap.objs.size + 1) :: us, ks.zip ws⟩ _ _ _ E (hr.make C us (ks.zip ws)) (J.env0.make C us (ks.zip ws)) (hb.to _ _ ws J.kIn len) rr q) ?_)
  rintro (e | fl) s' hq
  · exact hx pins _ _ e s' J hq
  · cases fl with
    | ret u =>
      obtain ⟨v, H', J', rv, ev, q'⟩ := J.after hq
      subst ev
      exact ⟨rv, V.ref (s.heap.objs.size + 1), H', J', rfl, q'⟩
    | _ => exact hq.elim
def tMkwR (C : Addr) (sp : Sp) (gV : List V → List V → List V) (W : WX) (t tk : TA) : TE := fun σ H Q => t σ H fun vs H1 => tk σ H1 fun zs H2 => ∀ x dx, H2 x = none → H2 dx = none → dx ≠ x → sp (gV (.ref x :: vs) zs) (upd (upd H2 dx (.own x)) x (.ins C dx [])) (fun v H3 => v = .non ∧ Q (.ref x) H3) (fun c d H' => W c d σ H')
theorem pe_mkwR0 {x : Str} {p pos : Pos} {kws : List Keyword} {tk : TA} (M : Mk X.K C f) (F : FnOkG X.prog X.w X.K X.mg X.base CX j f fd ps sp) (hb : KBinds X.K fd ps ks g gV) (hr : RoomG X.K X.base (j + 1) X.A) (hg : Gl X x) (hm : X.mg x = some (.ref C)) (hx : ∀ σ, PassesAt CX X σ (fun c d H => W c d σ H))
    (hkw : PK X kws tk) (hn : kws.map (·.arg) = ks.map some) (hdb : (x == ("__debug__" : Str)) = false) : PE X (.Call (.Name x p) [] kws pos) (tMkwR C sp gV W tNil tk) := by
  constructor
  intro pins s σ H Q I h
  obtain ⟨n1, n2, n3⟩ := kw_all (pos := pos) (env := X.env) hn
  refine wpAny_Call_Name_kw (ld_glob I hg hm ?_ hdb)
  refine PySem.W.callWith_KW0 (h₀ := X.base) I.ok.mod.kin M.kp n1 (thn (hkw.run pos pins s σ H _ I h) ?_) (by rw [n3]; rfl)
  rintro ws s2 ⟨zs, H2, I2, rz, q2⟩
  rw [n2]
  exact ⟨I2.kIn, run_mkwS (us := []) (vs := []) M F hb hr (hx σ) I2 .nil rz q2⟩
theorem pe_mkwR {x : Str} {p pos : Pos} {e : Expr} {es : List Expr} {kws : List Keyword} {t tk : TA} (M : Mk X.K C f) (F : FnOkG X.prog X.w X.K X.mg X.base CX j f fd ps sp) (hb : KBinds X.K fd ps ks g gV) (hr : RoomG X.K X.base (j + 1) X.A) (hg : Gl X x) (hm : X.mg x = some (.ref C)) (hx : ∀ σ, PassesAt CX X σ (fun c d H => W c d σ H))
    (ha : PA X (e :: es) t) (hkw : PK X kws tk) (hn : kws.map (·.arg) = ks.map some) (hdb : (x == ("__debug__" : Str)) = false) (h1 : noStar e = true) (h2 : es.all noStar = true) : PE X (.Call (.Name x p) (e :: es) kws pos) (tMkwR C sp gV W t tk) := by
  constructor
  intro pins s σ H Q I h
  obtain ⟨n1, n2, n3⟩ := kw_all (pos := pos) (env := X.env) hn
  refine wpAny_Call_Name_kw (ld_glob I hg hm ?_ hdb)
  refine PySem.W.callWith_KW (h₀ := X.base) I.ok.mod.kin M.kp n1 (thn (ha.run pos pins s σ H _ I h) ?_) (by rw [n3, starEach_any pos X.env (es := e :: es) (by simp [h1, h2])]; rfl) (starEach_one h1 _ _)
  rintro us s1 ⟨vs, H1, I1, r, q⟩
  refine thn (hkw.run pos pins s1 σ H1 _ I1 q) ?_
  rintro ws s2 ⟨zs, H2, I2, rz, q2⟩
  rw [n2]
  exact ⟨I2.kIn, run_mkwS M F hb hr (hx σ) I2 r rz q2⟩
end
end Lt
/-! own exceptions: making, raising, keeping -/
namespace Lt
open PySem PySem.Spec PyProof.Rows L2
/-! ### the class, looked up -/
def oexB (K : PySem.W.Frag) (C : Addr) : Bool := (match K.lookup C with
  | some ⟨.type "type", _, .cls cd, sl⟩ => (match cd.mro, sl.toList with
    | .ref C' :: bm, [_, _, _, _, some (.builtin n), _] => C' == C && (n == "ValueError.__new__" && (!cd.hasDel && (cd.hasDict && PySem.HandSPX.refsVE bm)))
    | _, _ => false)
  | _ => false) && (decide (PySem.W.findIn K (.ref C) "__setattr__" = some (some (.builtin "object.__setattr__"))) && (decide (PySem.W.subIn K (.ref C) (.type "BaseException") = some true) && (decide (PySem.W.typeIn K (.ref C) = some (.type "type")) && PySem.W.keepIn K (.ref C))))
theorem oexB_ok {K : PySem.W.Frag} {C : Addr} (h : oexB K C = true) : OexC K C := by
  unfold oexB at h
  simp only [Bool.and_eq_true, decide_eq_true_eq] at h
  obtain ⟨h, h1, h2, h3, h4⟩ := h
  refine ⟨?_, h1, h2, h3, h4⟩
  split at h
  · rename_i dd cd sl ho
    split at h
    · rename_i C' bm k0 k1 k2 k3 n k5 hm hs
      simp only [Bool.and_eq_true, beq_iff_eq, Bool.not_eq_true'] at h
      obtain ⟨rfl, rfl, hdel, hdi, ht⟩ := h
      obtain ⟨nm, bs, mro, ns, qn, hd, sn, sub, ab, col, del⟩ := cd
      dsimp only at hm hdel hdi
      subst hm hdel hdi
      have hsl : sl = #[k0, k1, k2, k3, some (.builtin "ValueError.__new__"), k5] := by
        apply Array.toList_inj.mp
        simpa using hs
      subst hsl
      exact ⟨_, _, _, _, _, _, _, _, _, _, _, _, _, _, _, ho, ht⟩
    · cases h
  · cases h
/-! ### __init__ -/
def mNm (m : MC) (i : Nat) (s : Str) : Bool := m.N[i]? == some s && seen m.sc s && !odd s
def mXa (m : MC) : Nat → List Str → List Stmt → Bool
  | _, [], [] => true
  | i, f :: fs, s :: r => (match s with | .Assign [.Attribute (.Name s p) g p'] (.Name x p2) pos => f == g && mNm m 0 s && mNm m i x | _ => false) && mXa m (i + 1) fs r
  | _, _, _ => false
def mXi (m : MC) (fl : List Str) : List Stmt → Bool
  | (.Expr (.Call (.Attribute (.Name v p1) im p2) [.Name s p3, .Constant (.str msg) k p4] [] p5) p6) :: r => v == ("ValueError" : Str) && im == ("__init__" : Str) && glob m.sc v && mNm m 0 s && p2.endLine == p5.line && mXa m 1 fl r
  | _ => false
theorem upd_self {H : Hp} {a : Addr} {o : HO} (h : H a = some o) : upd H a o = H := by
  funext b
  unfold upd
  split
  · rename_i e; rw [e, h]
  · rfl
theorem upd_swap {H : Hp} {a d : Addr} {o u v : HO} (h : d ≠ a) : upd (upd (upd H d u) a o) d v = upd (upd H d v) a o := by
  funext b
  unfold upd
  by_cases e1 : b = d
  · subst e1; simp [h]
  · by_cases e2 : b = a
    · have : a ≠ d := fun z => h z.symm
      subst e2; simp [this]
    · simp [e1, e2]
section
variable {X : Cx} {m : MC}
theorem pe_nm (hN : X.N = m.N) (hs : X.env.scope = m.sc) {i : Nat} {s : Str} {p : Pos} (h : mNm m i s = true) : PE X (.Name s p) (tVar i) := by
  unfold mNm at h
  simp only [Bool.and_eq_true, beq_iff_eq] at h
  obtain ⟨⟨h1, h2⟩, h3⟩ := h
  obtain ⟨o1, o2⟩ := not_odd h3
  refine pe_var (by rw [hN]; exact h1) ?_ o1 o2
  unfold seen at h2
  rw [hs]
  split at h2
  · exact .inl (by assumption)
  · exact .inr (.inl (by assumption))
  · exact .inr (.inr (by assumption))
  · cases h2
theorem xa_run (hN : X.N = m.N) (hs : X.env.scope = m.sc) {C : Addr} (T : OexC X.K C) : ∀ (fl : List Str) (i : Nat) (r : List Stmt), mXa m i fl r = true → (∀ f ∈ fl, PySem.W.findIn X.K (.ref C) f = some none) →
    ∃ t, PSs X r t ∧ ∀ (D : Ends) (σ : L2.St) (H : Hp) (a dx : Addr) (gs : List (Str × V)) (ws : List V), σ[0]? = some (some (V.ref a)) → (∀ j w, ws[j]? = some w → σ[i + j]? = some (some w)) → ws.length = fl.length →
      dx ≠ a → H a = some (exo a C (some dx)) → H dx = some (exd dx gs) → gs.length + fl.length ≤ 900 → D.nx σ (upd H dx (exd dx ((fl.zip ws).reverse ++ gs))) → t D σ H
  | [], i, [], _, _ => ⟨tNext, pss_nil, fun D σ H a dx gs ws _ _ hl _ _ h2 _ q => by
    have : ws = [] := List.length_eq_zero_iff.mp hl
    subst this
    simp only [List.zip_nil_left, List.reverse_nil, List.nil_append] at q
    rw [upd_self h2] at q
    exact q⟩
  | [], _, _ :: _, h, _ => by simp [mXa] at h
  | _ :: _, _, [], h, _ => by simp [mXa] at h
  | f :: fl, i, s :: r, h, hno => by
    simp only [mXa, Bool.and_eq_true] at h
    obtain ⟨h1, h2⟩ := h
    obtain ⟨t, ht, hq⟩ := xa_run hN hs T fl (i + 1) r h2 fun g hg => hno g (List.mem_cons_of_mem _ hg)
    split at h1
    case h_2 => cases h1
    rename_i s p g p' x p2 pos
    simp only [Bool.and_eq_true, beq_iff_eq] at h1
    obtain ⟨⟨rfl, h3⟩, h4⟩ := h1
    refine ⟨_, pss_cons (ps_ost (f := f) (pe_nm hN hs h3) (pe_nm hN hs h4) (by rfl)) ht, fun D σ H a dx gs ws e0 ew hl hne ha hd hz q => ?_⟩
    rcases ws with _ | ⟨w, ws⟩
    · simp at hl
    have hw : σ[i]? = some (some w) := by simpa using ew 0 w rfl
    refine ⟨w, hw, .ref a, e0, a, C, rfl, T, hno f List.mem_cons_self, .inr ⟨dx, gs, ha, hd, by simp at hz; omega, ?_⟩⟩
    refine hq D σ _ a dx ((f, w) :: gs) ws e0 (fun j v e => by rw [Nat.add_assoc, Nat.add_comm 1 j]; exact ew (j + 1) v (by simpa using e)) (by simpa using hl) hne (by rw [upd_ne (Ne.symm hne)]; exact ha) upd_same (by simp at hz ⊢; omega) ?_
    rw [upd_upd]
    simpa using q
theorem PSs.cons_inv {X : Cx} {s : Stmt} {r : List Stmt} {t : TS} {u : TS} (h : PS X s t) (k : PSs X r u) : PSs X (s :: r) (tSeq t u) := pss_cons h k
theorem xi_run (hN : X.N = m.N) (hs : X.env.scope = m.sc) (hm : X.mg "ValueError" = none) (vV : PySem.W.findCls X.K (.type "ValueError") (.type "type") "__init__" = some (.val (.builtin "ValueError.__init__"))) {C : Addr} (T : OexC X.K C) {fl : List Str} {r : List Stmt} (h : mXi m fl r = true) (h0 : 0 < fl.length) (h9 : fl.length ≤ 100) (hno : ∀ f ∈ fl, PySem.W.findIn X.K (.ref C) f = some none) :
    ∃ t, PSs X r t ∧ ∀ (D : Ends) (σ : L2.St) (H : Hp) (a : Addr) (ws : List V), σ[0]? = some (some (V.ref a)) → (∀ j w, ws[j]? = some w → σ[1 + j]? = some (some w)) → ws.length = fl.length →
      H a = some (exo a C none) → (∀ dx, H dx = none → dx ≠ a → D.nx σ (upd (upd H dx (exd dx (fl.zip ws).reverse)) a (exo a C (some dx)))) → t D σ H := by
  unfold mXi at h
  split at h
  case h_2 => cases h
  rename_i v p1 im p2 s p3 msg k p4 p5 p6 r
  simp only [Bool.and_eq_true] at h
  obtain ⟨⟨⟨⟨⟨h1, h2⟩, h3⟩, h4⟩, h5⟩, h6⟩ := h
  have h1 := eq_of_beq h1
  have h2 := eq_of_beq h2
  subst h1 h2
  rcases fl with _ | ⟨f, fl⟩
  · simp at h0
  rcases r with _ | ⟨s1, r⟩
  · simp [mXa] at h6
  simp only [mXa, Bool.and_eq_true] at h6
  obtain ⟨h7, h8⟩ := h6
  split at h7
  case h_2 => cases h7
  rename_i s2 q1 g q2 x q3 q4
  simp only [Bool.and_eq_true, beq_iff_eq] at h7
  obtain ⟨⟨rfl, g1⟩, g2⟩ := h7
  have hg : Gl X "ValueError" := by
    unfold Lt.glob at h3
    show X.env.scope.names.lookup _ = _
    rw [hs]
    split at h3
    · assumption
    · cases h3
  obtain ⟨t, ht, hq⟩ := xa_run hN hs T fl (1 + 1) r h8 fun g hg => hno g (List.mem_cons_of_mem _ hg)
  have ev : PE X (.Call (.Attribute (.Name "ValueError" p1) "__init__" p2) [.Name s p3, .Constant (.str msg) k p4] [] p5) (tVeI X.K _) :=
    pe_veinit (ta := _) hg hm vV (pa_cons (pe_nm hN hs h4) (pa_cons pe_str pa_nil)) (meth_ev rfl rfl (by show 2 < 20; omega) h5) (by rfl) (by rfl)
  refine ⟨_, pss_cons (ps_expr ev (by rfl)) (pss_cons (ps_ost (f := f) (pe_nm hN hs g1) (pe_nm hN hs g2) (by rfl)) ht), fun D σ H a ws e0 ew hl ha q => ?_⟩
  rcases ws with _ | ⟨w, ws⟩
  · simp at hl
  have hw : σ[1]? = some (some w) := by simpa using ew 0 w rfl
  refine ⟨.ref a, e0, a, C, [.str msg], rfl, by show 1 ≤ 1000; omega, T, ha, ?_⟩
  refine ⟨w, hw, .ref a, e0, a, C, rfl, T, hno f List.mem_cons_self, .inl ⟨ha, fun dx hd hne => ?_⟩⟩
  refine hq D σ _ a dx [(f, w)] ws e0 (fun j v e => by
    have := ew (j + 1) v (by simpa using e)
    rw [show 1 + 1 + j = 1 + (j + 1) by omega]; exact this) (by simpa using hl) hne upd_same (by rw [upd_ne hne]; exact upd_same) (by simp at h9 ⊢; omega) ?_
  rw [upd_swap hne]
  simpa using q dx hd hne
end
theorem init_ok {P : Program} {w : World} {K : PySem.W.Frag} {mg : Str → Option Value} {base : Heap} {x qual : Str} {params : Arguments} {body : List Stmt} {scope : Scope} {kws : List (Str × V)} {fI : Addr} {fd : FuncData} {N : List Str} {C : Addr} {fl : List Str} (F : FunD K x qual params body scope [] kws fI fd)
    (S : FnScope N N scope) (hl : N.length = fl.length + 1) (h : mXi ⟨N, scope, fun _ => true, true⟩ fl body = true) (X : XcK K C fl) (hm : mg "ValueError" = none) : FnOk P w K mg base (L2.CX P w) 1 fI fd N (spXi C fl) := by
  refine F.ok S (fun vs H Q E ⟨a, ws, e, hw, _⟩ => by rw [e, List.length_cons, hw, hl]) fun cdv A outer s H vs Q E hr ⟨a, ws, e, hw, ha, q⟩ => ?_
  obtain ⟨t, ht, hq⟩ := xi_run (X := cxOf (L2.CX P w) P w K mg base N qual scope fI cdv A outer s H E) (m := ⟨N, scope, fun _ => true, true⟩) rfl rfl hm X.vV X.oex h X.fl1 X.fl2 X.no
  refine ⟨t, ht, ?_⟩
  subst e
  have hst : L2.start N (.ref a :: ws) = some (.ref a) :: ws.map some := by
    unfold L2.start
    have : N.length - (V.ref a :: ws).length = 0 := by simp [hl, hw]
    rw [this]; simp
  refine hq _ _ H a ws (by rw [hst]; rfl) (fun j v e => ?_) hw ha fun dx hd hne => q dx hd hne
  rw [hst, Nat.add_comm, List.getElem?_cons_succ, List.getElem?_map, e]; rfl
end Lt
/-! a try whose exception is kept -/
namespace Lt
open PySem PySem.Spec PyProof.Rows L2
theorem xoE_ok {P : Program} {w : World} {H : Hp} {h : Heap} {a : Addr} {oe : Obj} {vs : Array Value} (e : h.get? a = some oe) (d : oe.data = .fields vs) : ObjOk P w H h a (XoE a oe.cls oe.dict) :=
  ⟨⟨oe, vs, e, rfl, rfl, d⟩, ⟨oe, e⟩, fun _ _ ⟨o, v, q, r⟩ k => ⟨o, v, k o q, r⟩⟩
theorem xoE_at {P : Program} {w : World} {H : Hp} {h : Heap} {a : Addr} {cls : Value} {d : Option Addr} (hok : HOk P w H h) (e : H a = some (XoE a cls d)) : ∃ (oe : Obj) (vs : Array Value), h.get? a = some oe ∧ oe.cls = cls ∧ oe.dict = d ∧ oe.data = .fields vs :=
  (show ObjOk P w H h a (XoE a cls d) from hok a _ e).1
section
variable {X : Cx} {pins : List (Addr × Obj)} {σ : L2.St} {H : Hp} {s : Shared}
theorem Inv.track (I : L2.Inv X pins σ H s) {a : Addr} {oe : Obj} {vs : Array Value} (na : H a = none) (he : s.heap.get? a = some oe) (hd : oe.data = .fields vs) (nL : a ≠ X.env.locals) (n0 : X.s_0.heap.get? a = none) (np : ∀ p ∈ X.pn ++ pins, p.1 ≠ a) :
    L2.Inv X pins σ (upd H a (XoE a oe.cls oe.dict)) s := by
  have ne0 : ∀ b o, X.s_0.heap.get? b = some o → b ≠ a := fun b o e z => by rw [z, n0] at e; cases e
  refine ⟨I.ok, I.os, I.bare, ⟨I.base.keep, I.base.slot, fun b o e n hx => by rw [upd_ne (ne0 b o e)]; exact I.base.free b o e n hx, I.base.there, fun b xs e => ?_, fun b o u e => ?_, fun b ps e => ?_⟩, I.loc, I.cell, by rw [upd_ne (Ne.symm nL)]; exact I.free, fun x c e => ?_, fun p hp => ?_, fun b u e => ?_, I.len⟩
  · have q := I.base.tups b xs e
    rw [upd_ne (ne_of_none q na)]; exact q
  · have q := I.base.frzs b o u e
    rw [upd_ne (ne_of_none q na)]; exact q
  · obtain ⟨m, q⟩ := I.base.tbls b ps e
    exact ⟨m, by rw [upd_ne (ne_of_none q na)]; exact q⟩
  · have hc : c ≠ a := fun z => by
      obtain ⟨v, o, ho, hv⟩ := I.cell x c e
      rw [z, he] at ho
      cases ho
      rw [hd] at hv
      cases hv
    rw [upd_ne hc]; exact I.freeC x c e
  · obtain ⟨e, n, ne, nf, d⟩ := I.pin p hp
    exact ⟨e, by rw [upd_ne (np p hp)]; exact n, ne, nf, d⟩
  · by_cases hb : b = a
    · subst hb
      rw [upd_same] at e
      cases e
      exact xoE_ok he hd
    · rw [upd_ne hb] at e
      exact (I.hok b u e).stay (fun c v _ q => q) (fun c q => by rw [upd_ne (ne_of_none q na)]; exact q) fun c xs q => by rw [upd_ne (ne_of_none q na)]; exact q
end
/-- the context of an except suite -/
abbrev Xs (X : Cx) (a : Addr) : Cx := { X with A := X.A.mark (some (.ref a)), calm := false, xe := fun _ _ => False }
section
variable {X : Cx} {pins : List (Addr × Obj)} {σ : L2.St} {H : Hp} {s : Shared}
theorem okXs (ok : X.Ok) (a : Addr) : (Xs X a).Ok :=
  ⟨ok.mod, ok.kind, ok.glob, ok.blt, ok.above, ok.inj, ok.has, ok.cab, (fun z => absurd (show false = true from z) Bool.false_ne_true), ok.frames, ok.stk, ok.exf, ok.bs, ok.bsz, ok.noex, ok.exfs, ok.funs, ok.frf⟩
theorem Inv.toXs (I : L2.Inv X pins σ H s) (a : Addr) : L2.Inv (Xs X a) pins σ H s :=
  ⟨okXs I.ok a, I.os, I.bare, I.base, I.loc, I.cell, I.free, I.freeC, I.pin, I.hok, I.len⟩
theorem Inv.ofXs {a : Addr} (I : L2.Inv (Xs X a) pins σ H s) (ok : X.Ok) : L2.Inv X pins σ H s :=
  ⟨ok, I.os, I.bare, I.base, I.loc, I.cell, I.free, I.freeC, I.pin, I.hok, I.len⟩
end
/-- behind a suite: the clause's name goes -/
def clrD (oi : Option Nat) (D : Ends) : Ends := match oi with
  | none => D
  | some i => { nx := fun σ' H' => D.nx (σ'.set i none) H', rt := D.rt, bk := fun σ' H' => D.bk (σ'.set i none) H', ct := fun σ' H' => D.ct (σ'.set i none) H' }
def putS (oi : Option Nat) (σ : L2.St) (a : Addr) : L2.St := match oi with | some i => σ.set i (some (.ref a)) | none => σ
abbrev Clz : Type := List (Value × Option Nat × (Addr → Value → Option Addr → TS))
/-- what the clauses wish of an exception of the body, one after the other -/
def wTm (K : PySem.W.Frag) (Wout : WX) (D : Ends) : Clz → WX
  | [] => Wout
  | (c, oi, ts) :: r => fun cls d σ H => ∃ b, PySem.W.exmOne K cls c = some b ∧ (b = true → ∀ a, H a = none → ts a cls d (clrD oi D) (putS oi σ a) (upd H a (XoE a cls d))) ∧ (b = false → wTm K Wout D r cls d σ H)
/-- a clause's name -/
def NmOk (X : Cx) : Option Nat → Option Str → Prop
  | none, none => True
  | some i, some n => X.N[i]? = some n ∧ X.env.kindOf n = some .local
  | _, _ => False
inductive HdT (X : Cx) : List ExceptHandler → Clz → Prop
  | nil : HdT X [] []
  | cons {x : Str} {c : Value} {oi : Option Nat} {nm : Option Str} {ts : Addr → Value → Option Addr → TS} {b₀ : Stmt} {suite : List Stmt} {np pos' : Pos} {hds : List ExceptHandler} {l : Clz} (hc : Names X x c) (hn : NmOk X oi nm)
      (hsu : ∀ (a : Addr) (cls : Value) (d : Option Addr), PSs (Xs X a) (b₀ :: suite) (ts a cls d)) (r : HdT X hds l) : HdT X (.ExceptHandler (some (.Name x np)) nm (b₀ :: suite) pos' :: hds) ((c, oi, ts) :: l)
section
variable {X : Cx} {h₀ : ExceptHandler} {hds : List ExceptHandler} {body : List Stmt} {l : Clz} {pos : Pos} {tb : WX → TS} {Wout : WX}
theorem ps_try_trk (hs : X.stack = X.env :: X.outer) (hf : X.env.frame = some X.env.locals) (hex : X.ex = []) (hN : X.N.Nodup) (tk : Takes X Wout)
    (hb : ∀ (W : WX) (pn : List (Addr × Obj)) (xe : Value → Shared → Prop), Takes (X.tr pn xe) W → PassesOwn (model X.prog X.w) X.A X.env xe → PSs (X.tr pn xe) body (tb W))
    (hh : HdT X (h₀ :: hds) l) : PS X (.Try body (h₀ :: hds) [] [] pos) (fun D σ H => tb (wTm X.K Wout D l) D σ H) := by
  refine ⟨fun pins s σ H D I h => ?_⟩
  have ok := I.ok
  have hfr : X.A.frames = some (X.env :: X.outer) := by rw [ok.frames, hs]
  refine wpAny_Try_except ?_
  refine wpAny_mono ((hb (wTm X.K Wout D l) (X.pn ++ pins) (fun e s₁ => wpAny (model X.prog X.w) X.A (noteFrame e X.env) (fun _ s₂ => wpAny (model X.prog X.w) X.A (setFlight e none) (fun _ s₃ =>
    wpAny (model X.prog X.w) X.A (handleBy e X.env (h₀ :: hds)) (SP X pins D) X.xe s₃) X.xe s₂) X.xe s₁) (fun u s' xx => ?_) PassesOwn.looking).run [] s σ H D (I.toTry _) h) (fun f s1 hsp => ?_) (fun e s1 he => he)
  · -- the catch
    obtain ⟨a, B, sI, pins', σ', H', cls, d, rfl, J', nb, up, sky, na, os, ag, wish⟩ := xx
    have J : L2.Inv X pins σ' H' sI := J'.ofTry ok
    have sky' : Sky B (X.env :: X.outer) a (Zc cls d) X.env.locals s'.heap := by rw [← hs]; exact sky
    show wpAny (model X.prog X.w) X.A (noteFrame (.ref a) X.env) _ _ _
    refine Sky.land Zc.steady hfr hf sky' fun h3 fl3 up3 => ?_
    have J3 : L2.Inv X pins σ' H' { s' with heap := h3 } := J.landed nb fl3.1 (up.trans up3) os ag
    obtain ⟨oe3, vs3, he3, hz3, hd3⟩ := fl3.there
    have notFr : ∀ {h : Heap} {o : Obj} {vs : Array Value}, h.FunFrames B (X.env :: X.outer) → h.get? a = some o → o.data = .fields vs → a ∉ frs (X.env :: X.outer) := fun {h o vs} ff e dd hm => by
      obtain ⟨_, o', e', hnf⟩ := ff.mem hm
      rw [e] at e'; cases e'
      exact hnf _ dd
    have nfr := notFr fl3.2.2.1 he3 hd3
    have nL : a ≠ X.env.locals := fun z => nfr (List.mem_filterMap.mpr ⟨X.env, List.mem_cons_self, by rw [hf, z]⟩)
    have nF : a ∉ X.fs := fun hm => by
      obtain ⟨e, he, q⟩ := List.mem_filterMap.mp hm
      exact nfr (List.mem_filterMap.mpr ⟨e, List.mem_cons_of_mem _ he, q⟩)
    have nB : B.get? a = none := fl3.2.1
    have nI : sI.heap.get? a = none := by
      cases q : sI.heap.get? a with
      | none => rfl
      | some o =>
        have z := nb a o q (by rw [hs]; exact nfr)
        rw [nB] at z; cases z
    have n0 : X.s_0.heap.get? a = none := by
      cases q : X.s_0.heap.get? a with
      | none => rfl
      | some o =>
        obtain ⟨o', z⟩ := J.base.there a o q (by rw [hex]; simp)
        rw [nI] at z; cases z
    have nps : ∀ p ∈ X.pn ++ pins, p.1 ≠ a := fun p hp z => by
      obtain ⟨e, _⟩ := J.pin p hp
      rw [z, nI] at e; cases e
    have S3 := J3.suite he3 hd3 na nL nF
    have go : ∀ {hds' : List ExceptHandler} {l' : Clz}, HdT X hds' l' → wTm X.K Wout D l' cls d σ' H' → wpAny (model X.prog X.w) X.A (handleBy (.ref a) X.env hds') (SP X pins D) X.xe { s' with heap := h3 } := by
      intro hds' l' hk
      induction hk with
      | nil =>
        intro w
        refine wpAny_handleBy_nil ?_
        obtain ⟨k1, k2, k3, oe, vs, T, oT, ts', he, hz, hd, h1, hr⟩ := id fl3
        unfold PySem.passOn
        refine wpAny_bind (wpAny_field he hd h1 ?_)
        rw [if_neg (show ¬ ((Value.ref T == Value.none) = true) from by simp)]
        have fin : wpAny (model X.prog X.w) X.A (setFlight (.ref a) X.env.frame) (fun _ s4 => wpAny (model X.prog X.w) X.A (throw (.ref a) : Sem Flow) (SP X pins D) X.xe s4) X.xe { s' with heap := h3 } := by
          rw [hf]
          refine HandSPX.setFlight_upZ fl3 fun h4 hh4 up4 => wpAny_throw (tk _ _ ?_)
          exact ⟨a, B, sI, pins, σ', H', cls, d, rfl, J, nb, (up.trans up3).trans up4, .inr (.inr (by rw [hs]; exact hh4)), na, os, ag, w⟩
        first
          | exact wpAny_bind (wpAny_pure (wpAny_bind fin))
          | exact wpAny_bind fin
      | @cons x c oi nm ts b₀ suite np pos' hds2 l2 hc hn hsu r ih =>
        intro w
        obtain ⟨b, hb1, hyes, hno⟩ := w
        refine wpAny_handleBy_cons (codeAny_handlers_test ?_) (by intro q; cases q)
        have LT : PySem.W.Looks (model X.prog X.w) h3 (typeOf (.ref a)) cls := fun A Q E s k q => wpAny_typeOf_ref (k _ _ he3) (by rw [hz3.1]; exact q)
        have LM := PySem.W.exm_one (M := model X.prog X.w) (J3.kIn) LT hb1
        have test : ∀ {Q : Value → Shared → Prop} {E : Value → Shared → Prop}, Q c { s' with heap := h3 } → wpAny (model X.prog X.w) (X.A.mark (some (.ref a))) (eval (.Name x np) X.env) Q E { s' with heap := h3 } := fun {Q E} q => by
          obtain ⟨hg, hdbg, hm | ⟨hm, hv, hnn⟩⟩ := hc
          · exact ld_glob (X := X.suite a ((a, oe3) :: (X.pn ++ pins))) S3 hg hm q hdbg
          · exact ld_blt (X := X.suite a ((a, oe3) :: (X.pn ++ pins))) S3 hg hm hv q hnn hdbg
        refine test (LM.here ?_)
        have trk : ∀ (h4 : Heap), HandSPX.FlyingZ B (X.env :: X.outer) a (Zc cls d) h4 → h3.UpToSlots h4 → L2.Inv (Xs X a) pins σ' (upd H' a (XoE a cls d)) { s' with heap := h4 } := fun h4 fl4 up4 => by
          have J4 : L2.Inv X pins σ' H' { s' with heap := h4 } := J.landed nb fl4.1 ((up.trans up3).trans up4) os ag
          obtain ⟨oe4, vs4, he4, hz4, hd4⟩ := fl4.there
          have J5 := Inv.track J4 na he4 hd4 nL n0 nps
          rw [hz4.1, hz4.2] at J5
          exact Inv.toXs J5 a
        cases b with
        | true =>
          have q0 := hyes rfl a na
          cases oi with
          | some i =>
            cases nm with
            | none => exact hn.elim
            | some n =>
              obtain ⟨hi, hln⟩ := hn
              have hloc : Loc X.env.scope n := .inl hln
              refine codeAny_handlers_suite_as ?_
              refine HandSPX.lands_againZ fl3 fun h4 fl4 up4 => ?_
              refine store_ok (X := Xs X a) (v := .ref a) (trk h4 fl4 up4) hN hi hloc rfl (fun s5 S5 => ?_) (.inr hln)
              refine wpAny_mono ((hsu a cls d).run pins s5 _ _ _ S5 q0) (fun f s6 hsp => ?_) (fun _ _ z => False.elim z)
              have end_ : ∀ {σ6 : L2.St} {H6 : Hp} {Q : Shared → Prop}, L2.Inv (Xs X a) pins σ6 H6 s6 → (∀ s7, L2.Inv X pins (σ6.set i none) H6 s7 → Q s7) →
                  wpAny (model X.prog X.w) X.A (do bindName X.env n .none; unbindBehindTheSuite X.env n pos') (fun _ s7 => Q s7) X.xe s6 := fun {σ6 H6 Q} S6 hq => gone_ok (Inv.ofXs S6 ok) hN hi hln hq
              cases f with
              | next =>
                obtain ⟨σ6, H6, S6, q6⟩ := hsp
                exact end_ S6 fun s7 J7 => ⟨_, _, J7, q6⟩
              | brk =>
                obtain ⟨σ6, H6, S6, q6⟩ := hsp
                exact end_ S6 fun s7 J7 => ⟨_, _, J7, q6⟩
              | cont =>
                obtain ⟨σ6, H6, S6, q6⟩ := hsp
                exact end_ S6 fun s7 J7 => ⟨_, _, J7, q6⟩
              | ret u =>
                obtain ⟨v6, σ6, H6, S6, r6, q6⟩ := hsp
                exact end_ S6 fun s7 J7 => ⟨_, _, _, J7, r6, q6⟩
          | none =>
            cases nm with
            | some n => exact hn.elim
            | none =>
              refine codeAny_handlers_suite ?_
              refine HandSPX.lands_againZ fl3 fun h4 fl4 up4 => ?_
              refine wpAny_mono ((hsu a cls d).run pins _ _ _ _ (trk h4 fl4 up4) q0) (fun f s6 hsp => ?_) (fun _ _ z => False.elim z)
              cases f with
              | next =>
                obtain ⟨σ6, H6, S6, q6⟩ := hsp
                exact ⟨_, _, Inv.ofXs S6 ok, q6⟩
              | brk =>
                obtain ⟨σ6, H6, S6, q6⟩ := hsp
                exact ⟨_, _, Inv.ofXs S6 ok, q6⟩
              | cont =>
                obtain ⟨σ6, H6, S6, q6⟩ := hsp
                exact ⟨_, _, Inv.ofXs S6 ok, q6⟩
              | ret u =>
                obtain ⟨v6, σ6, H6, S6, r6, q6⟩ := hsp
                exact ⟨_, _, _, Inv.ofXs S6 ok, r6, q6⟩
        | false =>
          show wpAny _ X.A (handleBy (.ref a) X.env hds2) _ _ _
          exact ih (hno rfl)
    exact go hh wish
  · cases f with
    | next =>
      obtain ⟨σ', H', J', q⟩ := hsp
      exact wpAny_execs_nil ⟨σ', H', J'.ofTry ok, q⟩
    | brk =>
      obtain ⟨σ', H', J', q⟩ := hsp
      exact ⟨σ', H', J'.ofTry ok, q⟩
    | cont =>
      obtain ⟨σ', H', J', q⟩ := hsp
      exact ⟨σ', H', J'.ofTry ok, q⟩
    | ret u =>
      obtain ⟨v, σ', H', J', r, q⟩ := hsp
      exact ⟨v, σ', H', J'.ofTry ok, r, q⟩
end
/-! ### a kept exception's fields, its class -/
section
variable {X : Cx} {pins : List (Addr × Obj)} {σ : L2.St} {H : Hp} {s : Shared}
def tXg (K : PySem.W.Frag) (f : Str) (te : TE) : TE := fun σ H Q => te σ H fun x H1 => ∃ (a C dd : Addr) (fs : List (Str × V)) (v : V), x = .ref a ∧ H1 a = some (XoE a (.ref C) (some dd)) ∧ XfC K C ∧ PySem.W.findIn K (.ref C) f = some none ∧ H1 dd = some (.xd fs) ∧ fs.lookup f = some v ∧ Q v H1
theorem pe_xg {e : Expr} {te : TE} {pos : Pos} {n : Str} (he : PE X e te) (hb : attributeBase e n X.env (eval e X.env) = eval e X.env) : PE X (.Attribute e n pos) (tXg X.K n te) := by
  refine ⟨fun pins s σ H Q I h => ?_⟩
  refine attr_of hb (thn (he.run pins s σ H _ I h) fun u s1 hh => ?_)
  obtain ⟨x, H1, I1, rx, a, C, dd, fs, v, ex, ea, T, hno, ed, l, q⟩ := hh
  subst ex
  obtain rfl : u = Value.ref a := rx
  obtain ⟨oe, vs, ha, hz1, hz2, hd⟩ := xoE_at I1.hok ea
  have hx : ObjOk X.prog X.w H1 s1.heap dd (.xd fs) := I1.hok dd _ ed
  obtain ⟨mA, hns, hr⟩ := hx
  obtain ⟨od, ho, hl⟩ := lookIn_ns hns
  obtain ⟨u, hu, ru⟩ := RelO.some_of (v := v) (o := mA n) (by rw [← l]; exact hr n)
  have J : PySem.W.InstAt s1.heap a oe C (some od) := ⟨ha, hz1, by unfold PySem.W.notCls; rw [hd] <;> rfl, by rw [hz2]; exact ho⟩
  exact HandSPX.exc_get I1.kIn J T.ga T.gg T.exC (PySem.W.findObj_own T.hdC hno rfl (by rw [hl, hu])) (handed_of ru) ⟨v, H1, I1.tok _, ru, q⟩
/-- isinstance(x, c), x a kept exception -/
def rIsiX (K : PySem.W.Frag) : List V → Hp → VK → Prop := fun xs H Q => ∃ (a C dd : Addr) (fs fl : List (Str × V)) (fn : List Str) (c : V) (u : Value) (b : Bool), xs = [.ref a, c] ∧ ClsV c u ∧ H a = some (XoE a (.ref C) (some dd)) ∧ H dd = some (.xd fs) ∧ XcK K C fn ∧ PySem.W.kitOne K (.ref C) u = some b ∧ Q (.bl b) H
def rIsiXT (K : PySem.W.Frag) : List V → Hp → VK → Prop := fun xs H Q => ∃ (a C dd : Addr) (fs : List (Str × V)) (fn : List Str) (tp : Addr) (cs : List V) (us : List Value) (b : Bool), xs = [.ref a, .ref tp] ∧ H tp = some (.tup cs) ∧ Paired ClsV cs us ∧ H a = some (XoE a (.ref C) (some dd)) ∧ H dd = some (.xd fs) ∧ XcK K C fn ∧ PySem.W.kitAny K (.ref C) us = some b ∧ Q (.bl b) H
theorem kit_xo (I : L2.Inv X pins σ H s) {a C dd : Addr} {fs : List (Str × V)} {fn : List Str} (ea : H a = some (XoE a (.ref C) (some dd))) (ed : H dd = some (.xd fs)) (T : XcK X.K C fn) : ∃ P : Heap → Prop, PySem.W.KitX X.K (.ref a) (.ref C) P ∧ P s.heap := by
  obtain ⟨oe, vs, ha, hz1, hz2, hd⟩ := xoE_at I.hok ea
  have hx : ObjOk X.prog X.w H s.heap dd (.xd fs) := I.hok dd _ ed
  obtain ⟨mA, hns, hr⟩ := hx
  obtain ⟨od, ho, hl⟩ := lookIn_ns hns
  have J : PySem.W.InstAt s.heap a oe C (some od) := ⟨ha, hz1, by unfold PySem.W.notCls; rw [hd] <;> rfl, by rw [hz2]; exact ho⟩
  exact ⟨_, PySem.W.kitx_exc T.cl T.xf.ga T.xf.gg T.xf.exC T.ca T.cn T.ct T.cm, J⟩
theorem call_isiX : CallR X (.builtin "isinstance") (rIsiX X.K) := by
  intro pins s σ H xs us Q I r h
  obtain ⟨a, C, dd, fs, _, fn, c, u, b, rfl, k, ea, ed, T, e, q⟩ := h
  obtain ⟨u1, u2, rfl, r1, r2⟩ := vals2 r
  have e2 := k.eq r2
  subst e2
  cases (show u1 = Value.ref a from r1)
  obtain ⟨P, Z, p⟩ := kit_xo I ea ed T
  exact PySem.W.kia_one Z I.kIn p e (fun z => nomatch z) fun tk => ⟨.bl b, H, I.tok tk, rfl, q⟩
theorem call_isiXT : CallR X (.builtin "isinstance") (rIsiXT X.K) := by
  intro pins s σ H xs us Q I r h
  obtain ⟨a, C, dd, fs, fn, tp, cs, ws, b, rfl, hT, k, ea, ed, T, e, q⟩ := h
  obtain ⟨u1, u2, rfl, r1, r2⟩ := vals2 r
  cases (show u2 = Value.ref tp from r2)
  cases (show u1 = Value.ref a from r1)
  obtain ⟨P, Z, p⟩ := kit_xo I ea ed T
  obtain ⟨_, its, rv, o, h1, h2, n, h3⟩ := (show ObjOk X.prog X.w H s.heap tp (.tup cs) from I.hok tp _ hT)
  have e3 := ClsV.all k rv
  subst e3
  obtain ⟨oc, od, dt, sl⟩ := o
  simp only at h2 h3
  subst h2 h3
  exact PySem.W.kia_tup Z I.kIn p h1 e (fun z => nomatch z) fun tk => ⟨.bl b, H, I.tok tk, rfl, q⟩
end
end Lt
/-! expressions: the program does what the small language says -/
namespace Lt
open PySem L2
def isBO : Expr → Bool | .BoolOp .. => true | _ => false
section
variable {X : Cx} {ad : Ad} {G : Gt} {W : WX} {k : Nat} {cal : Cal} {m : MC}
/-- what is shown of one expression -/
structure Tri (X : Cx) (ad : Ad) (G : Gt) (W : WX) (cal : Cal) (e : Lt.E) (x : Expr) : Prop where
  pe : PE X x (tE X.K ad G W (fun τ S => den G cal e τ S))
  pt : PT X x (tT X.K ad G W (fun τ S => tst G cal e τ S))
  pw : isBO x = true → PW X x (tT X.K ad G W (fun τ S => tst G cal e τ S))
theorem Tri.of {e : Lt.E} {x : Expr} (h : plainTest x = true) (pe : PE X x (tE X.K ad G W (fun τ S => den G cal e τ S))) : Tri X ad G W cal e x := by
  refine ⟨pe, PT.imp (pt_truth pe (test_plain h X.env)) fun σ H Q hh => ?_, fun z => ?_⟩
  · refine tB1 (r := fun x H' Q => ∃ k, TruV X.K x H' k ∧ Q k H') hh fun w τ a v s rt ra ok => ?_
    obtain ⟨b, e1, ok⟩ := ok.of
    exact ⟨b, tru_rel s ra e1, ok.ret rfl s⟩
  · cases x <;> first | (cases z; done) | (cases h; done)
theorem allStar : ∀ {es : List Lt.E} {xs : List Expr}, mEs G m es xs = true → xs.all noStar = true ∧ es.length = xs.length
  | [], [], _ => ⟨rfl, rfl⟩
  | [], _ :: _, h => by simp [mEs] at h
  | _ :: _, [], h => by simp [mEs] at h
  | e :: es, x :: xs, h => by
    have h' : (noStar x = true ∧ mE G m e x = true) ∧ mEs G m es xs = true := by simpa [mEs] using h
    obtain ⟨h1, h2⟩ := allStar h'.2
    exact ⟨by simp [h'.1.1]; simpa using h1, by simp [h2]⟩
theorem PW.imp {X : Cx} {e : Expr} {t t' : TT} (h : PW X e t) (k : ∀ σ H Q, t' σ H Q → t σ H Q) : PW X e t' := ⟨fun wh pins s σ H Q I q => h.run wh pins s σ H Q I (k _ _ _ q)⟩
theorem boot_bi : ∀ b : Bi, bootBuiltins (biN b) = some (biV b) := by
  intro b; cases b <;> first | decide +kernel | (rename_i f; cases f <;> decide +kernel)
theorem boot_ty (t : Ty) (h : bt t = true) : bootBuiltins (tyNm t) = some (.type (tyN t)) := by
  cases t <;> first | (cases h; done) | decide +kernel
theorem bi_odd : ∀ b : Bi, (biN b ≠ "__name__") ∧ (biN b == ("__debug__" : Str)) = false := by
  intro b; cases b <;> first | decide +kernel | (rename_i f; cases f <;> decide +kernel)
theorem ty_odd (t : Ty) (h : bt t = true) : (tyNm t ≠ "__name__") ∧ (tyNm t == ("__debug__" : Str)) = false ∧ bltN.contains (tyNm t) = true := by
  cases t <;> first | (cases h; done) | decide +kernel
/-- a built-in function, called -/
theorem s_bi (F : Fx X ad G W k cal m) (hcalm : m.calm = true) {b : Bi} {p pos : Pos} {e : Expr} {es : List Expr} {t : TA} (hg : glob m.sc (biN b) = true) (hc : bltN.contains (biN b) = true) (ha : PA X (e :: es) t) (h1 : noStar e = true) (h2 : es.all noStar = true) :
    PE X (.Call (.Name (biN b) p) (e :: es) [] pos) (tCB (rBi X.K ad G b) t) := by
  have hr := callR_bi (X := X) (ad := ad) (G := G) (F.calm hcalm) (F.room hcalm).gd (by have := F.un; omega) b
  have hm := F.st.blt _ hc
  have hv := boot_bi b
  obtain ⟨o1, o2⟩ := bi_odd b
  have hgl := F.glob hg
  cases b <;> first
    | exact pe_callB hr hgl hm hv ha o1 o2 (starEach_one h1 _ _) (starEach_any pos X.env h2)
    | exact pe_callTy hr hgl hm hv ha o1 o2 (starEach_one h1 _ _) (starEach_any pos X.env h2)

/-! ### the cases -/
theorem frz_ok {K : PySem.W.Frag} {w : Wd} {E : XK} {Q : VK} {r : R A} (h : okR K ad G Q E w (r.bind fun a S1 => match a with
    | .ref n => match S1[n]? with
      | some (.lst xs) => .ok (.lst xs) (S1.set n .dead)
      | _ => .no
    | _ => .no)) : okR K ad G Q E w r := by
  cases r with
  | ok a S =>
    intro w' v e l s ra
    cases a <;> first | exact (h : False).elim | skip
    rename_i n
    cases hS : S[n]? with
    | none => simp only [R.bind_ok, hS] at h; exact h.elim
    | some o =>
      cases o <;> simp only [R.bind_ok, hS] at h <;> first | exact (h : False).elim | skip
      rename_i xs
      obtain ⟨p, e1, rfl⟩ := relA_ref ra
      have e2 : w'.S[n]? = some (.lst xs) := by rw [e]; exact hS
      exact h ⟨w'.ms, w'.S.set n .dead, w'.H, w'.hid⟩ _ (by rw [e]) (l.trans (Le.freeze s)) (RelS.freeze s) (frozen s e1 e2)
  | ex c fs S => exact h
  | no => exact h.elim
theorem unitsOk {X : Cx} {W : WX} {m : MC} (F : Fx X ad G W k cal m) : X.A.units + 66 < cLine := by have := F.un; omega
theorem tst_frz (e : Lt.E) {w : Wd} {τ : Tau} {K : PySem.W.Frag} {E : XK} {Q : Bool → Hp → Prop} (h : okB K ad G Q E w (tst G cal (.frz e) τ w.S)) : okB K ad G Q E w (tst G cal e τ w.S) := by
  have h : okB K ad G Q E w (((den G cal e τ w.S).bind fun a S1 => match a with
    | .ref n => match S1[n]? with
      | some (.lst xs) => .ok (.lst xs) (S1.set n .dead)
      | _ => .no
    | _ => .no).bind fun x S1 => R.of (truO S1 x) S1) := h
  unfold tst
  cases hd : den G cal e τ w.S with
  | ok a S =>
    rw [hd] at h
    cases a <;> first | exact (h : False).elim | skip
    rename_i n
    cases hS : S[n]? with
    | none => simp only [R.bind_ok, hS] at h; exact (h : False).elim
    | some o =>
      cases o <;> simp only [R.bind_ok, hS] at h <;> first | exact (h : False).elim | skip
      rename_i xs
      simp only [R.bind_ok, truO, hS, R.of_some] at h ⊢
      intro w' e l s
      exact h ⟨w'.ms, w'.S.set n .dead, w'.H, w'.hid⟩ (by rw [e]) (l.trans (Le.freeze s)) (RelS.freeze s)
  | ex c fs S => rw [hd] at h; exact h
  | no => rw [hd] at h; exact h.elim
/-- an expression that gives a bool, as a test -/
theorem tst_bl {K : PySem.W.Frag} {σ : L2.St} {H : Hp} {Q : Bool → Hp → Prop} {mm : Tau → List O → R A} (hb : ∀ τ S a S', mm τ S = .ok a S' → ∃ k, a = .bl k) (h : tT K ad G W (fun τ S => (mm τ S).bind fun x S1 => R.of (truO S1 x) S1) σ H Q) :
    tE K ad G W mm σ H (fun x H' => ∃ k, x = .bl k ∧ Q k H') := by
  obtain ⟨w, τ, e, s, rt, h⟩ := h
  have h : okB K ad G Q (fun c d H' => W c d σ H') w ((mm τ w.S).bind fun x S1 => R.of (truO S1 x) S1) := h
  refine ⟨w, τ, e, s, rt, ?_⟩
  cases hd : mm τ w.S with
  | ok a S =>
    obtain ⟨k, rfl⟩ := hb _ _ _ _ hd
    rw [hd] at h
    intro w' v e l s ra
    cases relA_bl ra
    exact ⟨k, rfl, h w' e l s⟩
  | ex c fs S => rw [hd] at h; exact h
  | no => rw [hd] at h; exact h.elim
theorem of_bl {o : Option Bool} {S S' : List O} {a : A} (h : R.of (o.map .bl) S = .ok a S') : ∃ k, a = .bl k := by
  cases o with
  | none => cases h
  | some k => cases h; exact ⟨k, rfl⟩
theorem bind_ok {α β : Type} {r : R α} {f : α → List O → R β} {b : β} {S : List O} (h : r.bind f = .ok b S) : ∃ a S1, r = .ok a S1 ∧ f a S1 = .ok b S := by
  cases r with
  | ok a S1 => exact ⟨a, S1, rfl, h⟩
  | ex c fs S => cases h
  | no => cases h
theorem cmp_bl {op : CmpOp} {a b : Lt.E} (τ : Tau) (S : List O) (x : A) (S' : List O) (h : den G cal (.cmp op a b) τ S = .ok x S') : ∃ k, x = .bl k := by
  obtain ⟨_, S1, _, h⟩ := bind_ok (show ((den G cal a τ S).bind _) = .ok x S' from h)
  obtain ⟨_, S2, _, h⟩ := bind_ok h
  exact of_bl h
theorem cmpI_bl {neg : Bool} {a b : Lt.E} (τ : Tau) (S : List O) (x : A) (S' : List O) (h : den G cal (.cmpI neg a b) τ S = .ok x S') : ∃ k, x = .bl k := by
  obtain ⟨u, S1, _, h⟩ := bind_ok (show ((den G cal a τ S).bind _) = .ok x S' from h)
  obtain ⟨v, S2, _, h⟩ := bind_ok h
  cases u <;> first | (cases h; done) | skip
  simp only at h
  split at h
  case h_2 => cases h
  split at h
  case isFalse => cases h
  split at h
  case h_2 => cases h
  split at h
  case h_2 => cases h
  obtain ⟨z, S3, _, h⟩ := bind_ok h
  cases z <;> first | (cases h; done) | skip
  cases h
  exact ⟨_, rfl⟩
theorem chn_bl {p q : CmpOp} {a b c : Lt.E} (τ : Tau) (S : List O) (x : A) (S' : List O) (h : den G cal (.chn p q a b c) τ S = .ok x S') : ∃ k, x = .bl k := by
  obtain ⟨_, S1, _, h⟩ := bind_ok (show ((den G cal a τ S).bind _) = .ok x S' from h)
  obtain ⟨_, S2, _, h⟩ := bind_ok h
  split at h
  · obtain ⟨_, S2, _, h⟩ := bind_ok h
    exact of_bl h
  · cases h; exact ⟨_, rfl⟩
  · cases h
theorem chn_ok {K : PySem.W.Frag} {p q : CmpOp} {a b c : Lt.E} {σ : L2.St} {H : Hp} {Q : VK} (h : tE K ad G W (fun τ S => den G cal (.chn p q a b c) τ S) σ H Q) :
    tChain (rCmp K ad p) (rCmp K ad q) (tE K ad G W (fun τ S => den G cal a τ S)) (tE K ad G W (fun τ S => den G cal b τ S)) (tE K ad G W (fun τ S => den G cal c τ S)) σ H Q := by
  obtain ⟨w, τ, e, s, rt, h⟩ := h
  refine ⟨w, τ, e, s, rt, okR.bindR (f := fun x S1 => (den G cal b τ S1).bind fun y S2 => match cmpO p x y S2 with
    | some true => (den G cal c τ S2).bind fun z S3 => R.of ((cmpO q y z S3).map .bl) S3
    | some false => .ok (.bl false) S2
    | none => .no) h fun w1 x v l1 s1 r1 h => ?_⟩
  refine ⟨w1, τ, rfl, s1, rt.mono l1.mo, okR.bindR h fun w2 y u l2 s2 r2 h => ?_⟩
  have r1 := r1.mono l2.mo
  split at h
  · rename_i e1
    refine ⟨w2, x, y, true, rfl, s2, r1, r2, e1, true, rfl, ?_⟩
    rw [if_pos rfl]
    refine ⟨w2, τ, rfl, s2, (rt.mono l1.mo).mono l2.mo, okR.bindR h fun w3 z t l3 s3 r3 h => ?_⟩
    obtain ⟨c, e1, ok⟩ := h.of
    obtain ⟨kk, e2, rfl⟩ := Option.map_eq_some_iff.mp e1
    exact ⟨w3, y, z, kk, rfl, s3, r2.mono l3.mo, r3, e2, ok.ret rfl s3 bl_rel⟩
  · rename_i e1
    refine ⟨w2, x, y, false, rfl, s2, r1, r2, e1, false, rfl, ?_⟩
    rw [if_neg (by decide)]
    exact h.ret rfl s2 bl_rel
  · exact h.elim
/-- the arguments, as many as are written, then the rest -/
theorem tA1L {K : PySem.W.Frag} {σ : L2.St} {H : Hp} {es : List Lt.E} {f : List A → Tau → List O → R A} {Q : VK} {r : List V → Hp → VK → Prop} (h : tE K ad G W (fun τ S => (dens G cal es τ S).bind fun a S1 => f a τ S1) σ H Q)
    (kk : ∀ w τ a v, RelS K ad.cls w → RelT K w τ σ → RelAs K w a v → a.length = es.length → okR K ad G Q (fun c d H' => W c d σ H') w (f a τ w.S) → r v w.H Q) : tL K ad G W (fun τ S => dens G cal es τ S) σ H fun x H1 => r x H1 Q := by
  obtain ⟨w, τ, e', s, t, h⟩ := h
  have h : okR K ad G Q (fun c d H' => W c d σ H') w ((dens G cal es τ w.S).bind fun a S1 => f a τ S1) := h
  refine ⟨w, τ, e', s, t, ?_⟩
  show okA K ad G _ _ w (dens G cal es τ w.S)
  cases hd : dens G cal es τ w.S with
  | ok a S1 =>
    rw [hd] at h
    intro w1 v eS l s1 ra
    exact kk w1 τ a v s1 (t.mono l.mo) ra (dens_len hd) (by rw [eS]; exact h.at l)
  | ex c fs S => rw [hd] at h; exact h
  | no => rw [hd] at h; exact h.elim
/-- the values of keywords -/
theorem tKs {X : Cx} {W : WX} : ∀ {ws : List Lt.E} {kws : List Keyword}, Paired (fun e x => PE X x (tE X.K ad G W (fun τ S => den G cal e τ S))) ws (kws.map (·.value)) → PK X kws (tL X.K ad G W (fun τ S => dens G cal ws τ S))
  | [], [], _ => ⟨fun pos pins s σ H Q I h => pk_nil.run pos pins s σ H Q I (by
      obtain ⟨w, τ, rfl, s, rt, ok⟩ := h
      exact ok w [] rfl (Le.refl w) s RelAs.nil)⟩
  | [], _ :: _, h => by cases h
  | _ :: _, [], h => by cases h
  | e :: ws, ⟨nm, x, p⟩ :: kws, h => by
    cases h with
    | cons h1 h2 =>
      refine ⟨fun pos pins s σ H Q I h => (pk_cons h1 (tKs h2)).run pos pins s σ H Q I ?_⟩
      obtain ⟨w, τ, rfl, s, rt, ok⟩ := h
      refine ⟨w, τ, rfl, s, rt, okR.bindA ok fun w1 a v l s1 ra ok1 => ?_⟩
      refine ⟨w1, τ, rfl, s1, rt.mono l.mo, okA.bindA ok1 fun w2 b u l2 s2 rb ok2 => ?_⟩
      exact ok2 w2 (v :: u) rfl (Le.refl w2) s2 (RelAs.cons (ra.mono l2.mo) rb)
theorem small_list : (100000 : Nat) ≤ sizeLine := by decide
/-- a slice's part: left out, or one expression -/
def Prt (K : PySem.W.Frag) (ad : Ad) (G : Gt) (W : WX) (cal : Cal) (es : List Lt.E) (t : TO) : Prop := (es = [] ∧ t = tNoPart) ∨ ∃ e, es = [e] ∧ t = tPart (tE K ad G W (fun τ S => den G cal e τ S))
theorem Prt.run {K : PySem.W.Frag} {es : List Lt.E} {t : TO} (p : Prt K ad G W cal es t) {w : Wd} {τ : Tau} {σ : L2.St} {Q : VK} {Q' : Option Int → Hp → Prop} {f : Option Int → List O → R A} (s : RelS K ad.cls w) (rt : RelT K w τ σ)
    (h : okR K ad G Q (fun c d H' => W c d σ H') w ((dens G cal es τ w.S).bind fun ls S2 => match partO ls with | none => .no | some l => f l S2))
    (k : ∀ w' o, Le w w' → RelS K ad.cls w' → okR K ad G Q (fun c d H' => W c d σ H') w' (f o w'.S) → Q' o w'.H) : t σ w.H Q' := by
  rcases p with ⟨rfl, rfl⟩ | ⟨e, rfl, rfl⟩
  · exact k w none (Le.refl w) s h
  · have h : okR K ad G Q (fun c d H' => W c d σ H') w ((den G cal e τ w.S).bind fun x S1 => match partO [x] with | none => .no | some l => f l S1) := by
      have e1 : ((dens G cal [e] τ w.S).bind fun ls S2 => match partO ls with | none => .no | some l => f l S2) = ((den G cal e τ w.S).bind fun x S1 => match partO [x] with | none => .no | some l => f l S1) := by
        show (((den G cal e τ w.S).bind _).bind _) = _
        cases den G cal e τ w.S <;> rfl
      rw [← e1]; exact h
    refine ⟨w, τ, rfl, s, rt, okR.bindR h fun w1 x v l1 s1 rx h1 => ?_⟩
    cases x <;> first | exact (h1 : False).elim | skip
    rename_i i
    cases relA_int rx
    exact ⟨i, rfl, k w1 (some i) l1 s1 h1⟩
theorem bm_facts (b : Bm) : PlainAttrs (bmT b) ∧ Slot (bmT b) (bmN b) (bmI b) ∧ typeOf (.builtin (bmI b)) = pure (.type "method_descriptor") := by
  cases b
  · exact ⟨F.plainAttrs_list, F.slot_list_append, F.type_list_append⟩
  · exact ⟨F.plainAttrs_list, F.slot_list_pop, F.type_list_pop⟩
  · exact ⟨F.plainAttrs_list, F.slot_list_clear, F.type_list_clear⟩
  · exact ⟨F.plainAttrs_list, F.slot_list_index, F.type_list_index⟩
  · exact ⟨F.plainAttrs_str, F.slot_str_join, F.type_str_join⟩
  · exact ⟨F.plainAttrs_dict, F.slot_dict_get, F.type_dict_get⟩
  · exact ⟨F.plainAttrs_dict, F.slot_dict_update, F.type_dict_update⟩
  · exact ⟨F.plainAttrs_list, F.slot_list_insert, F.type_list_insert⟩
  · exact ⟨F.plainAttrs_list, F.slot_list_extend, F.type_list_extend⟩
theorem fewOk {es : List Expr} (h : es.all noStar = true) (hl : es.length < 20) (pos : Pos) (env : Env) : ((backTo pos (starEach es env)).all (fun x => !x.1) && (backToKw pos (keywordEach [] env)).all (fun x => x.1.isSome)
      && decide (es.length + ([] : List Keyword).length + (if ([] : List Keyword).isEmpty then 0 else 1) < 30)) = true := by
  rw [starEach_all pos env h]
  have : decide (es.length + ([] : List Keyword).length + (if ([] : List Keyword).isEmpty then 0 else 1) < 30) = true := by
    rw [decide_eq_true_eq]; simp; omega
  rw [this]; rfl
theorem s_bm0 {X : Cx} {W : WX} {m : MC} (F : Fx X ad G W k cal m) {b : Bm} {x : Expr} {apos pos : Pos} {to : TE} (ho : PE X x to) (hb : plainBase x = true) (hline : (apos.endLine == pos.line) = true) :
    PE X (.Call (.Attribute x (bmN b) apos) [] [] pos) (tBM0 X.K (bmT b) (rBm X.K ad G b) to) := by
  obtain ⟨f1, f2, f3⟩ := bm_facts b
  exact pe_bm0 f1 f2 f3 (mtr_bm (X := X) (ad := ad) (G := G) (unitsOk F) b) ho (base_plain hb _ _ _) hline
theorem s_bm {X : Cx} {W : WX} {m : MC} (F : Fx X ad G W k cal m) {b : Bm} {x e : Expr} {es : List Expr} {apos pos : Pos} {to : TE} {t : TA} (ho : PE X x to) (ha : PA X (e :: es) t) (hb : plainBase x = true) (hline : (apos.endLine == pos.line) = true) (hl : (e :: es).length < 20) (hs : (e :: es).all noStar = true) :
    PE X (.Call (.Attribute x (bmN b) apos) (e :: es) [] pos) (tBM X.K (bmT b) (rBm X.K ad G b) to t) := by
  obtain ⟨f1, f2, f3⟩ := bm_facts b
  have hs' : noStar e = true ∧ es.all noStar = true := by simpa using hs
  exact pe_bm f1 f2 f3 (mtr_bm (X := X) (ad := ad) (G := G) (unitsOk F) b) ho ha (base_plain hb _ _ _) (fewOk hs hl pos X.env) hline (starEach_one hs'.1 _ _) (starEach_any pos X.env hs'.2)
theorem tE_mono {K : PySem.W.Frag} {m : Tau → List O → R A} {σ : L2.St} {H : Hp} {Q Q' : VK} (h : ∀ v H, Q v H → Q' v H) (t : tE K ad G W m σ H Q) : tE K ad G W m σ H Q' := by
  obtain ⟨w, τ, a, b, c, ok⟩ := t
  refine ⟨w, τ, a, b, c, ?_⟩
  cases hm : m τ w.S with
  | ok x S => rw [hm] at ok; exact fun w' v e l s r => h _ _ (ok w' v e l s r)
  | ex c fs S => rw [hm] at ok; exact ok
  | no => rw [hm] at ok; exact ok
theorem exr_mono {K : PySem.W.Frag} {w w' : Wd} (m : Mo w w') (hH : w'.H = w.H) {c : Nat} {fs : List A} {cv : Value} {d : Option Addr} (h : ExR K ad G w c fs cv d) : ExR K ad G w' c fs cv d := by
  obtain ⟨h1, h2⟩ := h
  obtain ⟨dd, ws, ci, a, b, c, e⟩ := h2
  refine ⟨h1, ?_⟩
  exact ⟨dd, ws, ci, a, b.mono m, c, Paired.mapP e fun _ _ z => ⟨z.1, z.2.mono m⟩⟩
/-! ### displays of dicts -/
def kVA : A → V
  | .str x => .str (mkS x)
  | .int i => .int i
  | _ => .non
/-- a key of a display -/
def KOk (k : A) : Prop := (∃ kk, keyOf k = some kk ∧ kVA k = kV kk) ∧ okKey k
theorem keys_ok {X : Cx} : ∀ {ks : List Lt.E} {keys : List (Option Expr)}, mKs ks keys = true → ∃ kA, keysC ks = some kA ∧ kA.length = keys.length ∧ (∀ k ∈ kA, KOk k) ∧ keys.all (·.isSome) = true ∧ ks.length = keys.length ∧
    ∀ values : List Expr, Paired (fun (k : A) (x : Option Expr) => ∃ y, x = some y ∧ PE X y (tC (kVA k))) kA keys
  | [], [], _ => ⟨[], rfl, rfl, fun k h => (by cases h), rfl, rfl, fun _ => Paired.nil⟩
  | [], _ :: _, h => by simp [mKs] at h
  | _ :: _, [], h => by simp [mKs] at h
  | e :: ks, x :: keys, h => by
    have h' : mK e x = true ∧ mKs ks keys = true := by simpa [mKs] using h
    obtain ⟨kA, e1, e2, e3, e4, e5, e6⟩ := keys_ok (X := X) h'.2
    have one : ∃ k, constK e = some k ∧ KOk k ∧ ∃ y, x = some y ∧ PE X y (tC (kVA k)) := by
      have hk := h'.1
      unfold mK at hk
      split at hk
      · rename_i x y _ _
        simp only [Bool.and_eq_true, beq_iff_eq, decide_eq_true_eq, List.all_eq_true] at hk
        obtain ⟨⟨rfl, g1⟩, g2⟩ := hk
        exact ⟨.str x, rfl, ⟨⟨_, rfl, rfl⟩, ⟨Nat.le_trans g1 small_list, g2⟩⟩, _, rfl, pe_str⟩
      · rename_i i j _ _
        have : i = j := by simpa using hk
        subst this
        exact ⟨.int i, rfl, ⟨⟨_, rfl, rfl⟩, trivial⟩, _, rfl, pe_int⟩
      · cases hk
    obtain ⟨k, k1, k2, y, rfl, k3⟩ := one
    refine ⟨k :: kA, by simp only [keysC, k1, e1], by simp [e2], fun z hz => ?_, (by rw [List.all_cons, e4]; rfl), by simp [e5], fun values => .cons ⟨y, rfl, k3⟩ (e6 values)⟩
    rcases List.mem_cons.mp hz with rfl | hz
    · exact k2
    · exact e3 z hz
theorem pps_of {X : Cx} {W : WX} {pos : Pos} : ∀ {kA : List A} {keys : List (Option Expr)} {vs : List Lt.E} {values : List Expr}, Paired (fun (k : A) (x : Option Expr) => ∃ y, x = some y ∧ PE X y (tC (kVA k))) kA keys →
    Paired (fun e x => PE X x (tE X.K ad G W (fun τ S => den G cal e τ S))) vs values → kA.length = vs.length → PPs X pos keys values (List.zipWith (fun k e => (tC (kVA k), tE X.K ad G W (fun τ S => den G cal e τ S))) kA vs)
  | _, _, _, _, .nil, .nil, _ => pps_nil
  | _, _, _, _, .nil, .cons _ _, h => by simp at h
  | _, _, _, _, .cons _ _, .nil, h => by simp at h
  | _, _, _, _, .cons ⟨y, e, p⟩ t, .cons q u, h => by
    subst e
    exact pps_cons p q (pps_of t u (by simpa using h))
theorem tPairs_mono {σ : L2.St} {K : PySem.W.Frag} : ∀ (kA : List A) (vs : List Lt.E) (H : Hp) {Q Q' : List (V × V) → Hp → Prop}, (∀ ps H, Q ps H → Q' ps H) →
    tPairs (List.zipWith (fun k e => (tC (kVA k), tE K ad G W (fun τ S => den G cal e τ S))) kA vs) σ H Q → tPairs (List.zipWith (fun k e => (tC (kVA k), tE K ad G W (fun τ S => den G cal e τ S))) kA vs) σ H Q'
  | [], vs, H, Q, Q', h, t => by
    have e : List.zipWith (fun k e => (tC (kVA k), tE K ad G W (fun τ S => den G cal e τ S))) ([] : List A) vs = [] := by simp
    rw [e] at t ⊢
    exact h _ _ t
  | k :: kA, [], H, Q, Q', h, t => h _ _ t
  | k :: kA, e :: vs, H, Q, Q', h, t => tE_mono (fun v H t => tPairs_mono kA vs H (fun ps H q => h _ _ q) t) t
theorem pairs_run {K : PySem.W.Frag} {σ : L2.St} : ∀ (kA : List A) (vs : List Lt.E) (w : Wd) (τ : Tau) (Q : List V → Hp → Prop), kA.length = vs.length → RelS K ad.cls w → RelT K w τ σ → okA K ad G Q (fun c d H' => W c d σ H') w (dens G cal vs τ w.S) →
    tPairs (List.zipWith (fun k e => (tC (kVA k), tE K ad G W (fun τ S => den G cal e τ S))) kA vs) σ w.H fun ps H2 => ∃ us, ps = List.zipWith (fun k v => (kVA k, v)) kA us ∧ us.length = kA.length ∧ Q us H2
  | [], [], w, τ, Q, _, s, rt, ok => ⟨[], rfl, rfl, ok w [] rfl (Le.refl w) s RelAs.nil⟩
  | [], _ :: _, _, _, _, h, _, _, _ => by simp at h
  | _ :: _, [], _, _, _, h, _, _, _ => by simp at h
  | k :: kA, e :: vs, w, τ, Q, hl, s, rt, ok => by
    refine ⟨w, τ, rfl, s, rt, okR.bindA ok fun w1 a v l1 s1 ra ok1 => ?_⟩
    have ok2 : okA K ad G (fun us H2 => Q (v :: us) H2) (fun c d H' => W c d σ H') w1 (dens G cal vs τ w1.S) := okA.bindA ok1 fun w2 b u l2 s2 rb ok2 => ok2 w2 (v :: u) rfl (Le.refl w2) s2 (RelAs.cons (ra.mono l2.mo) rb)
    have ih := pairs_run kA vs w1 τ _ (by simpa using hl) s1 (rt.mono l1.mo) ok2
    refine tPairs_mono _ _ _ (fun ps H2 hh => ?_) ih
    obtain ⟨us, rfl, hu, q⟩ := hh
    exact ⟨v :: us, rfl, by simp [hu], q⟩
theorem merge_rel {K : PySem.W.Frag} {w : Wd} : ∀ {kA xs : List A} {us : List V} {acc : List (A × A)} {ws : List (Key × V)}, (∀ k ∈ kA, KOk k) → RelAs K w xs us → kA.length = xs.length →
    Paired (fun (p : A × A) (q : Key × V) => keyOf p.1 = some q.1 ∧ okKey p.1 ∧ RelA K w p.2 q.2) acc ws →
    ∃ kvs : List (Key × V), List.zipWith (fun k v => (kVA k, v)) kA us = kvs.map (fun kv => (kV kv.1, kv.2)) ∧ kvs.length = kA.length ∧ Paired (fun (p : A × A) (q : Key × V) => keyOf p.1 = some q.1 ∧ okKey p.1 ∧ RelA K w p.2 q.2) ((kA.zip xs).foldl (fun acc p => putO acc p.1 p.2) acc) (mergeK ws kvs)
  | [], xs, us, acc, ws, hk, r, hl, h => ⟨[], by simp, rfl, h⟩
  | k :: kA, [], us, acc, ws, hk, r, hl, h => by simp at hl
  | k :: kA, x :: xs, us, acc, ws, hk, r, hl, h => by
    simp only [RelAs] at r
    obtain ⟨v, us', rfl, r1, r2⟩ := r
    obtain ⟨⟨kk, e1, e2⟩, o⟩ := hk k List.mem_cons_self
    obtain ⟨kvs, e3, e4, e5⟩ := merge_rel (kA := kA) (xs := xs) (us := us') (acc := putO acc k x) (ws := putK ws kk v) (fun z hz => hk z (List.mem_cons_of_mem _ hz)) r2 (by simpa using hl) (putO_put (f := keyOf) (fun h1 h2 => eqv_key h1 h2) e1 o r1 h)
    exact ⟨(kk, v) :: kvs, by simp [e3, e2], by simp [e4], e5⟩
theorem disp_ok {X : Cx} {W : WX} {ks vs : List Lt.E} {kA : List A} {keys : List (Option Expr)} {w : Wd} {τ : Tau} {σ : L2.St} {Q : VK} (e1 : keysC ks = some kA) (e2 : kA.length = keys.length) (okk : ∀ k ∈ kA, KOk k) (hl : kA.length = vs.length) (s : RelS X.K ad.cls w) (rt : RelT X.K w τ σ)
    (ok : okR X.K ad G Q (fun c d H' => W c d σ H') w ((dens G cal vs τ w.S).bind fun xs S1 => match keysC ks with
      | some keys => if keys.length ≤ 15 ∧ keys.length = xs.length then .ok (.ref S1.length) (S1 ++ [.dic false (mergeO (keys.zip xs))]) else .no
      | none => .no)) : tDisp (List.zipWith (fun k e => (tC (kVA k), tE X.K ad G W (fun τ S => den G cal e τ S))) kA vs) σ w.H Q := by
  intro p hp
  have nh : p ∉ w.hid := fun z => by
    obtain ⟨_, o, q⟩ := s.hid p z
    rw [hp] at q; cases q
  have b0 : Blt w (w.hide p (.dK [])) p := Blt.start hp
  have okA' : okA X.K ad G (fun us H2 => H2 p = some (.dK []) ∧ ∃ kvs : List (Key × V), List.zipWith (fun k v => (kVA k, v)) kA us = kvs.map (fun kv => (kV kv.1, kv.2)) ∧ kvs.length ≤ 15 ∧ Q (.ref p) (upd H2 p (.dK (mergeK [] kvs)))) (fun c d H' => W c d σ H') (w.hide p (.dK [])) (dens G cal vs τ w.S) := by
    cases hd : dens G cal vs τ w.S with
    | no => rw [hd] at ok; exact ok.elim
    | ex c fs S1 =>
      rw [hd] at ok
      intro w1 cv d e l s1 x
      have b := b0.le l
      exact ok (w1.show_ w.hid) cv d e b.end_ (s1.show_ b.hid) (exr_mono (Mo.show_ b.hid) rfl x)
    | ok xs S1 =>
      rw [hd] at ok
      simp only [R.bind_ok, e1] at ok
      split at ok
      case isFalse => exact ok.elim
      rename_i hz
      intro w1 us e l s1 rs
      have b := b0.le l
      have hh : p ∈ w1.hid := by rw [b.hid]; exact List.mem_cons_self
      have hD : w1.H p = some (.dK []) := l.hidk p List.mem_cons_self _ upd_same
      obtain ⟨kvs, e3, e4, e5⟩ := merge_rel (K := X.K) (w := w1) (acc := []) (ws := []) okk rs hz.2 .nil
      refine ⟨hD, kvs, e3, by omega, ?_⟩
      have b2 := b.poke (o := .dK (mergeK [] kvs)) hp
      have s2 := s1.poke (o := .dK (mergeK [] kvs)) hh
      have m2 : Mo w1 (w1.poke p (.dK (mergeK [] kvs))) := Mo.poke hh
      obtain ⟨l3, s3, r3⟩ := b2.adopt (o := .dic false (mergeO (kA.zip xs))) nh s2 ⟨_, upd_same⟩ (fun w' e m => ⟨mergeK [] kvs, by rw [e]; exact upd_same, Paired.mapP e5 fun _ _ z => ⟨z.1, z.2.1, (z.2.2.mono m2).mono m⟩⟩)
      have e' : w1.S = S1 := e
      subst e'
      exact ok _ _ rfl l3 s3 r3
  have run := pairs_run kA vs (w.hide p (.dK [])) τ _ hl (s.hide hp) (rt.mono (Mo.hide hp)) okA'
  refine tPairs_mono _ _ _ (fun ps H2 hh => ?_) run
  obtain ⟨us, rfl, _, h1, kvs, h2, h3, h4⟩ := hh
  exact ⟨h1, kvs, h2, h3, h4⟩
/-! ### own classes -/
theorem mk_ok {X : Cx} {W : WX} {c d : Nat} {ci : Ci} (ec : G.clss[c]? = some ci) (ei : ci.init = some d) {w : Wd} {σ : L2.St} {Q : VK} {a : List A} {v : List V} (s : RelS X.K ad.cls w) (ra : RelAs X.K w a v)
    (ok : okR X.K ad G Q (fun c d H' => W c d σ H') w (match G.cls c with
            | some ⟨_, some d, _, _⟩ => (cal d (.ref w.S.length :: a) (w.S ++ [.ins c []])).bind fun v S2 => match v with
              | .non => .ok (.ref w.S.length) S2
              | _ => .no
            | _ => .no)) : ∀ x dx, w.H x = none → w.H dx = none → dx ≠ x → spF X.K ad G (cal d) (.ref x :: v) (upd (upd w.H dx (.own x)) x (.ins (ad.cls c) dx [])) (fun v H2 => v = .non ∧ Q (.ref x) H2) (fun c d H' => W c d σ H') := by
  intro x dx hx hdx hne
  obtain ⟨nm, i0, ms, fl⟩ := ci
  have ei : i0 = some d := ei
  subst ei
  have e0 : G.cls c = some ⟨nm, some d, ms, fl⟩ := ec
  rw [e0] at ok
  have g : ∀ b u, w.H b = some u → upd (upd w.H dx (.own x)) x (.ins (ad.cls c) dx []) b = some u := fun b u q => by
    rw [upd_ne (ne_of_none q hx), upd_ne (ne_of_none q hdx)]; exact q
  have le := Le.new (o := .ins c []) (H' := upd (upd w.H dx (.own x)) x (.ins (ad.cls c) dx [])) s hx g
  refine ⟨⟨w.ms ++ [x], w.S ++ [.ins c []], upd (upd w.H dx (.own x)) x (.ins (ad.cls c) dx []), w.hid⟩, .ref w.S.length :: a, rfl, s.new (o := .ins c []) hx g ⟨_, upd_same⟩ ⟨dx, [], upd_same, .nil⟩, RelAs.cons (new_ref s) (ra.mono le.mo), ?_⟩
  show okR X.K ad G _ _ _ (cal d (.ref w.S.length :: a) (w.S ++ [.ins c []]))
  refine okR.bindR (ok.at le) fun w2 y u l2 s2 ry ok2 => ?_
  cases y <;> first | exact (ok2 : False).elim | skip
  refine ⟨relA_non ry, ok2.ret rfl s2 ((new_ref (o := .ins c []) (H' := upd (upd w.H dx (.own x)) x (.ins (ad.cls c) dx [])) s).mono l2.mo)⟩
theorem mk2_ok {X : Cx} {W : WX} {c d : Nat} {w : Wd} {σ : L2.St} {Q : VK} {a b : List A} {v dvs : List V} (s : RelS X.K ad.cls w) (ra : RelAs X.K w a v) (rb : ∀ wd, RelAs X.K wd b dvs)
    (ok : okR X.K ad G Q (fun c d H' => W c d σ H') w ((cal d ((.ref w.S.length :: a) ++ b) (w.S ++ [.ins c []])).bind fun v S3 => match v with
          | .non => .ok (.ref w.S.length) S3
          | _ => .no)) : ∀ x dx, w.H x = none → w.H dx = none → dx ≠ x → spF X.K ad G (cal d) ((.ref x :: v) ++ dvs) (upd (upd w.H dx (.own x)) x (.ins (ad.cls c) dx [])) (fun v H2 => v = .non ∧ Q (.ref x) H2) (fun c d H' => W c d σ H') := by
  intro x dx hx hdx hne
  have g : ∀ b u, w.H b = some u → upd (upd w.H dx (.own x)) x (.ins (ad.cls c) dx []) b = some u := fun b u q => by
    rw [upd_ne (ne_of_none q hx), upd_ne (ne_of_none q hdx)]; exact q
  have le := Le.new (o := .ins c []) (H' := upd (upd w.H dx (.own x)) x (.ins (ad.cls c) dx [])) s hx g
  refine ⟨⟨w.ms ++ [x], w.S ++ [.ins c []], upd (upd w.H dx (.own x)) x (.ins (ad.cls c) dx []), w.hid⟩, (.ref w.S.length :: a) ++ b, rfl, s.new (o := .ins c []) hx g ⟨_, upd_same⟩ ⟨dx, [], upd_same, .nil⟩, (RelAs.cons (new_ref s) (ra.mono le.mo)).append (rb _), ?_⟩
  show okR X.K ad G _ _ _ (cal d ((.ref w.S.length :: a) ++ b) (w.S ++ [.ins c []]))
  refine okR.bindR (ok.at le) fun w2 y u l2 s2 ry ok2 => ?_
  cases y <;> first | exact (ok2 : False).elim | skip
  refine ⟨relA_non ry, ok2.ret rfl s2 ((new_ref (o := .ins c []) (H' := upd (upd w.H dx (.own x)) x (.ins (ad.cls c) dx [])) s).mono l2.mo)⟩
theorem kmk_ok {X : Cx} {W : WX} {c : Nat} {kc : Kc} {w : Wd} {σ : L2.St} {Q : VK} {a b : List A} {v zs : List V} (s : RelS X.K ad.cls w) (ra : RelAs X.K w a v) (rb : RelAs X.K w b zs)
    (ok : okR X.K ad G Q (fun c d H' => W c d σ H') w ((cal kc.d (kc.fill .non (.ref w.S.length :: a) b) (w.S ++ [.ins c []])).bind fun v S3 => match v with
          | .non => .ok (.ref w.S.length) S3
          | _ => .no)) : ∀ x dx, w.H x = none → w.H dx = none → dx ≠ x → spF X.K ad G (cal kc.d) (kc.fill V.non (.ref x :: v) zs) (upd (upd w.H dx (.own x)) x (.ins (ad.cls c) dx [])) (fun v H2 => v = .non ∧ Q (.ref x) H2) (fun c d H' => W c d σ H') := by
  intro x dx hx hdx hne
  have g : ∀ b u, w.H b = some u → upd (upd w.H dx (.own x)) x (.ins (ad.cls c) dx []) b = some u := fun b u q => by
    rw [upd_ne (ne_of_none q hx), upd_ne (ne_of_none q hdx)]; exact q
  have le := Le.new (o := .ins c []) (H' := upd (upd w.H dx (.own x)) x (.ins (ad.cls c) dx [])) s hx g
  refine ⟨⟨w.ms ++ [x], w.S ++ [.ins c []], upd (upd w.H dx (.own x)) x (.ins (ad.cls c) dx []), w.hid⟩, kc.fill .non (.ref w.S.length :: a) b, rfl, s.new (o := .ins c []) hx g ⟨_, upd_same⟩ ⟨dx, [], upd_same, .nil⟩, fill_rel (RelAs.cons (new_ref s) (ra.mono le.mo)) (rb.mono le.mo), ?_⟩
  show okR X.K ad G _ _ _ (cal kc.d (kc.fill .non (.ref w.S.length :: a) b) (w.S ++ [.ins c []]))
  refine okR.bindR (ok.at le) fun w2 y u l2 s2 ry ok2 => ?_
  cases y <;> first | exact (ok2 : False).elim | skip
  refine ⟨relA_non ry, ok2.ret rfl s2 ((new_ref (o := .ins c []) (H' := upd (upd w.H dx (.own x)) x (.ins (ad.cls c) dx [])) s).mono l2.mo)⟩
theorem look_ins {K : PySem.W.Frag} {w : Wd} {f : Str} : ∀ {fs : List (Str × A)} {ws : List (Str × V)}, Paired (fun (p : Str × A) (q : Str × V) => p.1 = q.1 ∧ RelA K w p.2 q.2) fs ws → (fs.lookup f = none ∧ ws.lookup f = none) ∨ ∃ a v, fs.lookup f = some a ∧ ws.lookup f = some v ∧ RelA K w a v
  | _, _, .nil => .inl ⟨rfl, rfl⟩
  | (x, a) :: fs, (y, v) :: ws, .cons h t => by
    obtain ⟨rfl, r⟩ := h
    rw [List.lookup_cons, List.lookup_cons]
    cases e : f == x with
    | true => exact .inr ⟨a, v, rfl, rfl, r⟩
    | false => exact look_ins t
theorem okT_ok {x : List Nat} (h : okT x = true) : okS x := by
  unfold okT at h
  simp only [Bool.and_eq_true, decide_eq_true_eq, List.all_eq_true] at h
  exact h
theorem intT_eq (i : Int) : mkS (intT i) = Str.ofString (toString i) := mkS_tl _
theorem fmt_ok {K : PySem.W.Frag} {w : Wd} {b : A} {v : V} {E : XK} {Q : VK} (s : RelS K ad.cls w) (ra : RelA K w b v) (ok : okR K ad G Q E w (R.of ((fmtO false b).map .str) w.S)) :
    (∃ y : Str, v = .str y ∧ y.length ≤ sizeLine ∧ Q (.str y) w.H) ∨ ∃ i : Int, v = .int i ∧ i.natAbs.log2 < 1920 ∧ Q (.str (toString i)) w.H := by
  obtain ⟨c, e1, ok⟩ := ok.of
  obtain ⟨x, e2, rfl⟩ := Option.map_eq_some_iff.mp e1
  cases b <;> first | (cases e2; done) | skip
  · rename_i i
    cases relA_int ra
    have e2 : strI i = some x := e2
    unfold strI at e2
    split at e2
    · rename_i hc
      simp only [Bool.and_eq_true, decide_eq_true_eq] at hc
      cases e2
      refine .inr ⟨i, rfl, hc.1, ?_⟩
      have := ok.ret (v := .str (mkS (intT i))) rfl s (str_rel (okT_ok hc.2))
      rw [intT_eq] at this
      exact this
    · cases e2
  · rename_i y
    obtain ⟨rfl, o⟩ := relA_str ra
    cases e2
    exact .inl ⟨_, rfl, by rw [mkS_length]; exact o.1, ok.ret rfl s ra⟩
theorem fmtR_ok {K : PySem.W.Frag} {w : Wd} {b : A} {v : V} {E : XK} {Q : VK} (s : RelS K ad.cls w) (ra : RelA K w b v) (ok : okR K ad G Q E w (R.of ((fmtO true b).map .str) w.S)) :
    (∃ y : Str, v = .str y ∧ (reprText y).length ≤ sizeLine ∧ Q (.str (reprText y)) w.H) ∨ ∃ i : Int, v = .int i ∧ i.natAbs.log2 < 1920 ∧ Q (.str (toString i)) w.H := by
  obtain ⟨c, e1, ok⟩ := ok.of
  obtain ⟨x, e2, rfl⟩ := Option.map_eq_some_iff.mp e1
  cases b <;> first | (cases e2; done) | skip
  · rename_i i
    cases relA_int ra
    have e2 : strI i = some x := e2
    unfold strI at e2
    split at e2
    · rename_i hc
      simp only [Bool.and_eq_true, decide_eq_true_eq] at hc
      cases e2
      refine .inr ⟨i, rfl, hc.1, ?_⟩
      have := ok.ret (v := .str (mkS (intT i))) rfl s (str_rel (okT_ok hc.2))
      rw [intT_eq] at this
      exact this
    · cases e2
  · rename_i y
    obtain ⟨rfl, o⟩ := relA_str ra
    have e2 : (if okT (reprS y) = true then some (reprS y) else none) = some x := e2
    split at e2
    · rename_i hc
      cases e2
      have o2 := okT_ok hc
      have e3 : mkS (reprS y) = reprText (mkS y) := mkS_tl _
      have := ok.ret (v := .str (mkS (reprS y))) rfl s (str_rel o2)
      rw [e3] at this
      exact .inl ⟨_, rfl, by rw [← e3, mkS_length]; exact o2.1, this⟩
    · cases e2
theorem fmtRL_ok {K : PySem.W.Frag} {w : Wd} {b : A} {v : V} {E : XK} {Q : VK} (s : RelS K ad.cls w) (ra : RelA K w b v) (ok : okR K ad G Q E w (R.of ((fmtS w.S true b).map .str) w.S)) :
    ((∃ y : Str, v = .str y ∧ (reprText y).length ≤ sizeLine ∧ Q (.str (reprText y)) w.H) ∨ ∃ i : Int, v = .int i ∧ i.natAbs.log2 < 1920 ∧ Q (.str (toString i)) w.H) ∨ ∃ a d, v = .ref a ∧ Dp K w.H v d ∧ d.showable = true ∧ d.depth ≤ 60 ∧ d.shown.length ≤ sizeLine ∧ Q (.str d.shown) w.H := by
  cases hq : (seqO w.S b).isSome with
  | false =>
    left
    have e : fmtS w.S true b = fmtO true b := by unfold fmtS; rw [hq]; rfl
    rw [e] at ok
    exact fmtR_ok s ra ok
  | true =>
    right
    have e : fmtS w.S true b = reprO w.S b := by unfold fmtS; rw [hq]; rfl
    rw [e] at ok
    obtain ⟨xs, hx⟩ := Option.isSome_iff_exists.mp hq
    obtain ⟨a, vs, rfl, _⟩ := seqO_rel s ra hx
    obtain ⟨c, e1, ok⟩ := ok.of
    obtain ⟨z, e2, rfl⟩ := Option.map_eq_some_iff.mp e1
    unfold reprO at e2
    have hne : isEd w.S b = false := by
      cases b <;> first | rfl | skip
      rename_i n
      simp only [seqO] at hx
      split at hx
      · rename_i ys hS
        simp only [isEd, hS]
      · cases hx
    rw [hne] at e2
    simp only [Bool.false_eq_true, if_false] at e2
    split at e2
    case isFalse => cases e2
    rename_i hc2
    cases e2
    simp only [Bool.and_eq_true, decide_eq_true_eq, List.all_eq_true] at hc2
    obtain ⟨⟨⟨⟨c1, c2⟩, c3⟩, c4⟩, c5⟩ := hc2
    obtain ⟨dp, cl⟩ := derD_dat s 6 _ _ ra c1
    refine ⟨a, _, rfl, dp, c2, c3, c4, ?_⟩
    have := ok.ret rfl s (str_rel (K := K) (w := w) (x := (derD w.S 6 b).dat.shown.cps.toList) ⟨by rw [Array.length_toList]; exact c4, c5⟩)
    rw [mkS_tl] at this
    exact this
/-- {x!r}: a text, an int, a list, a tuple -/
theorem pe_fmtRL {X : Cx} {e : Expr} {te : TE} {pos : Pos} (hg : GdOk X.K X.base X.A) (hu : X.A.units + 70 < cLine) (he : PE X e te) : PE X (.FormattedValue e 114 none pos) (fun σ H Q => te σ H fun x H1 =>
    ((∃ y : Str, x = .str y ∧ (reprText y).length ≤ sizeLine ∧ Q (.str (reprText y)) H1) ∨ ∃ i : Int, x = .int i ∧ i.natAbs.log2 < 1920 ∧ Q (.str (toString i)) H1) ∨ ∃ a d, x = .ref a ∧ Dp X.K H1 x d ∧ d.showable = true ∧ d.depth ≤ 60 ∧ d.shown.length ≤ sizeLine ∧ Q (.str d.shown) H1) := by
  refine ⟨fun pins s σ H Q I h => ?_⟩
  refine wpAny_FormattedValue_repr (thn (he.run pins s σ H _ I h) fun v s1 hv => ?_)
  obtain ⟨x, H1, I1, r1, q⟩ := hv
  rcases q with (⟨y, rfl, hz, q⟩ | ⟨i, rfl, hz, q⟩) | ⟨a, d, rfl, dp, c2, c3, c4, q⟩
  · obtain ⟨t, rfl⟩ := r1
    exact pyReprObj_str (wpAny_formatField_str ⟨.str (reprText y), H1, I1.tok _, ⟨_, rfl⟩, q⟩ ⟨.str (reprText y), H1, I1.tok _, ⟨_, rfl⟩, q⟩ hz) hz
  · obtain ⟨t, rfl⟩ := r1
    exact pyReprObj_int hz (wpAny_formatField_str ⟨.str (toString i), H1, I1.tok _, ⟨_, rfl⟩, q⟩ ⟨.str (toString i), H1, I1.tok _, ⟨_, rfl⟩, q⟩ (int_text_fits hz))
  · refine reprObj_call I1 dp r1 c2 c4 hg (by omega) ⟨a, r1⟩ fun s' tk I' => ?_
    exact wpAny_formatField_str ⟨.str d.shown, H1, I'.tok _, ⟨_, rfl⟩, q⟩ ⟨.str d.shown, H1, I'.tok _, ⟨_, rfl⟩, q⟩ c4
theorem pj_of {X : Cx} {f : Lt.E → TE} : ∀ {es : List Lt.E} {xs : List Expr}, Paired (fun e x => PE X x (f e)) es xs → PJ X xs (es.map f)
  | _, _, .nil => .nil
  | _, _, .cons h r => .cons h (pj_of r)
theorem fs_ok {X : Cx} {W : WX} {σ : L2.St} {Q : VK} {τ : Tau} : ∀ {es : List Lt.E} {acc : List Nat} {w : Wd}, acc.length ≤ sizeLine → (∀ c ∈ acc, c < 0x110000) → RelS X.K ad.cls w → RelT X.K w τ σ →
    okR X.K ad G Q (fun c d H' => W c d σ H') w (denf G cal es acc τ w.S) →
    tJs (es.map fun e => tE X.K ad G W (fun τ S => den G cal e τ S)) (mkS acc) σ w.H fun out H1 => Q (.str out) H1
  | [], acc, w, h1, h2, s, rt, ok => (show okR X.K ad G Q _ w (.ok (.str acc) w.S) from ok).ret rfl s (str_rel ⟨h1, h2⟩)
  | e :: es, acc, w, h1, h2, s, rt, ok => by
    have ok : okR X.K ad G Q (fun c d H' => W c d σ H') w ((den G cal e τ w.S).bind fun x S1 => match x with
      | .str y => if (acc ++ y).length ≤ sizeLine then denf G cal es (acc ++ y) τ S1 else .no
      | _ => .no) := ok
    refine ⟨w, τ, rfl, s, rt, okR.bindR ok fun w1 b v l1 s1 ra ok1 => ?_⟩
    cases b <;> first | exact (ok1 : False).elim | skip
    rename_i y
    obtain ⟨rfl, o⟩ := relA_str ra
    have ok1 : okR X.K ad G Q (fun c d H' => W c d σ H') w1 (if (acc ++ y).length ≤ sizeLine then denf G cal es (acc ++ y) τ w1.S else .no) := ok1
    split at ok1
    case isFalse => exact (ok1 : False).elim
    rename_i hz
    refine ⟨mkS y, rfl, by rw [mkS_append, mkS_length]; exact hz, ?_⟩
    rw [mkS_append]
    refine fs_ok hz (fun c hc => ?_) s1 (rt.mono l1.mo) ok1
    rcases List.mem_append.mp hc with h | h
    · exact h2 c h
    · exact o.2 c h
theorem nf_of {X : Cx} {w : Wd} {c : Nat} {y : A} {u : V} (s : RelS X.K ad.cls w) (r : RelA X.K w y u) (h : nfO false w.S c y = true) : NotFst X.K w.H (ad.cls c) u := by
  cases y with
  | non => cases relA_non r; exact trivial
  | bl k => cases relA_bl r; exact trivial
  | int i => cases relA_int r; exact trivial
  | str x => obtain ⟨rfl, _⟩ := relA_str r; exact trivial
  | tup xs => obtain ⟨p, vs, rfl, hp, _⟩ := relA_tup r; exact .inr (.inl ⟨vs, hp.sq⟩)
  | lst xs => obtain ⟨p, vs, rfl, hp, _⟩ := relA_lst r; exact .inl ⟨vs, hp.sq⟩
  | ref m =>
    obtain ⟨p, e1, rfl⟩ := relA_ref r
    unfold nfO at h
    simp only at h
    split at h
    · rename_i d fs hS
      obtain ⟨dx, ws, q, _⟩ := s.obj m p _ e1 hS
      have : d = c := by simpa using h
      subst this
      exact .inr (.inr (.inr (.inr ⟨dx, ws, q⟩)))
    · rename_i xs hS
      obtain ⟨vs, q, _⟩ := s.obj m p _ e1 hS
      exact .inl ⟨vs, .inl (.inl q)⟩
    · rename_i t kvs hS
      have ro := s.obj m p _ e1 hS
      cases t with
      | false => obtain ⟨ws, q, _⟩ := ro; exact .inr (.inr (.inl ⟨ws, .inl q⟩))
      | true => obtain ⟨ws, q, _⟩ := ro; exact .inr (.inr (.inr (.inl ⟨ws, .inl q⟩)))
    · cases h
  | scr _ => cases h
  | ktup _ => cases h
theorem eqI_ok {X : Cx} {W : WX} {m : MC} (F : Fx X ad G W k cal m) {a b : Lt.E} {σ : L2.St} {H : Hp} {Q : VK} (hh : tE X.K ad G W (fun τ S => den G cal (.cmpI false a b) τ S) σ H Q) :
    tEqR X (L2.CX X.prog X.w) (4 * k) W (tE X.K ad G W (fun τ S => den G cal a τ S)) (tE X.K ad G W (fun τ S => den G cal b τ S)) σ H Q := by
  obtain ⟨w, τ, rfl, s, rt, ok⟩ := hh
  refine ⟨w, τ, rfl, s, rt, okR.bindR ok fun w1 x v l1 s1 ra ok1 => ⟨w1, τ, rfl, s1, rt.mono l1.mo, okR.bindR ok1 fun w2 y u l2 s2 rb ok2 => ?_⟩⟩
  cases x <;> first | exact (ok2 : False).elim | skip
  rename_i n
  have rr := ra.mono l2.mo
  obtain ⟨p, e1, rfl⟩ := relA_ref rr
  simp only at ok2
  split at ok2
  case h_2 => exact (ok2 : False).elim
  rename_i c fs hS
  split at ok2
  case isFalse => exact (ok2 : False).elim
  rename_i hn
  split at ok2
  case h_2 => exact (ok2 : False).elim
  rename_i ci ec
  split at ok2
  case h_2 => exact (ok2 : False).elim
  rename_i d hd
  obtain ⟨dx, ws, q, rs⟩ := s2.obj n p _ e1 hS
  have hc : c < G.clss.length := (List.getElem?_eq_some_iff.mp ec).1
  refine ⟨p, ad.cls c, ad.df d, dx, ws, spF X.K ad G (cal d), rfl, q, (F.st.cf c hc).cl, (F.st.mem c ci ec).meth _ d hd, F.st.fns d, nf_of s2 rb hn, w2, [.ref n, y], rfl, s2, RelAs.cons rr (RelAs.cons rb RelAs.nil), okR.bindR ok2 fun w3 z v3 l3 s3 r3 ok3 => ?_⟩
  cases z <;> first | exact (ok3 : False).elim | skip
  rename_i kk
  cases relA_bl r3
  exact ⟨kk, rfl, (show okR X.K ad G _ _ w3 (.ok (.bl (false != kk)) w3.S) from ok3).ret rfl s3 (by simpa using r3)⟩
theorem neI_ok {X : Cx} {W : WX} {m : MC} (F : Fx X ad G W k cal m) {a b : Lt.E} {σ : L2.St} {H : Hp} {Q : VK} (hh : tE X.K ad G W (fun τ S => den G cal (.cmpI true a b) τ S) σ H Q) :
    tNeR X (L2.CX X.prog X.w) (4 * k) W (tE X.K ad G W (fun τ S => den G cal a τ S)) (tE X.K ad G W (fun τ S => den G cal b τ S)) σ H Q := by
  obtain ⟨w, τ, rfl, s, rt, ok⟩ := hh
  refine ⟨w, τ, rfl, s, rt, okR.bindR ok fun w1 x v l1 s1 ra ok1 => ⟨w1, τ, rfl, s1, rt.mono l1.mo, okR.bindR ok1 fun w2 y u l2 s2 rb ok2 => ?_⟩⟩
  cases x <;> first | exact (ok2 : False).elim | skip
  rename_i n
  have rr := ra.mono l2.mo
  obtain ⟨p, e1, rfl⟩ := relA_ref rr
  simp only at ok2
  split at ok2
  case h_2 => exact (ok2 : False).elim
  rename_i c fs hS
  split at ok2
  case isFalse => exact (ok2 : False).elim
  rename_i hn
  split at ok2
  case h_2 => exact (ok2 : False).elim
  rename_i ci ec
  split at ok2
  case h_2 => exact (ok2 : False).elim
  rename_i d hd
  obtain ⟨dx, ws, q, rs⟩ := s2.obj n p _ e1 hS
  have hc : c < G.clss.length := (List.getElem?_eq_some_iff.mp ec).1
  obtain ⟨m', dy, gs, rfl, pb, e2, rfl, qb⟩ : ∃ m' dy gs, y = .ref m' ∧ ∃ pb, w2.ms[m']? = some pb ∧ u = .ref pb ∧ w2.H pb = some (.ins (ad.cls c) dy gs) := by
    unfold nfO at hn
    cases y <;> first | (cases hn; done) | skip
    rename_i m'
    obtain ⟨pb, e2, rfl⟩ := relA_ref rb
    simp only at hn
    split at hn
    · rename_i d' fs' hS'
      obtain ⟨dy, gs, q', _⟩ := s2.obj m' pb _ e2 hS'
      have : d' = c := by simpa using hn
      subst this
      exact ⟨m', dy, gs, rfl, pb, e2, rfl, q'⟩
    · cases hn
    · cases hn
    · cases hn
  refine ⟨p, pb, ad.cls c, ad.df d, dx, ws, dy, gs, spF X.K ad G (cal d), rfl, rfl, q, qb, (F.st.cf c hc).cl, ⟨(F.st.cf c hc).ne, (F.st.cf c hc).hm⟩, (F.st.mem c ci ec).meth _ d hd, F.st.fns d, w2, [.ref n, .ref m'], rfl, s2, RelAs.cons rr (RelAs.cons rb RelAs.nil), okR.bindR ok2 fun w3 z v3 l3 s3 r3 ok3 => ?_⟩
  cases z <;> first | exact (ok3 : False).elim | skip
  rename_i kk
  cases relA_bl r3
  exact ⟨kk, rfl, (show okR X.K ad G _ _ w3 (.ok (.bl (true != kk)) w3.S) from ok3).ret rfl s3 (by simpa using bl_rel)⟩
theorem mth_ok {X : Cx} {W : WX} {m : MC} (F : Fx X ad G W k cal m) {w : Wd} {σ : L2.St} {Q : VK} {a : A} {v : V} {mn : Str} {f : Nat → Nat → R A} (s : RelS X.K ad.cls w)
    (ok : okR X.K ad G Q (fun c d H' => W c d σ H') w (match a with
    | .ref n => match w.S[n]? with
      | some (.ins c fs) => if fs.lookup mn = none then match G.cls c with
        | some ci => match ci.meths.lookup mn with
          | some d => f n d
          | none => .no
        | none => .no else .no
      | _ => .no
    | _ => .no)) (ra : RelA X.K w a v) {P : Sp → Prop} (kk : ∀ n d, a = .ref n → True → okR X.K ad G Q (fun c d H' => W c d σ H') w (f n d) → P (spF X.K ad G (cal d))) : rMth X.K X.prog X.w X.mg X.base (L2.CX X.prog X.w) (4 * k) mn v w.H P := by
  cases a <;> first | exact (ok : False).elim | skip
  rename_i n
  obtain ⟨p, e1, rfl⟩ := relA_ref ra
  simp only at ok
  split at ok
  · rename_i c fs hS
    split at ok
    · rename_i hl
      split at ok
      · rename_i ci ec
        split at ok
        · rename_i d hd
          obtain ⟨dx, ws, q, rs⟩ := s.obj n p _ e1 hS
          have hc : c < G.clss.length := (List.getElem?_eq_some_iff.mp ec).1
          have hl' : ws.lookup mn = none := by
            rcases look_ins (f := mn) rs with ⟨_, h⟩ | ⟨_, _, h, _⟩
            · exact h
            · rw [hl] at h; cases h
          exact ⟨p, ad.cls c, ad.df d, dx, ws, spF X.K ad G (cal d), rfl, q, (F.st.cf c hc).cl, (F.st.mem c ci ec).meth mn d hd, F.st.fns d, hl', kk n d rfl trivial ok⟩
        · exact ok.elim
      · exact ok.elim
    · exact ok.elim
  · exact ok.elim
theorem fld_ok {X : Cx} {W : WX} {m : MC} (F : Fx X ad G W k cal m) {w : Wd} {σ : L2.St} {Q : VK} {a : A} {v : V} {f : Str} (s : RelS X.K ad.cls w)
    (ok : okR X.K ad G Q (fun c d H' => W c d σ H') w (match a with
    | .ref n => match w.S[n]? with
      | some (.ins c fs) => match G.cls c with
        | some ci => if ci.fields.contains f then R.of (fs.lookup f) w.S else .no
        | none => .no
      | _ => .no
    | _ => .no)) (ra : RelA X.K w a v) : ∃ a C dx fs u, v = .ref a ∧ w.H a = some (.ins C dx fs) ∧ Cls X.K C ∧ NoAttr X.K C f ∧ fs.lookup f = some u ∧ Q u w.H := by
  cases a <;> first | exact (ok : False).elim | skip
  rename_i n
  obtain ⟨p, e1, rfl⟩ := relA_ref ra
  simp only at ok
  split at ok
  · rename_i c fs hS
    split at ok
    · rename_i ci ec
      split at ok
      · rename_i hf
        obtain ⟨y, ey, ok⟩ := ok.of
        obtain ⟨dx, ws, q, rs⟩ := s.obj n p _ e1 hS
        have hc : c < G.clss.length := (List.getElem?_eq_some_iff.mp ec).1
        rcases look_ins (f := f) rs with ⟨h, _⟩ | ⟨a', u, h1, h2, r⟩
        · rw [ey] at h; cases h
        · rw [ey] at h1; cases h1
          exact ⟨p, ad.cls c, dx, ws, u, rfl, q, (F.st.cf c hc).cl, (F.st.mem c ci ec).fld f hf, h2, ok.ret rfl s r⟩
      · exact ok.elim
    · exact ok.elim
  · exact ok.elim
/-- the parts of a comprehension -/
structure Lcp (X : Cx) (ad : Ad) (G : Gt) (W : WX) (cal : Cal) (elt : Lt.E) (t : T) (ik : IK) (src ifs : List Lt.E) (own : List (Str × Nat)) (elt' tg iter : Expr) (ifs' : List Expr) (scope : Scope) : Prop where
  pi : PI X tg iter (tI X.K ad G W (fun τ S => iD G cal ik src τ S))
  ok : BlkOk X.N X.env.scope scope own
  pg : ∀ (s : Shared) (H : Hp) (C : Addr) (cl : List (Str × Addr)) (fp : List Addr), PG (X.blk s H scope (compEnvC scope cl C X.env) fp) tg (gT X.K ad t)
  pt : ∀ (s : Shared) (H : Hp) (C : Addr) (cl : List (Str × Addr)) (fp : List Addr), PTs (X.blk s H scope (compEnvC scope cl C X.env) fp) ifs' (tT X.K ad G (fun _ _ _ _ => False) (fun τ S => condD G cal ifs τ S))
  pe : ∀ (s : Shared) (H : Hp) (C : Addr) (cl : List (Str × Addr)) (fp : List Addr), PE (X.blk s H scope (compEnvC scope cl C X.env) fp) elt' (tE X.K ad G (fun _ _ _ _ => False) (fun τ S => den G cal elt τ S))
theorem lcParts {X : Cx} {W : WX} {m : MC} (F : Fx X ad G W k cal m) {elt : Lt.E} {t : T} {ik : IK} {src ifs : List Lt.E} {own : List (Str × Nat)} {elt' tg iter : Expr} {ifs' args : List Expr} {scope : Scope} (h1 : noSet iter = true) (ha : srcArgs m ik tg iter = some args) (h9 : rngLen ik args.length = true)
    (h10 : mEs G m src args = true) (U : PA X args (tL X.K ad G W (fun τ S => dens G cal src τ S)) ∧ (∀ x, args = [x] → ∃ e, src = [e] ∧ PE X x (tE X.K ad G W (fun τ S => den G cal e τ S)) ∧ PT X x (tT X.K ad G W (fun τ S => tst G cal e τ S))))
    (h3 : mT (m.blk scope) t tg = true) (h5 : ifs'.length ≤ 1) (h6 : mEs G (m.blk scope) ifs ifs' = true) (h7 : blkC m.N m.sc scope own = true)
    (V : ∀ (s : Shared) (H : Hp) (C : Addr) (cl : List (Str × Addr)) (fp : List Addr), PA (X.blk s H scope (compEnvC scope cl C X.env) fp) ifs' (tL X.K ad G (fun _ _ _ _ => False) (fun τ S => dens G cal ifs τ S)) ∧ (∀ x, ifs' = [x] → ∃ e, ifs = [e] ∧ PE (X.blk s H scope (compEnvC scope cl C X.env) fp) x (tE X.K ad G (fun _ _ _ _ => False) (fun τ S => den G cal e τ S)) ∧ PT (X.blk s H scope (compEnvC scope cl C X.env) fp) x (tT X.K ad G (fun _ _ _ _ => False) (fun τ S => tst G cal e τ S))))
    (E' : ∀ (s : Shared) (H : Hp) (C : Addr) (cl : List (Str × Addr)) (fp : List Addr), PE (X.blk s H scope (compEnvC scope cl C X.env) fp) elt' (tE X.K ad G (fun _ _ _ _ => False) (fun τ S => den G cal elt τ S))) :
    Lcp X ad G W cal elt t ik src ifs own elt' tg iter ifs' scope := by
  have S := allStar h10
  refine ⟨s_pi F ha h9 S.1 S.2 U.1 (fun x hx => let ⟨e, a, b, _⟩ := U.2 x hx; ⟨e, a, b⟩), by rw [F.N, F.sc]; exact blkOk_by h7, fun s H C cl fp => sT (ad := ad) (F.blk s H scope cl C fp).toMx t tg h3, fun s H C cl fp => ?_, E'⟩
  have V := V s H C cl fp
  rcases ifs' with _ | ⟨c, _ | ⟨c2, r⟩⟩
  · have : ifs = [] := by
      have := (allStar h6).2
      cases ifs with
      | nil => rfl
      | cons _ _ => simp at this
    subst this
    refine ⟨fun pins s' σ H' Q I hw => pts_nil.run pins s' σ H' Q I ?_⟩
    obtain ⟨w, τ, rfl, sw, rt, okk⟩ := hw
    exact okB.ret (b := true) okk rfl sw
  · obtain ⟨e, rfl, _, pt⟩ := V.2 c rfl
    refine ⟨fun pins s' σ H' Q I hw => (pts_one pt).run pins s' σ H' Q I ?_⟩
    exact tT.congr hw fun τ S => condD_one e τ S
  · simp at h5
/-- a class that isinstance asks for -/
def xcV (ad : Ad) : Xc → V | .own c => .ref (ad.xc c) | .bi x => .ty x | .glo x => .ref (ad.tb x)
def xcU (ad : Ad) : Xc → Value | .own c => .ref (ad.xc c) | .bi x => .type x | .glo x => .ref (ad.tb x)
theorem xcV_cls (ad : Ad) (c : Xc) : ClsV (xcV ad c) (xcU ad c) := by cases c <;> constructor
theorem xcV_all (ad : Ad) : ∀ cs : List Xc, Paired ClsV (cs.map (xcV ad)) (cs.map (xcU ad))
  | [] => .nil
  | c :: cs => .cons (xcV_cls ad c) (xcV_all ad cs)
theorem xbi_facts {x : String} (h : (xBi x).isSome = true) : bootBuiltins (Str.ofString x) = some (.type x) ∧ bltN.contains (Str.ofString x) = true ∧ Str.ofString x ≠ "__name__" ∧ (Str.ofString x == ("__debug__" : Str)) = false := by
  unfold xBi at h
  split at h
  · rename_i e; subst e; decide +kernel
  split at h
  · rename_i e; subst e; decide +kernel
  split at h
  · rename_i e; subst e; decide +kernel
  split at h
  · rename_i e; subst e; decide +kernel
  split at h
  · rename_i e; subst e; decide +kernel
  · cases h
theorem xc_pe {X : Cx} {W : WX} {m : MC} (F : Fx X ad G W k cal m) {c : Xc} {w : Str} {p : Pos} (h : mXc G m c w = true) : PE X (.Name w p) (tC (xcV ad c)) := by
  cases c with
  | own d =>
    simp only [mXc, Bool.and_eq_true] at h
    obtain ⟨⟨h1, h2⟩, h3⟩ := h
    split at h3
    case h_2 => cases h3
    rename_i q hq
    have e := eq_of_beq h3
    subst e
    exact pe_glob (F.glob h1) (F.st.xcs d q hq).2.mg_ rfl (not_odd h2).1
  | bi x =>
    simp only [mXc, Bool.and_eq_true] at h
    obtain ⟨⟨⟨h1, h2⟩, h3⟩, h4⟩ := h
    have e := eq_of_beq h1
    subst e
    obtain ⟨b1, b2, b3, b4⟩ := xbi_facts h4
    exact pe_bltn (v := .ty x) (F.glob h2) (F.st.blt _ b2) b1 rfl b3 b4
  | glo x =>
    simp only [mXc, Bool.and_eq_true] at h
    obtain ⟨⟨⟨h1, h2⟩, h3⟩, h4⟩ := h
    have e := eq_of_beq h1
    subst e
    exact pe_glob (F.glob h2) (F.st.xo _ h4).1 rfl (not_odd h3).1
def tCs (vs : List V) : TA := fun _ H Q => Q vs H
theorem xcs_pa {X : Cx} {W : WX} {m : MC} (F : Fx X ad G W k cal m) : ∀ {cs : List Xc} {ws : List Expr}, mXcs G m cs ws = true → PA X ws (tCs (cs.map (xcV ad)))
  | [], [], _ => pa_nil
  | [], _ :: _, h => by simp [mXcs] at h
  | _ :: _, [], h => by simp [mXcs] at h
  | c :: cs, w :: ws, h => by
    cases w <;> first | (simp [mXcs] at h; done) | skip
    simp only [mXcs, Bool.and_eq_true] at h
    exact PA.imp (pa_cons (xc_pe F h.1) (xcs_pa F h.2) rfl) fun σ H Q q => q
theorem isX_kit {X : Cx} {W : WX} {m : MC} (F : Fx X ad G W k cal m) {c : Nat} (hc : c < G.xcs.length) {y : Xc} {b : Bool} (h : isX G.xo G.xcs.length c y = some b) : PySem.W.kitOne X.K (.ref (ad.xc c)) (xcU ad y) = some b := by
  cases y with
  | own d =>
    simp only [isX] at h
    split at h
    · rename_i hd
      cases h
      exact (F.st.xeq c d hc hd).2
    · cases h
  | bi x => exact F.st.xbi c x b hc h
  | glo x =>
    simp only [isX] at h
    split at h
    · rename_i hx; cases h; exact (F.st.xo x hx).2 c hc
    · cases h
theorem op_nin_rng {X : Cx} : OpR X (compareOp .NotIn) (fun x y H Q => ∃ i a lo hi, x = V.int i ∧ y = V.ref a ∧ H a = some (.rng lo hi) ∧ Q (.bl (!decide (lo ≤ i ∧ i < hi))) H) := by
  intro pins s σ H x y v u Q I rx ry h
  obtain ⟨i, a, lo, hi, rfl, rfl, ha, q⟩ := h
  obtain ⟨k, rfl⟩ := rx
  obtain rfl : u = Value.ref a := ry
  obtain ⟨t1, t2, t3, ho⟩ := I.hok a _ ha
  show wpAny _ _ (do return Value.bool (!(← contains (Value.ref a) (Value.int i k)))) _ _ s
  refine wpAny_bind (wpAny_contains_slot (T := "range") ⟨_, ho, rfl⟩ F.slot_range_contains (call_meets F.slot_range_contains ⟨_, ho, rfl⟩ F.entry_range_contains (F.args_range_contains_2 _ _) (q_contains a lo hi i t1 t2 t3 k)
    ⟨ho, wpAny_truthy_bool (wpAny_pure ⟨.bl _, H, I, rfl, ?_⟩)⟩))
  rw [place1]
  exact q
/-- i in range(lo, hi), read -/
theorem inR_ok {X : Cx} {W : WX} {neg : Bool} {x lo hi : Lt.E} {σ : L2.St} {H : Hp} {Q : VK} {r : V → V → Hp → VK → Prop} (hr : ∀ (i l h : Int) (p : Addr) (H' : Hp) (Q : VK), H' p = some (.rng l h) → Q (.bl (neg != decide (l ≤ i ∧ i < h))) H' → r (.int i) (.ref p) H' Q)
    (hh : tE X.K ad G W (fun τ S => den G cal (.inR neg x lo hi) τ S) σ H Q) :
    tE X.K ad G W (fun τ S => den G cal x τ S) σ H fun v H1 => tCB (fun vs H Q => ∃ i j, vs = [V.int i, V.int j] ∧ ∀ p, H p = none → Q (.ref p) (upd H p (.rng i j))) (tCons (tE X.K ad G W (fun τ S => den G cal lo τ S)) (tCons (tE X.K ad G W (fun τ S => den G cal hi τ S)) tNil)) σ H1 fun y H2 => r v y H2 Q := by
  obtain ⟨w, τ, rfl, s, rt, ok⟩ := hh
  refine ⟨w, τ, rfl, s, rt, okR.bindR ok fun w1 a v l1 s1 ra ok1 => ?_⟩
  refine ⟨w1, τ, rfl, s1, rt.mono l1.mo, okR.bindR ok1 fun w2 b u l2 s2 rb ok2 => ?_⟩
  refine ⟨w2, τ, rfl, s2, (rt.mono l1.mo).mono l2.mo, okR.bindR ok2 fun w3 c t l3 s3 rc ok3 => ?_⟩
  cases a <;> first | exact (ok3 : False).elim | skip
  cases b <;> first | exact (ok3 : False).elim | skip
  cases c <;> first | exact (ok3 : False).elim | skip
  rename_i i l h
  cases relA_int ra
  cases relA_int rb
  cases relA_int rc
  refine ⟨l, h, rfl, fun p hp => ?_⟩
  have g := upd_grow (o := .rng l h) hp
  have le : Le w3 ⟨w3.ms, w3.S, upd w3.H p (.rng l h), w3.hid⟩ := Le.grow g
  exact hr i l h p _ Q upd_same ((show okR X.K ad G Q _ ⟨w3.ms, w3.S, upd w3.H p (.rng l h), w3.hid⟩ (.ok (.bl (neg != decide (l ≤ i ∧ i < h))) w3.S) from okR.at ok3 le).ret rfl (s3.grow g) bl_rel)
theorem anyX_kit {X : Cx} {W : WX} {m : MC} (F : Fx X ad G W k cal m) {c : Nat} (hc : c < G.xcs.length) : ∀ {cs : List Xc} {b : Bool}, anyX G.xo G.xcs.length c cs = some b → PySem.W.kitAny X.K (.ref (ad.xc c)) (cs.map (xcU ad)) = some b
  | [], b, h => by cases h; exact kitAny_nil
  | y :: cs, b, h => by
    simp only [anyX] at h
    split at h
    · rename_i a r h1 h2
      cases h
      refine kitAny_cons (isX_kit F hc h1) (fun e => ?_) (fun e => ?_)
      · subst e; rw [Bool.false_or]; exact anyX_kit F hc h2
      · subst e; rfl
    · cases h
mutual
theorem sE : ∀ (e : Lt.E) {X : Cx} {W : WX} {m : MC} (F : Fx X ad G W k cal m) (x : Expr), mE G m e x = true → Tri X ad G W cal e x
  | .nm i, X, W, m, F, x, h => by
    cases x <;> simp only [mE] at h <;> first | (cases h; done) | skip
    rename_i x pos
    simp only [Bool.and_eq_true, beq_iff_eq] at h
    obtain ⟨⟨h1, h2⟩, h3⟩ := h
    obtain ⟨o1, o2⟩ := not_odd h3
    refine Tri.of rfl (PE.imp (pe_var (i := i) (by rw [F.N]; exact h1) (F.see h2) o1 o2) ?_)
    rintro σ H Q ⟨w, τ, rfl, s, rt, ok⟩
    have ok : okR X.K ad G Q (fun c d H' => W c d σ H') w (match τ[i]? with | some (some a) => .ok a w.S | _ => .no) := ok
    split at ok
    · rename_i a e
      obtain ⟨v, e1, r⟩ := rt.at_ i a e
      exact ⟨v, e1, ok.ret rfl s r⟩
    · exact ok.elim
  | .cN, X, W, m, F, x, h => by
    cases x <;> simp only [mE] at h <;> first | (cases h; done) | skip
    rename_i c j pos
    cases c <;> simp only at h <;> first | (cases h; done) | skip
    refine Tri.of rfl (PE.imp pe_non ?_)
    rintro σ H Q ⟨w, τ, rfl, s, rt, ok⟩
    exact okR.ret ok rfl s non_rel
  | .cB b, X, W, m, F, x, h => by
    cases x <;> simp only [mE] at h <;> first | (cases h; done) | skip
    rename_i c j pos
    cases c <;> simp only [beq_iff_eq] at h <;> first | (cases h; done) | skip
    refine Tri.of rfl (PE.imp pe_bl ?_)
    rintro σ H Q ⟨w, τ, rfl, s, rt, ok⟩
    exact okR.ret (a := .bl b) ok rfl s (by rw [h]; exact bl_rel)
  | .cI b, X, W, m, F, x, h => by
    cases x <;> simp only [mE] at h <;> first | (cases h; done) | skip
    rename_i c j pos
    cases c <;> simp only [beq_iff_eq] at h <;> first | (cases h; done) | skip
    refine Tri.of rfl (PE.imp pe_int ?_)
    rintro σ H Q ⟨w, τ, rfl, s, rt, ok⟩
    exact okR.ret (a := .int b) ok rfl s (by rw [h]; exact int_rel)
  | .cS b, X, W, m, F, x, h => by
    cases x <;> simp only [mE] at h <;> first | (cases h; done) | skip
    rename_i c j pos
    cases c <;> simp only [Bool.and_eq_true, beq_iff_eq, decide_eq_true_eq, List.all_eq_true] at h <;> first | (cases h; done) | skip
    refine Tri.of rfl (PE.imp pe_str ?_)
    rintro σ H Q ⟨w, τ, rfl, s, rt, ok⟩
    exact okR.ret (a := .str b) ok rfl s (by rw [h.1.1]; exact str_rel ⟨Nat.le_trans h.1.2 (by decide), h.2⟩)
  | .gl y, X, W, m, F, x, h => by
    cases x <;> simp only [mE] at h <;> first | (cases h; done) | skip
    rename_i c pos
    simp only [Bool.and_eq_true, beq_iff_eq] at h
    obtain ⟨⟨⟨rfl, h2⟩, h3⟩, h4⟩ := h
    obtain ⟨a, ea⟩ := Option.isSome_iff_exists.mp h3
    obtain ⟨v, u, h5, h6, h7⟩ := F.st.con _ _ ea
    refine Tri.of rfl (PE.imp (pe_glob (F.glob h2) h5 h6 (not_odd h4).1) ?_)
    rintro σ H Q ⟨w, τ, rfl, s, rt, ok⟩
    have ok : okR X.K ad G Q (fun c d H' => W c d σ H') w (R.of (G.consts.lookup y) w.S) := ok
    rw [ea] at ok
    exact okR.ret ok rfl s (h7 w)
  | .frz e, X, W, m, F, x, h => by
    have T := sE e F x h
    refine ⟨PE.imp T.pe ?_, PT.imp T.pt ?_, fun z => PW.imp (T.pw z) ?_⟩
    · rintro σ H Q ⟨w, τ, rfl, s, rt, ok⟩
      exact ⟨w, τ, rfl, s, rt, frz_ok ok⟩
    · rintro σ H Q ⟨w, τ, rfl, s, rt, ok⟩
      exact ⟨w, τ, rfl, s, rt, tst_frz e ok⟩
    · rintro σ H Q ⟨w, τ, rfl, s, rt, ok⟩
      exact ⟨w, τ, rfl, s, rt, tst_frz e ok⟩
  | .bin op fl a b, X, W, m, F, x, h => by
    cases x <;> simp only [mE] at h <;> first | (cases h; done) | skip
    rename_i x op' y pos
    simp only [Bool.and_eq_true, decide_eq_true_eq] at h
    obtain ⟨⟨rfl, h1⟩, h2⟩ := h
    refine Tri.of rfl (PE.imp (pe_op (opr_bin (ad := ad) (G := G) op fl) (sE a F x h1).pe (sE b F y h2).pe) ?_)
    intro σ H Q hh
    refine tE2 (f := fun a b τ S => binO op fl a b S) (r := rBin X.K ad G op fl) hh fun w τ a b v u s rt ra rb ok => ?_
    exact ⟨w, a, b, _, rfl, s, ra, rb, ok⟩
  | .neg a, X, W, m, F, x, h => by
    cases x <;> simp only [mE] at h <;> first | (cases h; done) | skip
    rename_i op x pos
    cases op <;> simp only at h <;> first | (cases h; done) | skip
    refine Tri.of rfl (PE.imp (pe_un un_neg (sE a F x h).pe) ?_)
    intro σ H Q hh
    refine tE1 (r := fun x H1 Q => rU (fun i => V.int (-i)) x H1 Q) hh fun w τ a v s rt ra ok => ?_
    cases a <;> simp only at ok <;> first | exact (ok : False).elim | skip
    cases relA_int ra
    exact ⟨_, rfl, ok.ret rfl s int_rel⟩
  | .no_ a, X, W, m, F, x, h => by
    cases x <;> simp only [mE] at h <;> first | (cases h; done) | skip
    rename_i op x pos
    cases op <;> simp only at h <;> first | (cases h; done) | skip
    have T := sE a F x h
    refine ⟨PE.imp (pe_notT T.pe) ?_, PT.imp (pt_not T.pt) ?_, fun z => by cases z⟩
    · intro σ H Q hh
      refine tE1 (r := fun x H1 Q => ∃ k, TruV X.K x H1 k ∧ Q (.bl (!k)) H1) hh fun w τ a v s rt ra ok => ?_
      obtain ⟨b, e1, ok⟩ := ok.of
      obtain ⟨kk, e2, rfl⟩ := Option.map_eq_some_iff.mp e1
      exact ⟨kk, tru_rel s ra e2, ok.ret rfl s bl_rel⟩
    · intro σ H Q hh
      refine tT2 (f := fun c τ S => .ok (!c) S) (r := fun c H1 Q => Q (!c) H1) (hh.congr fun τ S => tst_not a τ S) fun w τ b s rt ok => ?_
      exact okB.ret ok rfl s
  | .and_ a b, X, W, m, F, x, h => by
    cases x <;> simp only [mE] at h <;> first | (cases h; done) | skip
    rename_i op xs pos
    cases op <;> first | (cases h; done) | skip
    rcases xs with _ | ⟨x, _ | ⟨y, r⟩⟩ <;> first | (cases h; done) | skip
    simp only [Bool.and_eq_true] at h
    obtain ⟨h1, h2⟩ := h
    have T := sE a F x h1
    have U : PE X (.BoolOp .And (y :: r) pos) (tE X.K ad G W (fun τ S => den G cal b τ S)) ∧ PW X (.BoolOp .And (y :: r) pos) (tT X.K ad G W (fun τ S => tst G cal b τ S)) := by
      cases r with
      | nil => have V := sE b F y h2; exact ⟨pe_one V.pe, pw_and1 V.pt⟩
      | cons z r => have V := sE b F _ h2; exact ⟨V.pe, V.pw rfl⟩
    have pw : PW X (.BoolOp .And (x :: y :: r) pos) (tT X.K ad G W (fun τ S => tst G cal (.and_ a b) τ S)) := by
      refine PW.imp (pw_and T.pt U.2) ?_
      intro σ H Q hh
      refine tT2 (f := fun c τ S => if c then tst G cal b τ S else .ok false S) (r := fun c H1 Q => if c = true then tT X.K ad G W (fun τ S => tst G cal b τ S) σ H1 Q else Q false H1) (hh.congr fun τ S => tst_and a b τ S) fun w τ c s rt ok => ?_
      cases c with
      | true => exact ⟨w, τ, rfl, s, rt, ok⟩
      | false => exact okB.ret ok rfl s
    refine ⟨PE.imp (pe_andT T.pe U.1) ?_, pw.pt, fun _ => pw⟩
    intro σ H Q hh
    refine tE1 (r := fun x H1 Q => ∃ k, TruV X.K x H1 k ∧ if k = true then tE X.K ad G W (fun τ S => den G cal b τ S) σ H1 Q else Q x H1) hh fun w τ a v s rt ra ok => ?_
    split at ok
    · rename_i e; exact ⟨true, tru_rel s ra e, w, τ, rfl, s, rt, ok⟩
    · rename_i e; exact ⟨false, tru_rel s ra e, ok.ret rfl s ra⟩
    · exact ok.elim
  | .or_ a b, X, W, m, F, x, h => by
    cases x <;> simp only [mE] at h <;> first | (cases h; done) | skip
    rename_i op xs pos
    cases op <;> first | (cases h; done) | skip
    rcases xs with _ | ⟨x, _ | ⟨y, r⟩⟩ <;> first | (cases h; done) | skip
    simp only [Bool.and_eq_true] at h
    obtain ⟨h1, h2⟩ := h
    have T := sE a F x h1
    have U : PE X (.BoolOp .Or (y :: r) pos) (tE X.K ad G W (fun τ S => den G cal b τ S)) ∧ PW X (.BoolOp .Or (y :: r) pos) (tT X.K ad G W (fun τ S => tst G cal b τ S)) := by
      cases r with
      | nil => have V := sE b F y h2; exact ⟨pe_one V.pe, pw_or1 V.pt⟩
      | cons z r => have V := sE b F _ h2; exact ⟨V.pe, V.pw rfl⟩
    have pw : PW X (.BoolOp .Or (x :: y :: r) pos) (tT X.K ad G W (fun τ S => tst G cal (.or_ a b) τ S)) := by
      refine PW.imp (pw_or T.pt U.2) ?_
      intro σ H Q hh
      refine tT2 (f := fun c τ S => if c then .ok true S else tst G cal b τ S) (r := fun c H1 Q => if c = true then Q true H1 else tT X.K ad G W (fun τ S => tst G cal b τ S) σ H1 Q) (hh.congr fun τ S => tst_or a b τ S) fun w τ c s rt ok => ?_
      cases c with
      | true => exact okB.ret ok rfl s
      | false => exact ⟨w, τ, rfl, s, rt, ok⟩
    refine ⟨PE.imp (pe_orT T.pe U.1) ?_, pw.pt, fun _ => pw⟩
    intro σ H Q hh
    refine tE1 (r := fun x H1 Q => ∃ k, TruV X.K x H1 k ∧ if k = true then Q x H1 else tE X.K ad G W (fun τ S => den G cal b τ S) σ H1 Q) hh fun w τ a v s rt ra ok => ?_
    split at ok
    · rename_i e; exact ⟨false, tru_rel s ra e, w, τ, rfl, s, rt, ok⟩
    · rename_i e; exact ⟨true, tru_rel s ra e, ok.ret rfl s ra⟩
    · exact ok.elim
  | .ifx c a b, X, W, m, F, x, h => by
    cases x <;> simp only [mE] at h <;> first | (cases h; done) | skip
    rename_i x y z pos
    simp only [Bool.and_eq_true] at h
    obtain ⟨⟨h1, h2⟩, h3⟩ := h
    have T := sE c F x h1
    have U := sE a F y h2
    have V := sE b F z h3
    refine ⟨PE.imp (pe_ifExp T.pt U.pe V.pe) ?_, PT.imp (pt_ifx T.pt U.pt V.pt) ?_, fun z => by cases z⟩
    · intro σ H Q hh
      refine tT1 (f := fun c τ S => if c then den G cal a τ S else den G cal b τ S) (r := fun c H1 Q => if c = true then tE X.K ad G W (fun τ S => den G cal a τ S) σ H1 Q else tE X.K ad G W (fun τ S => den G cal b τ S) σ H1 Q) (hh.congr fun τ S => den_ifx c a b τ S) fun w τ c s rt ok => ?_
      cases c <;> exact ⟨w, τ, rfl, s, rt, ok⟩
    · intro σ H Q hh
      refine tT2 (f := fun c τ S => if c then tst G cal a τ S else tst G cal b τ S) (r := fun c H1 Q => if c = true then tT X.K ad G W (fun τ S => tst G cal a τ S) σ H1 Q else tT X.K ad G W (fun τ S => tst G cal b τ S) σ H1 Q) (hh.congr fun τ S => tst_ifx c a b τ S) fun w τ c s rt ok => ?_
      cases c <;> exact ⟨w, τ, rfl, s, rt, ok⟩
  | .cmp op a b, X, W, m, F, x, h => by
    cases x <;> simp only [mE] at h <;> first | (cases h; done) | skip
    rename_i x ops ys pos
    split at h
    case h_2 => cases h
    rename_i x op' y p0 e0
    cases e0
    simp only [Bool.and_eq_true, decide_eq_true_eq, Bool.not_eq_true'] at h
    obtain ⟨⟨⟨rfl, h0⟩, h1⟩, h2⟩ := h
    have T := sE a F x h1
    have U := sE b F y h2
    refine ⟨PE.imp (pe_cmpR (opr_cmp (ad := ad) op (unitsOk F)) T.pe U.pe h0) ?_, PT.imp (pt_cmpR (opr_cmp (ad := ad) op (unitsOk F)) T.pe U.pe h0) ?_, fun z => by cases z⟩
    · intro σ H Q hh
      refine tE2 (f := fun a b τ S => R.of ((cmpO op a b S).map .bl) S) (r := rCmp X.K ad op) hh fun w τ a b v u s rt ra rb ok => ?_
      obtain ⟨c, e1, ok⟩ := ok.of
      obtain ⟨kk, e2, rfl⟩ := Option.map_eq_some_iff.mp e1
      exact ⟨w, a, b, kk, rfl, s, ra, rb, e2, ok.ret rfl s bl_rel⟩
    · intro σ H Q hh
      refine tE2 (G := G) (W := W) (Q := fun x H' => ∃ k, x = .bl k ∧ Q k H') (f := fun a b τ S => R.of ((cmpO op a b S).map .bl) S) (r := rCmp X.K ad op) (tst_bl (mm := fun τ S => den G cal (.cmp op a b) τ S) cmp_bl hh) fun w τ a b v u s rt ra rb ok => ?_
      obtain ⟨c, e1, ok⟩ := ok.of
      obtain ⟨kk, e2, rfl⟩ := Option.map_eq_some_iff.mp e1
      exact ⟨w, a, b, kk, rfl, s, ra, rb, e2, ok.ret rfl s bl_rel⟩
  | .chn p q a b c, X, W, m, F, x, h => by
    cases x <;> simp only [mE] at h <;> first | (cases h; done) | skip
    rename_i x ops ys pos
    split at h
    case h_2 => cases h
    rename_i x op' oq' y z p0 e0
    cases e0
    simp only [Bool.and_eq_true, decide_eq_true_eq, Bool.not_eq_true'] at h
    obtain ⟨⟨⟨⟨⟨rfl, rfl⟩, h0⟩, h1⟩, h2⟩, h3⟩ := h
    have T := sE a F x h1
    have U := sE b F y h2
    have V := sE c F z h3
    refine ⟨PE.imp (pe_chain (opr_cmp (ad := ad) p (unitsOk F)) (opr_cmp (ad := ad) q (unitsOk F)) T.pe U.pe V.pe h0) ?_, PT.imp (pt_chain (opr_cmp (ad := ad) p (unitsOk F)) (opr_cmp (ad := ad) q (unitsOk F)) T.pe U.pe V.pe h0) ?_, fun z => by cases z⟩
    · intro σ H Q hh
      exact chn_ok hh
    · intro σ H Q hh
      exact chn_ok (tst_bl (mm := fun τ S => den G cal (.chn p q a b c) τ S) chn_bl hh)
  | .tup es, X, W, m, F, x, h => by
    cases x <;> simp only [mE] at h <;> first | (cases h; done) | skip
    rename_i xs kk pos
    simp only [Bool.and_eq_true, decide_eq_true_eq] at h
    obtain ⟨h0, h⟩ := h
    refine Tri.of rfl (PE.imp (pe_tup (sEs es F xs h).1) ?_)
    intro σ H Q hh
    refine tA1L (f := fun xs τ S => .ok (.tup xs) S) (r := fun xs H1 Q => xs.length ≤ sizeLine ∧ ∀ p, H1 p = none → Q (.ref p) (upd H1 p (.tup xs))) hh fun w τ a v s rt ra hl ok => ?_
    have hz : v.length ≤ 100000 := by rw [← ra.length, hl, (allStar h).2]; exact h0
    exact ⟨Nat.le_trans hz small_list, ok.mkT s ra⟩
  | .lst fl es, X, W, m, F, x, h => by
    cases x <;> simp only [mE] at h <;> first | (cases h; done) | skip
    rename_i xs pos
    simp only [Bool.and_eq_true, decide_eq_true_eq] at h
    obtain ⟨h0, h⟩ := h
    refine Tri.of rfl (PE.imp (pe_lst (sEs es F xs h).1) ?_)
    intro σ H Q hh
    refine tA1L (f := fun xs τ S => mkL fl xs S) (r := fun xs H1 Q => xs.length ≤ sizeLine ∧ ∀ p, H1 p = none → Q (.ref p) (upd H1 p (.lst xs))) hh fun w τ a v s rt ra hl ok => ?_
    have hz : v.length ≤ 100000 := by rw [← ra.length, hl, (allStar h).2]; exact h0
    exact ⟨Nat.le_trans hz small_list, ok.mkL s ra⟩
  | .dic t [] [], X, W, m, F, x, h => by
    cases x <;> simp only [mE] at h <;> first | (cases h; done) | skip
    rename_i ks vs pos
    cases ks <;> first | (cases h; done) | skip
    cases vs <;> first | (cases h; done) | skip
    cases t with
    | false =>
      refine Tri.of rfl (PE.imp pe_dnewK ?_)
      rintro σ H Q ⟨w, τ, rfl, s, rt, ok⟩ p hp
      have g := upd_grow (o := .dK []) hp
      exact ok ⟨w.ms ++ [p], w.S ++ [.dic false []], upd w.H p (.dK []), w.hid⟩ _ rfl (Le.new s hp g) (s.new (o := .dic false []) hp g ⟨_, upd_same⟩ ⟨[], upd_same, .nil⟩) (new_ref s)
    | true =>
      refine Tri.of rfl (PE.imp pe_dnewT ?_)
      rintro σ H Q ⟨w, τ, rfl, s, rt, ok⟩ p hp
      have g := upd_grow (o := .dT []) hp
      exact ok ⟨w.ms ++ [p], w.S ++ [.dic true []], upd w.H p (.dT []), w.hid⟩ _ rfl (Le.new s hp g) (s.new (o := .dic true []) hp g ⟨_, upd_same⟩ ⟨[], upd_same, .nil⟩) (new_ref s)
  | .dic t (k0 :: ks) vs, X, W, m, F, x, h => by
    cases x <;> simp only [mE] at h <;> first | (cases h; done) | skip
    rename_i keys values pos
    simp only [Bool.and_eq_true, decide_eq_true_eq] at h
    obtain ⟨⟨⟨h1, h2⟩, h3⟩, h4⟩ := h
    have P := (sEs vs F values h4).2.2
    obtain ⟨kA, e1, e2, okk, hall, hlen, mk⟩ := keys_ok (X := X) h1
    have h0 : keys ≠ [] := by intro z; subst z; simp [mKs] at h1
    have hv := (allStar h4).2
    refine Tri.of rfl (PE.imp (pe_disp (pps_of (mk values) P (by omega)) hall h3 h0 h2) ?_)
    rintro σ H Q ⟨w, τ, rfl, s, rt, ok⟩
    exact disp_ok (ks := k0 :: ks) e1 e2 okk (by omega) s rt ok
  | .dic t [] (_ :: _), X, W, m, F, x, h => by simp [mE] at h
  | .call d es, X, W, m, F, x, h => by
    cases x <;> simp only [mE] at h <;> first | (cases h; done) | skip
    rename_i f xs kws pos
    cases f <;> first | (cases h; done) | skip
    rename_i x p
    cases kws <;> first | (cases h; done) | skip
    simp only [Bool.and_eq_true, decide_eq_true_eq] at h
    obtain ⟨hcalm, h⟩ := h
    obtain ⟨⟨⟨h1, h2⟩, h3⟩, h4⟩ := h
    obtain ⟨d1, d2⟩ := F.st.dn d x h3
    have U := (sEs es F xs h4).1
    refine Tri.of rfl ?_
    cases xs with
    | nil =>
      have : es = [] := by
        have := (allStar h4).2
        cases es with
        | nil => rfl
        | cons _ _ => simp at this
      subst this
      refine PE.imp (pe_calR0 (W := W) (F.st.fns d) ((F.room hcalm).mono (by omega)) (F.glob h1) d1 d2 F.ps (not_odd h2).1) ?_
      rintro σ H Q ⟨w, τ, rfl, s, rt, ok⟩
      exact ⟨w, [], rfl, s, RelAs.nil, ok⟩
    | cons x xs =>
      have hs := (allStar h4).1
      have hs' : noStar x = true ∧ xs.all noStar = true := by simpa using hs
      refine PE.imp (pe_calR (W := W) (F.st.fns d) ((F.room hcalm).mono (by omega)) (F.glob h1) d1 d2 F.ps U (not_odd h2).1 hs'.1 hs'.2) ?_
      intro σ H Q hh
      refine tA1L (f := fun xs τ S => cal d xs S) (r := fun vs H1 Q => spF X.K ad G (cal d) vs H1 Q (fun c d H' => W c d σ H')) hh fun w τ a v s rt ra hl ok => ?_
      exact ⟨w, a, rfl, s, ra, ok⟩
  | .pcall d es, X, W, m, F, x, h => by
    cases x <;> simp only [mE] at h <;> first | (cases h; done) | skip
    rename_i f xs kws pos
    cases f <;> first | (cases h; done) | skip
    rename_i x p
    cases kws <;> first | (cases h; done) | skip
    simp only [Bool.and_eq_true, decide_eq_true_eq] at h
    obtain ⟨hcalm, h⟩ := h
    obtain ⟨⟨⟨h1, h2⟩, h3⟩, h4⟩ := h
    obtain ⟨d1, d2⟩ := F.st.dn d x h3
    have U := (sEs es F xs h4).1
    refine Tri.of rfl ?_
    cases xs with
    | nil =>
      have : es = [] := by
        have := (allStar h4).2
        cases es with
        | nil => rfl
        | cons _ _ => simp at this
      subst this
      refine PE.imp (pe_calR0 (W := W) ((F.st.fns d).imp fun _ _ _ _ => spF_pcal) ((F.room hcalm).mono (by omega)) (F.glob h1) d1 d2 F.ps (not_odd h2).1) ?_
      rintro σ H Q ⟨w, τ, rfl, s, rt, ok⟩
      exact ⟨w, [], rfl, s, RelAs.nil, ok⟩
    | cons x xs =>
      have hs := (allStar h4).1
      have hs' : noStar x = true ∧ xs.all noStar = true := by simpa using hs
      refine PE.imp (pe_calR (W := W) ((F.st.fns d).imp fun _ _ _ _ => spF_pcal) ((F.room hcalm).mono (by omega)) (F.glob h1) d1 d2 F.ps U (not_odd h2).1 hs'.1 hs'.2) ?_
      intro σ H Q hh
      refine tA1L (f := fun xs τ S => pcal cal d xs S) (r := fun vs H1 Q => spF X.K ad G (pcal cal d) vs H1 Q (fun c d H' => W c d σ H')) hh fun w τ a v s rt ra hl ok => ?_
      exact ⟨w, a, rfl, s, ra, ok⟩
  | .kcall i es ws, X, W, m, F, x, h => by
    cases x <;> simp only [mE] at h <;> first | (cases h; done) | skip
    rename_i f xs kws pos
    cases f <;> first | (cases h; done) | skip
    rename_i x p
    cases kws <;> first | (cases h; done) | skip
    rename_i kw kws
    simp only [Bool.and_eq_true] at h
    obtain ⟨hcalm, h⟩ := h
    obtain ⟨⟨⟨⟨h1, h2⟩, h3⟩, h4⟩, h5⟩ := h
    cases ek : G.kwc[i]? with
    | none => rw [ek] at h3; cases h3
    | some kc =>
      rw [ek] at h3
      simp only [Bool.and_eq_true, decide_eq_true_eq] at h3
      obtain ⟨h3, hn⟩ := h3
      obtain ⟨d1, d2⟩ := F.st.dn _ x h3
      obtain ⟨fd, ps, fo, kb⟩ := F.st.kwf i kc ek
      have U := (sEs es F xs h4).1
      have V := tKs (kws := kw :: kws) (sEs ws F ((kw :: kws).map (·.value)) h5).2.2
      refine Tri.of rfl ?_
      cases xs with
      | nil =>
        have : es = [] := by
          have := (allStar h4).2
          cases es with
          | nil => rfl
          | cons _ _ => simp at this
        subst this
        refine PE.imp (pe_kwR0 (W := W) fo kb ((F.room hcalm).mono (by omega)) (F.glob h1) d1 d2 F.ps V hn (not_odd h2).1) ?_
        rintro σ H Q ⟨w, τ, rfl, s, rt, ok⟩
        have ok : okR X.K ad G Q (fun c d H' => W c d σ H') w ((dens G cal ws τ w.S).bind fun zs S2 => match G.kwc[i]? with | some kc => cal kc.d (kc.fill .non [] zs) S2 | none => .no) := ok
        rw [ek] at ok
        exact ⟨w, τ, rfl, s, rt, okA.bindR ok fun w1 b zs l s1 rb ok1 => ⟨w1, kc.fill .non [] b, rfl, s1, fill_rel RelAs.nil rb, ok1⟩⟩
      | cons x xs =>
        have hs := (allStar h4).1
        have hs' : noStar x = true ∧ xs.all noStar = true := by simpa using hs
        refine PE.imp (pe_kwR (W := W) fo kb ((F.room hcalm).mono (by omega)) (F.glob h1) d1 d2 F.ps U V hn (not_odd h2).1 hs'.1 hs'.2) ?_
        rintro σ H Q ⟨w, τ, rfl, s, rt, ok⟩
        have ok : okR X.K ad G Q (fun c d H' => W c d σ H') w ((dens G cal es τ w.S).bind fun xs S1 => (dens G cal ws τ S1).bind fun zs S2 => match G.kwc[i]? with | some kc => cal kc.d (kc.fill .non xs zs) S2 | none => .no) := ok
        rw [ek] at ok
        refine ⟨w, τ, rfl, s, rt, okA.bindR ok fun w1 a vs l s1 ra ok1 => ?_⟩
        exact ⟨w1, τ, rfl, s1, rt.mono l.mo, okA.bindR ok1 fun w2 b zs l2 s2 rb ok2 => ⟨w2, kc.fill .non a b, rfl, s2, fill_rel (RelAs.mono l2.mo _ _ ra) rb, ok2⟩⟩
  | .bi b es, X, W, m, F, x, h => by
    cases x <;> simp only [mE] at h <;> first | (cases h; done) | skip
    rename_i f xs kws pos
    cases f <;> first | (cases h; done) | skip
    rename_i x p
    cases kws <;> first | (cases h; done) | skip
    simp only [Bool.and_eq_true, beq_iff_eq] at h
    obtain ⟨hcalm, h⟩ := h
    obtain ⟨⟨⟨⟨rfl, h1⟩, h2⟩, h3⟩, h4⟩ := h
    cases xs with
    | nil => simp at h3
    | cons x xs =>
      have hs' : noStar x = true ∧ xs.all noStar = true := by simpa using (allStar h4).1
      refine Tri.of rfl (PE.imp (s_bi F hcalm h1 h2 (sEs es F _ h4).1 hs'.1 hs'.2) ?_)
      intro σ H Q hh
      refine tA1L (f := fun xs τ S => biO b xs S) (r := fun vs H1 Q => rBi X.K ad G b vs H1 Q) hh fun w τ a v s rt ra hl ok => ?_
      exact ⟨_, w, a, rfl, s, ra, ok⟩
  | .isi e t, X, W, m, F, x, h => by
    cases x <;> simp only [mE] at h <;> first | (cases h; done) | skip
    rename_i f xs kws pos
    cases f <;> first | (cases h; done) | skip
    rename_i f p
    rcases xs with _ | ⟨y, _ | ⟨z, _ | ⟨z', r⟩⟩⟩
    · cases h
    · cases h
    case cons.cons.cons => cases z <;> cases h
    cases z <;> first | (cases h; done) | skip
    rename_i z pz
    cases kws <;> first | (cases h; done) | skip
    simp only [Bool.and_eq_true, beq_iff_eq] at h
    obtain ⟨⟨⟨⟨⟨rfl, h1⟩, h2⟩, h3⟩, h4⟩, h5⟩ := h
    have hc : (∀ c, t = .own c → c < G.clss.length) ∧ PE X (.Name z pz) (tC (tyV ad.cls t)) := by
      cases t with
      | own c =>
        simp only at h5
        cases ec : G.clss[c]? with
        | none => rw [ec] at h5; cases h5
        | some ci =>
          rw [ec] at h5
          simp only [Bool.and_eq_true, beq_iff_eq] at h5
          obtain ⟨rfl, o⟩ := h5
          exact ⟨fun d e => by cases e; exact (List.getElem?_eq_some_iff.mp ec).1, pe_glob (F.glob h2) (F.st.cls c ci ec) rfl (not_odd o).1⟩
      | _ =>
        have e : z = tyNm _ := (beq_iff_eq.mp h5).symm
        subst e
        exact ⟨fun d e => (by cases e), pe_bltn (v := .ty (tyN _)) (F.glob h2) (F.st.blt _ (ty_odd _ rfl).2.2) (boot_ty _ rfl) rfl (ty_odd _ rfl).1 (ty_odd _ rfl).2.1⟩
    have pa : PA X [y, .Name z pz] (tCons (tE X.K ad G W (fun τ S => den G cal e τ S)) (tCons (tC (tyV ad.cls t)) tNil)) := pa_cons (sE e F y h3).pe (pa_cons hc.2 pa_nil rfl) (starEach_one h4 _ _)
    refine Tri.of rfl (PE.imp (pe_callB call_isi (F.glob h1) (F.st.blt _ (by decide +kernel)) PyProof.Rows.boot_isinstance pa (by decide +kernel) (by decide +kernel) (starEach_one h4 _ _) rfl) ?_)
    intro σ H Q hh
    refine tE1 (r := fun x H1 Q => rIsi X.K [x, tyV ad.cls t] H1 Q) hh fun w τ a v s rt ra ok => ?_
    obtain ⟨c, e1, ok⟩ := ok.of
    obtain ⟨kk, e2, rfl⟩ := Option.map_eq_some_iff.mp e1
    obtain ⟨tt, h6, h7⟩ := isi_rel s F.st.cf F.st.ow ra hc.1 e2
    exact ⟨v, tyV ad.cls t, tt, tyU ad.cls t, kk, rfl, tyV_cls t, h6, h7, ok.ret rfl s bl_rel⟩
  | .idx a b, X, W, m, F, x, h => by
    cases x <;> simp only [mE] at h <;> first | (cases h; done) | skip
    rename_i x y pos
    simp only [Bool.and_eq_true] at h
    obtain ⟨⟨h0, h1⟩, h2⟩ := h
    refine Tri.of rfl (PE.imp (pe_ix (ixr_idx (ad := ad) (unitsOk F)) (sE a F x h1).pe (sE b F y h2).pe (sub_plain h0)) ?_)
    intro σ H Q hh
    refine tE2 (f := fun a b τ S => R.of (idxO S a b) S) (r := rIdx X.K ad) hh fun w τ a b v u s rt ra rb ok => ?_
    obtain ⟨c, e1, ok⟩ := ok.of
    exact ⟨w, a, b, c, rfl, s, ra, rb, e1, fun v r => ok.ret rfl s r⟩
  | .tab y e, X, W, m, F, x, h => by
    cases x <;> simp only [mE] at h <;> first | (cases h; done) | skip
    rename_i b i pos
    cases b <;> first | (cases h; done) | skip
    rename_i z p
    simp only [Bool.and_eq_true, beq_iff_eq] at h
    obtain ⟨⟨⟨⟨⟨rfl, h1⟩, h2⟩, h3⟩, h4⟩, h5⟩ := h
    obtain ⟨kvs, ek⟩ := Option.isSome_iff_exists.mp h4
    obtain ⟨g1, g2⟩ := F.st.tab _ _ ek
    obtain ⟨es, n, D⟩ := g2.kd
    refine Tri.of rfl (PE.imp (pe_ix ix_kdict (pe_glob (v := .ref (ad.tb y)) (F.glob h1) g1 rfl (not_odd h2).1) (sE e F i h5).pe (sub_plain h3)) ?_)
    intro σ H Q hh
    refine tE1 (r := fun u H1 Q => rIxD X.K X.w (.ref (ad.tb y)) u H1 Q) (f := fun a τ S => match a with
      | .str z => R.of ((G.tabs.lookup y).bind fun kvs => kvs.lookup z) S
      | _ => .no) hh fun w τ a v s rt ra ok => ?_
    cases a <;> first | exact (ok : False).elim | skip
    rename_i z
    obtain ⟨c, e1, ok⟩ := ok.of
    rw [ek] at e1
    obtain ⟨u, v', h6, h7, h8⟩ := g2.at_ z c e1
    obtain ⟨rfl, _⟩ := relA_str ra
    exact ⟨ad.tb y, mkS z, v', rfl, rfl, ⟨es, n, u, D.at_, D.lit, h6, h7⟩, ok.ret rfl s (h8 w)⟩
  | .tabIn neg y e, X, W, m, F, x, h => by
    cases x <;> simp only [mE] at h <;> first | (cases h; done) | skip
    rename_i l ops ys pos
    split at h
    case h_2 => cases h
    rename_i l op z p p0 e0
    cases e0
    simp only [Bool.and_eq_true, beq_iff_eq, decide_eq_true_eq, Bool.not_eq_true'] at h
    obtain ⟨⟨⟨⟨⟨⟨rfl, h1⟩, h2⟩, h4⟩, rfl⟩, h3⟩, h5⟩ := h
    obtain ⟨kvs, ek⟩ := Option.isSome_iff_exists.mp h4
    obtain ⟨g1, g2⟩ := F.st.tab _ _ ek
    obtain ⟨es, n, D⟩ := g2.kd
    have h2 : (!odd y) = true := by rw [h2]; rfl
    have nm := pe_glob (X := X) (pos := p) (v := .ref (ad.tb y)) (F.glob h1) g1 rfl (not_odd h2).1
    have op : OpR X (compareOp (if neg then CmpOp.NotIn else CmpOp.In)) (fun x y' H Q => ∃ (z : Str) (r : Option Value), x = .str z ∧ y' = .ref (ad.tb y) ∧ PySem.W.nsIn X.K (ad.tb y) z = some r ∧ Q (.bl (neg != r.isSome)) H) := by
      cases neg with
      | false => simpa using op_in_kd D
      | true => simpa using op_notIn_kd D
    have key : ∀ (a : A) (w : Wd) (v : V) (Q : VK) (E : XK) (S : List O), w.S = S → RelS X.K ad.cls w → RelA X.K w a v → okR X.K ad G Q E w (match a with
      | .str z => R.of ((G.tabs.lookup y).map fun kvs => .bl (neg != (kvs.lookup z).isSome)) S
      | _ => .no) → ∃ (z : Str) (r : Option Value), v = .str z ∧ (V.ref (ad.tb y)) = .ref (ad.tb y) ∧ PySem.W.nsIn X.K (ad.tb y) z = some r ∧ Q (.bl (neg != r.isSome)) w.H := by
      intro a w v Q E S eS s ra ok
      cases a <;> first | exact (ok : False).elim | skip
      rename_i z
      obtain ⟨c, e1, ok⟩ := ok.of
      rw [ek] at e1
      have e1 : some (A.bl (neg != (kvs.lookup z).isSome)) = some c := e1
      cases e1
      obtain ⟨rfl, _⟩ := relA_str ra
      cases hz : kvs.lookup z with
      | none =>
        rw [hz] at ok
        exact ⟨mkS z, none, rfl, rfl, g2.no z hz, ok.ret eS s bl_rel⟩
      | some b =>
        rw [hz] at ok
        obtain ⟨u, v', h6, _, _⟩ := g2.at_ z b hz
        exact ⟨mkS z, some u, rfl, rfl, h6, ok.ret eS s bl_rel⟩
    have T := sE e F l h5
    refine ⟨PE.imp (pe_cmpR op T.pe nm h3) ?_, PT.imp (pt_cmpR op T.pe nm h3) ?_, fun z => by cases z⟩
    · intro σ H Q hh
      exact tE1 (r := fun u H1 Q => ∃ (z : Str) (r : Option Value), u = .str z ∧ (V.ref (ad.tb y)) = .ref (ad.tb y) ∧ PySem.W.nsIn X.K (ad.tb y) z = some r ∧ Q (.bl (neg != r.isSome)) H1) (f := fun a τ S => match a with
        | .str z => R.of ((G.tabs.lookup y).map fun kvs => .bl (neg != (kvs.lookup z).isSome)) S
        | _ => .no) hh fun w τ a v s rt ra ok => key a w v Q _ w.S rfl s ra ok
    · intro σ H Q hh
      refine tE1 (G := G) (W := W) (Q := fun x H' => ∃ k, x = .bl k ∧ Q k H') (r := fun u H1 Q => ∃ (z : Str) (r : Option Value), u = .str z ∧ (V.ref (ad.tb y)) = .ref (ad.tb y) ∧ PySem.W.nsIn X.K (ad.tb y) z = some r ∧ Q (.bl (neg != r.isSome)) H1) (f := fun a τ S => match a with
        | .str z => R.of ((G.tabs.lookup y).map fun kvs => .bl (neg != (kvs.lookup z).isSome)) S
        | _ => .no) (tst_bl (mm := fun τ S => den G cal (.tabIn neg y e) τ S) (fun τ S x S' hx => ?_) hh) fun w τ a v s rt ra ok => key a w v _ _ w.S rfl s ra ok
      obtain ⟨a, S1, _, hx⟩ := bind_ok (show ((den G cal e τ S).bind _) = .ok x S' from hx)
      cases a <;> first | (cases hx; done) | skip
      rename_i z
      simp only [ek, Option.map_some, R.of_some] at hx
      cases hx
      exact ⟨_, rfl⟩
  | .lenSet elt t ik src ifs own, X, W, m, F, x, h => by
    cases x <;> simp only [mE] at h <;> first | (cases h; done) | skip
    rename_i f xs kws pos
    cases f <;> first | (cases h; done) | skip
    rename_i x p
    rcases xs with _ | ⟨y, _ | ⟨z, r⟩⟩ <;> first | (cases h; done) | skip
    · cases y <;> first | (cases h; done) | skip
      rename_i elt' gens scope posc
      rcases gens with _ | ⟨⟨tg, iter, ifs', asy⟩, _ | ⟨g2, r⟩⟩ <;> first | (cases h; done) | skip
      cases kws <;> first | (cases h; done) | skip
      simp only [Bool.and_eq_true, beq_iff_eq, decide_eq_true_eq, List.all_eq_true, List.contains_iff_mem] at h
      obtain ⟨hcalm, h⟩ := h
      obtain ⟨⟨⟨⟨⟨⟨⟨⟨⟨⟨rfl, hgl⟩, rfl⟩, h1⟩, h2⟩, h3⟩, h4⟩, h5⟩, h6⟩, h7⟩, h8⟩ := h
      cases ha : srcArgs m ik tg iter with
      | none => rw [ha] at h2; cases h2
      | some args =>
        rw [ha] at h2
        simp only [Bool.and_eq_true] at h2
        have U := sEs src F args h2.2
        have L := lcParts F h1 ha h2.1 h2.2 ⟨U.1, U.2.1⟩ h3 h5 h6 h7 (fun s H C cl fp => let z := sEs ifs (F.blk s H scope cl C fp) ifs' h6; ⟨z.1, z.2.1⟩) (fun s H C cl fp => (sE elt (F.blk s H scope cl C fp) elt' h4).pe)
        exact Tri.of rfl (PE.imp (pe_lenT (pe_scT (F.calm hcalm) F.nd L.pi L.ok L.pg L.pt L.pe (fun x => set_plain h1 X.env x)) (F.glob hgl) (F.st.blt _ (by decide +kernel)) rfl) fun σ H Q hh => s_lenSet h8 hh)
    · split at h
      · rename_i e
        cases e
      · cases h
  | .srtSet fl elt t ik src ifs own, X, W, m, F, x, h => by
    cases x <;> simp only [mE] at h <;> first | (cases h; done) | skip
    rename_i f xs kws pos
    cases f <;> first | (cases h; done) | skip
    rename_i x p
    rcases xs with _ | ⟨y, _ | ⟨z, r⟩⟩ <;> first | (cases h; done) | skip
    · cases y <;> first | (cases h; done) | skip
      rename_i elt' gens scope posc
      rcases gens with _ | ⟨⟨tg, iter, ifs', asy⟩, _ | ⟨g2, r⟩⟩ <;> first | (cases h; done) | skip
      cases kws <;> first | (cases h; done) | skip
      simp only [Bool.and_eq_true, beq_iff_eq, decide_eq_true_eq, List.all_eq_true, List.contains_iff_mem] at h
      obtain ⟨hcalm, h⟩ := h
      obtain ⟨⟨⟨⟨⟨⟨⟨⟨⟨⟨rfl, hgl⟩, rfl⟩, h1⟩, h2⟩, h3⟩, h4⟩, h5⟩, h6⟩, h7⟩, h8⟩ := h
      cases ha : srcArgs m ik tg iter with
      | none => rw [ha] at h2; cases h2
      | some args =>
        rw [ha] at h2
        simp only [Bool.and_eq_true] at h2
        have U := sEs src F args h2.2
        have L := lcParts F h1 ha h2.1 h2.2 ⟨U.1, U.2.1⟩ h3 h5 h6 h7 (fun s H C cl fp => let z := sEs ifs (F.blk s H scope cl C fp) ifs' h6; ⟨z.1, z.2.1⟩) (fun s H C cl fp => (sE elt (F.blk s H scope cl C fp) elt' h4).pe)
        exact Tri.of rfl (PE.imp (pe_srtI (F.calm hcalm) (pe_scI (F.calm hcalm) F.nd L.pi L.ok L.pg L.pt L.pe (fun x => set_plain h1 X.env x)) (F.glob hgl) (F.st.blt _ (by decide +kernel)) rfl) fun σ H Q hh => s_srtSet h8 hh)
    · split at h
      · rename_i e
        cases e
      · cases h
  | .dc ke ve t ik src ifs own, X, W, m, F, x, h => by
    cases x <;> simp only [mE] at h <;> first | (cases h; done) | skip
    rename_i ke' ve' gens scope pos
    rcases gens with _ | ⟨⟨tg, iter, ifs', asy⟩, _ | ⟨g2, r⟩⟩ <;> first | (cases h; done) | skip
    simp only [Bool.and_eq_true, beq_iff_eq, decide_eq_true_eq, List.all_eq_true, List.contains_iff_mem] at h
    obtain ⟨hcalm, h⟩ := h
    obtain ⟨⟨⟨⟨⟨⟨⟨⟨⟨rfl, h1⟩, h2⟩, h3⟩, h4⟩, h4'⟩, h5⟩, h6⟩, h7⟩, h8⟩ := h
    cases ha : srcArgs m ik tg iter with
    | none => rw [ha] at h2; cases h2
    | some args =>
      rw [ha] at h2
      simp only [Bool.and_eq_true] at h2
      have U := sEs src F args h2.2
      have L := lcParts F h1 ha h2.1 h2.2 ⟨U.1, U.2.1⟩ h3 h5 h6 h7 (fun s H C cl fp => let z := sEs ifs (F.blk s H scope cl C fp) ifs' h6; ⟨z.1, z.2.1⟩) (fun s H C cl fp => (sE ke (F.blk s H scope cl C fp) ke' h4).pe)
      exact Tri.of rfl (PE.imp (pe_dc (F.calm hcalm) F.nd L.pi L.ok L.pg L.pt L.pe (fun s H C cl fp => (sE ve (F.blk s H scope cl C fp) ve' h4').pe) (fun x => set_plain h1 X.env x)) fun σ H Q hh => s_dc h8 hh)
  | .lc fl elt t ik src ifs own, X, W, m, F, x, h => by
    cases x <;> simp only [mE] at h <;> first | (cases h; done) | skip
    rename_i elt' gens scope pos
    rcases gens with _ | ⟨⟨tg, iter, ifs', asy⟩, _ | ⟨g2, r⟩⟩ <;> first | (cases h; done) | skip
    simp only [Bool.and_eq_true, beq_iff_eq, decide_eq_true_eq, List.all_eq_true, List.contains_iff_mem] at h
    obtain ⟨hcalm, h⟩ := h
    obtain ⟨⟨⟨⟨⟨⟨⟨⟨rfl, h1⟩, h2⟩, h3⟩, h4⟩, h5⟩, h6⟩, h7⟩, h8⟩ := h
    cases ha : srcArgs m ik tg iter with
    | none => rw [ha] at h2; cases h2
    | some args =>
      rw [ha] at h2
      simp only [Bool.and_eq_true] at h2
      have U := sEs src F args h2.2
      have L := lcParts F h1 ha h2.1 h2.2 ⟨U.1, U.2.1⟩ h3 h5 h6 h7 (fun s H C cl fp => let z := sEs ifs (F.blk s H scope cl C fp) ifs' h6; ⟨z.1, z.2.1⟩) (fun s H C cl fp => (sE elt (F.blk s H scope cl C fp) elt' h4).pe)
      exact Tri.of rfl (PE.imp (pe_lc (F.calm hcalm) F.nd L.pi L.ok L.pg L.pt L.pe (fun x => set_plain h1 X.env x)) fun σ H Q hh => s_lc h8 hh)
  | .lc2 fl elt t ik src t2 k2 src2 own vs1, X, W, m, F, x, h => by
    cases x <;> simp only [mE] at h <;> first | (cases h; done) | skip
    rename_i elt' gens scope pos
    rcases gens with _ | ⟨⟨tg, iter, ifs', asy⟩, _ | ⟨⟨tg2, iter2, ifs2, asy2⟩, _ | ⟨g3, r⟩⟩⟩ <;> first | (cases h; done) | (cases ifs' <;> cases h; done) | (cases ifs' <;> cases ifs2 <;> cases h; done) | skip
    cases ifs' <;> first | (cases h; done) | skip
    cases ifs2 <;> first | (cases h; done) | skip
    simp only [Bool.and_eq_true, beq_iff_eq, List.all_eq_true, List.contains_iff_mem] at h
    obtain ⟨hcalm, rfl, rfl, h1, h1', h2, h2', h3, h3', h4, h7, h8, h8', h9⟩ := h
    cases ha : srcArgs m ik tg iter with
    | none => rw [ha] at h2; cases h2
    | some args =>
      cases hb : srcArgs (m.blk scope) k2 tg2 iter2 with
      | none => rw [hb] at h2'; cases h2'
      | some args2 =>
        rw [ha] at h2
        rw [hb] at h2'
        simp only [Bool.and_eq_true] at h2 h2'
        have U := sEs src F args h2.2
        have S1 := allStar h2.2
        have S2 := allStar h2'.2
        refine Tri.of rfl (PE.imp (pe_lc2 (F.calm hcalm) F.nd (s_pi F ha h2.1 S1.1 S1.2 U.1 (fun x hx => let ⟨e, a, b, _⟩ := U.2.1 x hx; ⟨e, a, b⟩)) (by rw [F.N, F.sc]; exact blkOk_by h7) h9
          (fun s H C cl fp => sT (ad := ad) (F.blk s H scope cl C fp).toMx t tg h3) (fun s H C cl fp => pts_nil)
          (fun s H C cl fp => let V := sEs src2 (F.blk s H scope cl C fp) args2 h2'.2; s_pi (F.blk s H scope cl C fp) hb h2'.1 S2.1 S2.2 V.1 (fun x hx => let ⟨e, a, b, _⟩ := V.2.1 x hx; ⟨e, a, b⟩))
          (fun s H C cl fp => sT (ad := ad) (F.blk s H scope cl C fp).toMx t2 tg2 h3') (fun s H C cl fp => pts_nil)
          (fun s H C cl fp => (sE elt (F.blk s H scope cl C fp) elt' h4).pe) (fun x => set_plain h1 X.env x) (fun env x => set_plain h1' env x)) fun σ H Q hh => s_lc2 h8 h8' hh)
  | .mk c es, X, W, m, F, x, h => by
    cases x <;> simp only [mE] at h <;> first | (cases h; done) | skip
    rename_i f xs kws pos
    cases f <;> first | (cases h; done) | skip
    rename_i x p
    cases kws <;> first | (cases h; done) | skip
    simp only [Bool.and_eq_true] at h
    obtain ⟨hcalm, h⟩ := h
    obtain ⟨⟨⟨h1, h2⟩, h3⟩, h4⟩ := h
    cases ec : G.clss[c]? with
    | none => rw [ec] at h3; cases h3
    | some ci =>
      rw [ec] at h3
      have h3 : ci.name = x ∧ ci.init.isSome = true := by simpa using h3
      obtain ⟨h3, h6⟩ := h3
      subst h3
      have hm := F.st.cls c ci ec
      have M := F.st.mem c ci ec
      have U := (sEs es F xs h4).1
      cases ei : ci.init with
      | none => rw [ei] at h6; cases h6
      | some d =>
        refine Tri.of rfl ?_
        cases xs with
        | nil =>
          have : es = [] := by
            have := (allStar h4).2
            cases es with
            | nil => rfl
            | cons _ _ => simp at this
          subst this
          refine PE.imp (pe_mkR0 (W := W) (M.init d ei) (F.st.fns d) ((F.room hcalm).mono (by omega)) (F.glob h1) hm F.ps (not_odd h2).1) ?_
          rintro σ H Q ⟨w, τ, rfl, s, rt, ok⟩
          exact mk_ok ec ei s RelAs.nil ok
        | cons x xs =>
          have hs' : noStar x = true ∧ xs.all noStar = true := by simpa using (allStar h4).1
          refine PE.imp (pe_mkR (W := W) (M.init d ei) (F.st.fns d) ((F.room hcalm).mono (by omega)) (F.glob h1) hm F.ps U (not_odd h2).1 hs'.1 hs'.2) ?_
          intro σ H Q hh
          exact tA1L (r := fun vs H1 Q => ∀ x dx, H1 x = none → H1 dx = none → dx ≠ x → spF X.K ad G (cal d) (.ref x :: vs) (upd (upd H1 dx (.own x)) x (.ins (ad.cls c) dx [])) (fun v H2 => v = .non ∧ Q (.ref x) H2) (fun c d H' => W c d σ H')) (f := fun xs τ S => match G.cls c with
            | some ⟨_, some d, _, _⟩ => (cal d (.ref S.length :: xs) (S ++ [.ins c []])).bind fun v S2 => match v with
              | .non => .ok (.ref S.length) S2
              | _ => .no
            | _ => .no) hh fun w τ a v s rt ra hl ok => mk_ok ec ei s ra ok
  | .mk2 c i es, X, W, m, F, x, h => by
    cases x <;> simp only [mE] at h <;> first | (cases h; done) | skip
    rename_i f xs kws pos
    cases f <;> first | (cases h; done) | skip
    rename_i x p
    cases kws <;> first | (cases h; done) | skip
    simp only [Bool.and_eq_true] at h
    obtain ⟨hcalm, h⟩ := h
    obtain ⟨⟨⟨h1, h2⟩, h3⟩, h4⟩ := h
    split at h3
    case h_2 => cases h3
    rename_i ci q ec ek
    simp only [Bool.and_eq_true, decide_eq_true_eq, beq_iff_eq] at h3
    obtain ⟨rfl, ei⟩ := h3
    have hm := F.st.cls c ci ec
    have M := (F.st.mem c ci ec).init q.d ei
    obtain ⟨dvs, rb, fo⟩ := F.st.dft i q ek
    have U := (sEs es F xs h4).1
    refine Tri.of rfl ?_
    cases xs with
    | nil =>
      have : es = [] := by
        have := (allStar h4).2
        cases es with
        | nil => rfl
        | cons _ _ => simp at this
      subst this
      refine PE.imp (pe_mkR0 (W := W) M fo ((F.room hcalm).mono (by omega)) (F.glob h1) hm F.ps (not_odd h2).1) ?_
      rintro σ H Q ⟨w, τ, rfl, s, rt, ok⟩
      have ok : okR X.K ad G Q (fun c d H' => W c d σ H') w (match G.dft[i]? with
        | some p => if ([] : List A).length + 1 = p.np then (cal p.d ((.ref w.S.length :: []) ++ p.vals) (w.S ++ [.ins c []])).bind fun v S2 => match v with
          | .non => .ok (.ref w.S.length) S2
          | _ => .no
          else .no
        | none => .no) := ok
      rw [ek] at ok
      simp only at ok
      split at ok
      case isFalse => exact (ok : False).elim
      rename_i hn
      exact fun x dx h1 h2 h3 => ⟨by simpa using hn, mk2_ok s RelAs.nil rb ok x dx h1 h2 h3⟩
    | cons x xs =>
      have hs' : noStar x = true ∧ xs.all noStar = true := by simpa using (allStar h4).1
      refine PE.imp (pe_mkR (W := W) M fo ((F.room hcalm).mono (by omega)) (F.glob h1) hm F.ps U (not_odd h2).1 hs'.1 hs'.2) ?_
      rintro σ H Q ⟨w, τ, rfl, s, rt, ok⟩
      have ok : okR X.K ad G Q (fun c d H' => W c d σ H') w ((dens G cal es τ w.S).bind fun xs S1 => match G.dft[i]? with
        | some p => if xs.length + 1 = p.np then (cal p.d ((.ref S1.length :: xs) ++ p.vals) (S1 ++ [.ins c []])).bind fun v S2 => match v with
          | .non => .ok (.ref S1.length) S2
          | _ => .no
          else .no
        | none => .no) := ok
      rw [ek] at ok
      refine ⟨w, τ, rfl, s, rt, okA.bindR ok fun w1 a vs l s1 ra ok1 => ?_⟩
      simp only at ok1
      split at ok1
      case isFalse => exact (ok1 : False).elim
      rename_i hn
      exact fun x dx h1 h2 h3 => ⟨by rw [List.length_cons, ← ra.length]; exact hn, mk2_ok s1 ra rb ok1 x dx h1 h2 h3⟩
  | .kmk c i es ws, X, W, m, F, x, h => by
    cases x <;> simp only [mE] at h <;> first | (cases h; done) | skip
    rename_i f xs kws pos
    cases f <;> first | (cases h; done) | skip
    rename_i x p
    cases kws <;> first | (cases h; done) | skip
    rename_i kw kws
    simp only [Bool.and_eq_true] at h
    obtain ⟨hcalm, h⟩ := h
    obtain ⟨⟨⟨⟨h1, h2⟩, h3⟩, h4⟩, h5⟩ := h
    split at h3
    case h_2 => cases h3
    rename_i ci kc ec ek
    simp only [Bool.and_eq_true, decide_eq_true_eq, beq_iff_eq] at h3
    obtain ⟨⟨rfl, ei⟩, hn⟩ := h3
    have hm := F.st.cls c ci ec
    have M := (F.st.mem c ci ec).init kc.d ei
    obtain ⟨fd, ps, fo, kb⟩ := F.st.kwf i kc ek
    have U := (sEs es F xs h4).1
    have V := tKs (kws := kw :: kws) (sEs ws F ((kw :: kws).map (·.value)) h5).2.2
    refine Tri.of rfl ?_
    cases xs with
    | nil =>
      have : es = [] := by
        have := (allStar h4).2
        cases es with
        | nil => rfl
        | cons _ _ => simp at this
      subst this
      refine PE.imp (pe_mkwR0 (W := W) M fo kb ((F.room hcalm).mono (by omega)) (F.glob h1) hm F.ps V hn (not_odd h2).1) ?_
      rintro σ H Q ⟨w, τ, rfl, s, rt, ok⟩
      have ok : okR X.K ad G Q (fun c d H' => W c d σ H') w ((dens G cal ws τ w.S).bind fun zs S2 => match G.kwc[i]? with
        | some kc => (cal kc.d (kc.fill .non (.ref S2.length :: []) zs) (S2 ++ [.ins c []])).bind fun v S3 => match v with
          | .non => .ok (.ref S2.length) S3
          | _ => .no
        | none => .no) := ok
      rw [ek] at ok
      exact ⟨w, τ, rfl, s, rt, okA.bindR ok fun w1 b zs l s1 rb ok1 => kmk_ok s1 RelAs.nil rb ok1⟩
    | cons x xs =>
      have hs' : noStar x = true ∧ xs.all noStar = true := by simpa using (allStar h4).1
      refine PE.imp (pe_mkwR (W := W) M fo kb ((F.room hcalm).mono (by omega)) (F.glob h1) hm F.ps U V hn (not_odd h2).1 hs'.1 hs'.2) ?_
      rintro σ H Q ⟨w, τ, rfl, s, rt, ok⟩
      have ok : okR X.K ad G Q (fun c d H' => W c d σ H') w ((dens G cal es τ w.S).bind fun xs S1 => (dens G cal ws τ S1).bind fun zs S2 => match G.kwc[i]? with
        | some kc => (cal kc.d (kc.fill .non (.ref S2.length :: xs) zs) (S2 ++ [.ins c []])).bind fun v S3 => match v with
          | .non => .ok (.ref S2.length) S3
          | _ => .no
        | none => .no) := ok
      rw [ek] at ok
      refine ⟨w, τ, rfl, s, rt, okA.bindR ok fun w1 a vs l s1 ra ok1 => ?_⟩
      exact ⟨w1, τ, rfl, s1, rt.mono l.mo, okA.bindR ok1 fun w2 b zs l2 s2 rb ok2 => kmk_ok s2 (RelAs.mono l2.mo _ _ ra) rb ok2⟩
  | .xf o f, X, W, m, F, x, h => by
    cases x <;> simp only [mE] at h <;> first | (cases h; done) | skip
    rename_i x g pos
    simp only [Bool.and_eq_true, beq_iff_eq] at h
    obtain ⟨⟨rfl, h1⟩, h2⟩ := h
    refine Tri.of rfl (PE.imp (pe_xg (sE o F x h2).pe (base_plain h1 _ _ _)) ?_)
    rintro σ H Q ⟨w, τ, rfl, s, rt, ok⟩
    refine ⟨w, τ, rfl, s, rt, okR.bindR ok fun w1 a v l1 s1 ra ok1 => ?_⟩
    cases a <;> first | exact (ok1 : False).elim | skip
    rename_i n
    obtain ⟨p, e1, rfl⟩ := relA_ref ra
    simp only at ok1
    split at ok1
    case h_2 => exact (ok1 : False).elim
    rename_i c fs hS
    split at ok1
    case h_2 => exact (ok1 : False).elim
    rename_i q hq
    split at ok1
    case isFalse => exact (ok1 : False).elim
    rename_i hf
    obtain ⟨y, ey, ok1⟩ := ok1.of
    obtain ⟨dd, ws, eH, vx, rs⟩ := s1.obj n p _ e1 hS
    obtain ⟨ec, xo⟩ := F.st.xcs c q hq
    rcases look_ins (f := f) rs with ⟨z, _⟩ | ⟨a', u, z1, z2, r⟩
    · rw [ey] at z; cases z
    · rw [ey] at z1; cases z1
      rw [← ec] at eH
      exact ⟨p, _, dd, ws, u, rfl, eH, xo.xf, xo.no f (by simpa using hf), vx.1, z2, ok1.ret rfl s1 r⟩
  | .inR neg x lo hi, X, W, m, F, y, h => by
    cases y <;> simp only [mE] at h <;> first | (cases h; done) | skip
    rename_i l ops ys pos
    split at h
    case h_2 => cases h
    rename_i l op r p a b p2 p0 e0
    cases e0
    simp only [Bool.and_eq_true, decide_eq_true_eq] at h
    obtain ⟨⟨⟨⟨⟨⟨⟨⟨hop, hr⟩, hg⟩, n1⟩, n2⟩, hb⟩, h1⟩, h2⟩, h3⟩ := h
    have hr := eq_of_beq hr
    subst hop hr
    have hb : behindInMarks (if neg = true then CmpOp.NotIn else CmpOp.In) (.Call (.Name "range" p) [a, b] [] p2) = false := by
      cases hx : behindInMarks (if neg = true then CmpOp.NotIn else CmpOp.In) (.Call (.Name "range" p) [a, b] [] p2) with
      | false => rfl
      | true => rw [hx] at hb; cases hb
    have T := sE x F l h1
    have pr : PE X (.Call (.Name "range" p) [a, b] [] p2) (tCB (fun vs H Q => ∃ i j, vs = [V.int i, V.int j] ∧ ∀ p, H p = none → Q (.ref p) (upd H p (.rng i j))) (tCons (tE X.K ad G W (fun τ S => den G cal lo τ S)) (tCons (tE X.K ad G W (fun τ S => den G cal hi τ S)) tNil))) :=
      pe_callTy cr_range2 (F.glob hg) (F.st.blt _ (by decide +kernel)) (by decide +kernel) (pa_cons (sE lo F a h2).pe (pa_cons (sE hi F b h3).pe pa_nil (starEach_one n2 _ _)) (starEach_one n1 _ _)) (by decide +kernel) (by decide +kernel) (starEach_one n1 _ _) (starEach_any p2 X.env (es := [b]) (by simp [n2]))
    have bl : ∀ τ S z S', den G cal (.inR neg x lo hi) τ S = .ok z S' → ∃ kk, z = .bl kk := by
      intro τ S z S' e
      obtain ⟨_, S1, _, e⟩ := bind_ok (show ((den G cal x τ S).bind _) = .ok z S' from e)
      obtain ⟨_, S2, _, e⟩ := bind_ok e
      obtain ⟨_, S3, _, e⟩ := bind_ok e
      split at e
      · cases e; exact ⟨_, rfl⟩
      · cases e
    cases neg with
    | true =>
      have rd : ∀ σ H Q, tE X.K ad G W (fun τ S => den G cal (.inR true x lo hi) τ S) σ H Q → tOp (fun x y H Q => ∃ i a lo hi, x = V.int i ∧ y = V.ref a ∧ H a = some (.rng lo hi) ∧ Q (.bl (!decide (lo ≤ i ∧ i < hi))) H) (tE X.K ad G W fun τ S => den G cal x τ S)
          (tCB (fun vs H Q => ∃ i j, vs = [V.int i, V.int j] ∧ ∀ p, H p = none → Q (.ref p) (upd H p (.rng i j))) (tCons (tE X.K ad G W fun τ S => den G cal lo τ S) (tCons (tE X.K ad G W fun τ S => den G cal hi τ S) tNil))) σ H Q := fun σ H Q hh =>
        inR_ok (r := fun x y H Q => ∃ i a lo hi, x = V.int i ∧ y = V.ref a ∧ H a = some (.rng lo hi) ∧ Q (.bl (!decide (lo ≤ i ∧ i < hi))) H) (fun i l h p H' Q e q => ⟨i, p, l, h, rfl, rfl, e, by simpa using q⟩) hh
      exact ⟨PE.imp (pe_cmpR op_nin_rng T.pe pr hb) rd, PT.imp (pt_cmpR op_nin_rng T.pe pr hb) fun σ H Q hh => rd _ _ _ (tst_bl bl hh), fun z => by cases z⟩
    | false =>
      have rd : ∀ σ H Q, tE X.K ad G W (fun τ S => den G cal (.inR false x lo hi) τ S) σ H Q → tOp (fun x y H Q => ∃ i a lo hi, x = V.int i ∧ y = V.ref a ∧ H a = some (.rng lo hi) ∧ Q (.bl (decide (lo ≤ i ∧ i < hi))) H) (tE X.K ad G W fun τ S => den G cal x τ S)
          (tCB (fun vs H Q => ∃ i j, vs = [V.int i, V.int j] ∧ ∀ p, H p = none → Q (.ref p) (upd H p (.rng i j))) (tCons (tE X.K ad G W fun τ S => den G cal lo τ S) (tCons (tE X.K ad G W fun τ S => den G cal hi τ S) tNil))) σ H Q := fun σ H Q hh =>
        inR_ok (r := fun x y H Q => ∃ i a lo hi, x = V.int i ∧ y = V.ref a ∧ H a = some (.rng lo hi) ∧ Q (.bl (decide (lo ≤ i ∧ i < hi))) H) (fun i l h p H' Q e q => ⟨i, p, l, h, rfl, rfl, e, by simpa using q⟩) hh
      exact ⟨PE.imp (pe_cmpR op_in_rng T.pe pr hb) rd, PT.imp (pt_cmpR op_in_rng T.pe pr hb) fun σ H Q hh => rd _ _ _ (tst_bl bl hh), fun z => by cases z⟩
  | .xis o cs tp, X, W, m, F, x, h => by
    cases x <;> simp only [mE] at h <;> first | (cases h; done) | skip
    rename_i f xs kws pos
    cases f <;> first | (cases h; done) | skip
    rename_i f p
    rcases xs with _ | ⟨y, _ | ⟨z, _ | ⟨z', r⟩⟩⟩ <;> first | (cases h; done) | skip
    cases kws <;> first | (cases h; done) | skip
    simp only [Bool.and_eq_true, beq_iff_eq] at h
    obtain ⟨⟨⟨⟨⟨rfl, h1⟩, h2⟩, h2'⟩, h3⟩, h4⟩ := h
    have T := sE o F y h3
    have obj : ∀ {w : Wd} {σ : L2.St} {Q : VK} {a : A} {v : V}, RelS X.K ad.cls w → RelA X.K w a v → okR X.K ad G Q (fun c d H' => W c d σ H') w (match a with
        | .ref n => match w.S[n]? with
          | some (.exc c fs) => if c < G.xcs.length then R.of ((anyX G.xo G.xcs.length c cs).map .bl) w.S else .no
          | _ => .no
        | _ => .no) → ∃ p c dd ws fn b, v = .ref p ∧ w.H p = some (XoE p (.ref (ad.xc c)) (some dd)) ∧ w.H dd = some (.xd ws) ∧ XcK X.K (ad.xc c) fn ∧ c < G.xcs.length ∧ anyX G.xo G.xcs.length c cs = some b ∧ okR X.K ad G Q (fun c d H' => W c d σ H') w (.ok (.bl b) w.S) := by
      intro w σ Q a v s ra ok
      cases a <;> first | exact (ok : False).elim | skip
      rename_i n
      obtain ⟨p, e1, rfl⟩ := relA_ref ra
      simp only at ok
      split at ok
      case h_2 => exact (ok : False).elim
      rename_i c fs hS
      split at ok
      case isFalse => exact (ok : False).elim
      rename_i hc
      obtain ⟨y, ey, ok⟩ := ok.of
      obtain ⟨b, eb, rfl⟩ := Option.map_eq_some_iff.mp ey
      obtain ⟨dd, ws, eH, vx, rs⟩ := s.obj n p _ e1 hS
      obtain ⟨ec, xo⟩ := F.st.xcs c _ (List.getElem?_eq_getElem hc)
      rw [← ec] at eH
      exact ⟨p, c, dd, ws, _, b, rfl, eH, vx.1, xo.toXcK, hc, eb, ok⟩
    split at h4
    · rename_i c w pw
      have pa : PA X [y, .Name w pw] (tCons (tE X.K ad G W (fun τ S => den G cal o τ S)) (tCons (tC (xcV ad c)) tNil)) := pa_cons T.pe (pa_cons (xc_pe F h4) pa_nil rfl) (starEach_one h2 _ _)
      refine Tri.of rfl (PE.imp (pe_callB call_isiX (F.glob h1) (F.st.blt _ (by decide +kernel)) PyProof.Rows.boot_isinstance pa (by decide +kernel) (by decide +kernel) (starEach_one h2 _ _) rfl) ?_)
      intro σ H Q hh
      refine tE1 (r := fun x H1 Q => rIsiX X.K [x, xcV ad c] H1 Q) hh fun wd τ a v s rt ra ok => ?_
      obtain ⟨p, d, dd, ws, fn, b, rfl, e1, e2, e3, e4, e5, ok⟩ := obj s ra ok
      have e6 := anyX_kit F e4 e5
      have e7 : PySem.W.kitOne X.K (.ref (ad.xc d)) (xcU ad c) = some b := by
        simp only [anyX] at e5
        cases hx : isX G.xo G.xcs.length d c with
        | none => rw [hx] at e5; cases e5
        | some a => rw [hx] at e5; cases e5; rw [Bool.or_false]; exact isX_kit F e4 hx
      exact ⟨p, ad.xc d, dd, ws, [], fn, xcV ad c, xcU ad c, b, rfl, xcV_cls ad c, e1, e2, e3, e7, ok.ret rfl s bl_rel⟩
    · rename_i c cs ws k0 pw
      rw [Bool.and_eq_true, decide_eq_true_eq] at h4
      obtain ⟨hz, h4⟩ := h4
      have pa : PA X [y, .Tuple ws k0 pw] (tCons (tE X.K ad G W (fun τ S => den G cal o τ S)) (tCons (tTup (tCs ((c :: cs).map (xcV ad)))) tNil)) := pa_cons T.pe (pa_cons (pe_tup (xcs_pa F h4)) pa_nil rfl) (starEach_one h2 _ _)
      refine Tri.of rfl (PE.imp (pe_callB call_isiXT (F.glob h1) (F.st.blt _ (by decide +kernel)) PyProof.Rows.boot_isinstance pa (by decide +kernel) (by decide +kernel) (starEach_one h2 _ _) rfl) ?_)
      intro σ H Q hh
      refine tE1 (r := fun x H1 Q => ((c :: cs).map (xcV ad)).length ≤ sizeLine ∧ ∀ p, H1 p = none → rIsiXT X.K [x, .ref p] (upd H1 p (.tup ((c :: cs).map (xcV ad)))) Q) hh fun wd τ a v s rt ra ok => ?_
      obtain ⟨p, d, dd, zs, fn, b, rfl, e1, e2, e3, e4, e5, ok⟩ := obj s ra ok
      refine ⟨?_, fun q hq => ?_⟩
      · rw [List.length_map]; exact Nat.le_trans (show cs.length + 1 ≤ 1000 by omega) (by decide)
      have g := upd_grow (o := .tup ((c :: cs).map (xcV ad))) hq
      have le : Le wd ⟨wd.ms, wd.S, upd wd.H q (.tup ((c :: cs).map (xcV ad))), wd.hid⟩ := Le.grow g
      exact ⟨p, ad.xc d, dd, zs, fn, q, _, _, b, rfl, upd_same, xcV_all ad (c :: cs), g _ _ e1, g _ _ e2, e3, anyX_kit F e4 e5, (show okR X.K ad G Q _ ⟨wd.ms, wd.S, upd wd.H q (.tup ((c :: cs).map (xcV ad))), wd.hid⟩ (.ok (.bl b) wd.S) from ok.at le).ret rfl (s.grow g) bl_rel⟩
    · cases h4
  | .mth mn o es, X, W, m, F, x, h => by
    cases x <;> simp only [mE] at h <;> first | (cases h; done) | skip
    rename_i f xs kws pos
    cases f <;> first | (cases h; done) | skip
    rename_i x f apos
    cases kws <;> first | (cases h; done) | skip
    simp only [Bool.and_eq_true, beq_iff_eq, decide_eq_true_eq] at h
    obtain ⟨hcalm, h⟩ := h
    obtain ⟨⟨⟨⟨⟨rfl, h1⟩, h2⟩, h3⟩, h4⟩, h5⟩ := h
    have h2' : (apos.endLine == pos.line) = true := by rw [beq_iff_eq]; exact h2
    have T := sE o F x h4
    have U := (sEs es F xs h5).1
    obtain ⟨hs, hl⟩ := allStar h5
    refine Tri.of rfl ?_
    cases xs with
    | nil =>
      have : es = [] := by
        cases es with
        | nil => rfl
        | cons _ _ => simp at hl
      subst this
      refine PE.imp (pe_mthR0 (W := W) (CX := L2.CX X.prog X.w) (j := 4 * k) (m := mn) T.pe ((F.room hcalm).mono (by omega)) F.ps h1 h2') ?_
      rintro σ H Q ⟨w, τ, rfl, s, rt, ok⟩
      refine ⟨w, τ, rfl, s, rt, okR.bindR ok fun w1 a v l1 s1 ra ok1 => ?_⟩
      refine mth_ok F s1 ok1 ra fun n d e1 e2 ok2 => ?_
      subst e1
      exact ⟨w1, [.ref n], rfl, s1, RelAs.cons ra RelAs.nil, ok2⟩
    | cons x' xs =>
      refine PE.imp (pe_mthR (W := W) (CX := L2.CX X.prog X.w) (j := 4 * k) (m := mn) T.pe U ((F.room hcalm).mono (by omega)) F.ps h1 hs h3 h2') ?_
      rintro σ H Q ⟨w, τ, rfl, s, rt, ok⟩
      refine ⟨w, τ, rfl, s, rt, okR.bindR ok fun w1 a v l1 s1 ra ok1 => ?_⟩
      refine mth_ok F s1 ok1 ra fun n d e1 e2 ok2 => ?_
      subst e1
      refine ⟨w1, τ, rfl, s1, rt.mono l1.mo, okA.bindR ok2 fun w2 as vs l2 s2 ras ok3 => ?_⟩
      exact ⟨w2, .ref n :: as, rfl, s2, RelAs.cons (ra.mono l2.mo) ras, ok3⟩
  | .fld o f, X, W, m, F, x, h => by
    cases x <;> simp only [mE] at h <;> first | (cases h; done) | skip
    rename_i x g pos
    simp only [Bool.and_eq_true, beq_iff_eq] at h
    obtain ⟨⟨rfl, h1⟩, h2⟩ := h
    refine Tri.of rfl (PE.imp (pe_fld (sE o F x h2).pe (base_plain h1 _ _ _)) ?_)
    rintro σ H Q ⟨w, τ, rfl, s, rt, ok⟩
    refine ⟨w, τ, rfl, s, rt, okR.bindR ok fun w1 a v l1 s1 ra ok1 => ?_⟩
    exact fld_ok F s1 ok1 ra
  | .rev fl a, X, W, m, F, x, h => by
    cases x <;> simp only [mE] at h <;> first | (cases h; done) | skip
    split at h
    case h_2 => cases h
    rename_i e0
    cases e0
    have T := sE a F _ h
    refine Tri.of rfl (PE.imp (pe_revA T.pe) ?_)
    rintro σ H Q ⟨w, τ, rfl, s, rt, ok⟩
    refine ⟨w, τ, rfl, s, rt, okR.bindR ok fun w1 b v l1 s1 ra ok1 => ?_⟩
    have ok1 : okR X.K ad G _ _ w1 (match der w1.S b with
      | .lst xs => mkL fl xs.reverse w1.S
      | .tup xs => .ok (.tup xs.reverse) w1.S
      | _ => .no) := ok1
    split at ok1
    · rename_i xs e
      obtain ⟨p, vs, rfl, hp, rs⟩ := der_rd s1 ra e
      exact .inl ⟨p, vs, rfl, .inl hp, ok1.mkL s1 rs.reverse⟩
    · rename_i xs e
      have ha : b = .tup xs := by
        rcases der_rel s1 ra with e' | ⟨n, ys, p, vs, rfl, e', _⟩
        · rw [e'] at e; exact e
        · rw [e'] at e; cases e
      subst ha
      obtain ⟨p, vs, rfl, hp, rs⟩ := relA_tup ra
      exact .inr ⟨p, vs, rfl, hp.sq, ok1.mkT s1 rs.reverse⟩
    · exact (ok1 : False).elim
  | .fmt r e, X, W, m, F, x, h => by
    cases x <;> simp only [mE] at h <;> first | (cases h; done) | skip
    split at h
    case h_2 => cases h
    rename_i e0
    cases e0
    simp only [Bool.and_eq_true, decide_eq_true_eq] at h
    obtain ⟨hcm, hc, h1⟩ := h
    have T := sE e F _ h1
    cases r with
    | false =>
      simp only [Bool.false_eq_true, if_false] at hc
      subst hc
      refine Tri.of rfl (PE.imp (pe_fmt T.pe) ?_)
      rintro σ H Q ⟨w, τ, rfl, s, rt, ok⟩
      exact ⟨w, τ, rfl, s, rt, okR.bindR ok fun w1 b v l1 s1 ra ok1 => fmt_ok s1 ra ok1⟩
    | true =>
      simp only [if_true] at hc
      subst hc
      have hcalm : m.calm = true := by simpa using hcm
      refine Tri.of rfl (PE.imp (pe_fmtRL (F.room hcalm).gd (by have := F.un; omega) T.pe) ?_)
      rintro σ H Q ⟨w, τ, rfl, s, rt, ok⟩
      exact ⟨w, τ, rfl, s, rt, okR.bindR ok fun w1 b v l1 s1 ra ok1 => fmtRL_ok s1 ra ok1⟩
  | .fs es, X, W, m, F, x, h => by
    cases x <;> simp only [mE] at h <;> first | (cases h; done) | skip
    split at h
    case h_2 => cases h
    rename_i e0
    cases e0
    obtain ⟨_, _, U⟩ := sEs es F _ h
    refine Tri.of rfl (PE.imp (pe_joined (pj_of U)) ?_)
    rintro σ H Q ⟨w, τ, rfl, s, rt, ok⟩
    refine fs_ok (acc := []) (Nat.zero_le _) (fun c hc => by cases hc) s rt ok
  | .rpI o, X, W, m, F, x, h => by
    cases x <;> simp only [mE] at h <;> first | (cases h; done) | skip
    rename_i f xs kws pos
    cases f <;> first | (cases h; done) | skip
    rename_i x p
    rcases xs with _ | ⟨y, _ | ⟨z, r⟩⟩ <;> first | (cases h; done) | skip
    cases kws <;> first | (cases h; done) | skip
    simp only [Bool.and_eq_true, beq_iff_eq] at h
    obtain ⟨hcalm, h⟩ := h
    obtain ⟨⟨⟨rfl, hg⟩, hn⟩, ho⟩ := h
    have T := sE o F y ho
    refine Tri.of rfl (PE.imp (pe_reprR (W := W) (CX := L2.CX X.prog X.w) (j := 4 * k) T.pe ((F.room hcalm).mono (by omega)) F.ps (by have := unitsOk F; omega) (F.glob hg) (F.st.blt _ (by decide +kernel)) hn) ?_)
    rintro σ H Q ⟨w, τ, rfl, s, rt, ok⟩
    refine ⟨w, τ, rfl, s, rt, okR.bindR ok fun w1 a v l1 s1 ra ok1 => ?_⟩
    refine mth_ok (f := fun n d => (cal d [.ref n] w1.S).bind rpChk) F s1 ok1 ra fun n d e1 e2 ok2 => ?_
    subst e1
    refine ⟨w1, [.ref n], rfl, s1, RelAs.cons ra RelAs.nil, okR.bindR ok2 fun w2 b u l2 s2 rb ok3 => ?_⟩
    cases b <;> first | exact (ok3 : False).elim | skip
    rename_i i
    obtain ⟨rfl, oi⟩ := relA_str rb
    exact ⟨_, rfl, (show okR X.K ad G _ _ w2 (.ok (.str i) w2.S) from ok3).ret rfl s2 rb⟩
  | .strL o, X, W, m, F, x, h => by
    cases x <;> simp only [mE] at h <;> first | (cases h; done) | skip
    rename_i f0 xs0 kws0 pos0
    split at h
    case h_2 => cases h
    rename_i x p y lp pos1 e1
    cases e1
    simp only [Bool.and_eq_true, beq_iff_eq] at h
    obtain ⟨hcalm, h⟩ := h
    obtain ⟨⟨⟨rfl, hg⟩, hn⟩, ho⟩ := h
    have T := sE o F y ho
    refine Tri.of rfl (PE.imp (pe_strL (W := W) (CX := L2.CX X.prog X.w) (j := 4 * k) T.pe ((F.room hcalm).mono (by omega)) F.ps (F.glob hg) (F.st.blt _ (by decide +kernel)) hn) ?_)
    rintro σ H Q ⟨w, τ, rfl, s, rt, ok⟩
    refine ⟨w, τ, rfl, s, rt, okR.bindR ok fun w1 a v l1 s1 ra ok1 => ?_⟩
    cases a <;> first | exact (ok1 : False).elim | skip
    rename_i n
    have rr := ra
    obtain ⟨p, e1, rfl⟩ := relA_ref ra
    simp only at ok1
    split at ok1
    case h_2 => exact (ok1 : False).elim
    rename_i c fs hS
    split at ok1
    case isFalse => exact (ok1 : False).elim
    rename_i hl
    split at ok1
    case h_2 => exact (ok1 : False).elim
    rename_i ci ec
    split at ok1
    case h_2 => exact (ok1 : False).elim
    rename_i d hd
    obtain ⟨dx, ws, q, rs⟩ := s1.obj n p _ e1 hS
    have hc : c < G.clss.length := (List.getElem?_eq_some_iff.mp ec).1
    refine ⟨p, ad.cls c, ad.df d, dx, ws, spF X.K ad G (cal d), rfl, q, (F.st.cf c hc).cl, (F.st.mem c ci ec).meth _ d hd, fun base => (F.stA base).fns d, w1, [.ref n], rfl, s1, RelAs.cons rr RelAs.nil, okR.bindR ok1 fun w2 b u l2 s2 rb ok3 => ?_⟩
    cases b <;> first | exact (ok3 : False).elim | skip
    rename_i x
    have ok3 : okR X.K ad G _ _ w2 (if x.length + 2 ≤ sizeLine then .ok (.str ([91] ++ x ++ [93])) w2.S else .no) := ok3
    split at ok3
    case isFalse => exact (ok3 : False).elim
    rename_i hz
    obtain ⟨rfl, oi⟩ := relA_str rb
    refine ⟨mkS x, rfl, by rw [mkS_length]; exact hz, ?_⟩
    have e : listText [mkS x] = mkS ([91] ++ x ++ [93]) := by
      show (("[" : Str) ++ (if 0 > 0 then ", " else "" : String) ++ mkS x ++ "]") = _
      rw [← mkS_append, ← mkS_append]
      rfl
    rw [e]
    exact ok3.ret rfl s2 (str_rel ⟨by simp; omega, fun c hc => by
      rcases List.mem_append.mp hc with hc | hc
      · rcases List.mem_append.mp hc with hc | hc
        · rw [List.mem_singleton.mp hc]; decide
        · exact oi.2 c hc
      · rw [List.mem_singleton.mp hc]; decide⟩)
  | .boI o, X, W, m, F, x, h => by
    cases x <;> simp only [mE] at h <;> first | (cases h; done) | skip
    rename_i f xs kws pos
    cases f <;> first | (cases h; done) | skip
    rename_i x p
    rcases xs with _ | ⟨y, _ | ⟨z, r⟩⟩ <;> first | (cases h; done) | skip
    cases kws <;> first | (cases h; done) | skip
    simp only [Bool.and_eq_true, beq_iff_eq] at h
    obtain ⟨hcalm, h⟩ := h
    obtain ⟨⟨⟨rfl, hg⟩, hn⟩, ho⟩ := h
    have T := sE o F y ho
    refine Tri.of rfl (PE.imp (pe_boolR (W := W) (CX := L2.CX X.prog X.w) (j := 4 * k) T.pe ((F.room hcalm).mono (by omega)) F.ps (F.glob hg) (F.st.blt _ (by decide +kernel)) hn) ?_)
    rintro σ H Q ⟨w, τ, rfl, s, rt, ok⟩
    refine ⟨w, τ, rfl, s, rt, okR.bindR ok fun w1 a v l1 s1 ra ok1 => ?_⟩
    cases a <;> first | exact (ok1 : False).elim | skip
    rename_i n
    have rr := ra
    obtain ⟨p, e1, rfl⟩ := relA_ref ra
    simp only at ok1
    split at ok1
    case h_2 => exact (ok1 : False).elim
    rename_i c fs hS
    split at ok1
    case isFalse => exact (ok1 : False).elim
    rename_i hl
    split at ok1
    case h_2 => exact (ok1 : False).elim
    rename_i ci ec
    split at ok1
    case h_2 => exact (ok1 : False).elim
    rename_i d hd
    obtain ⟨dx, ws, q, rs⟩ := s1.obj n p _ e1 hS
    have hc : c < G.clss.length := (List.getElem?_eq_some_iff.mp ec).1
    refine ⟨p, ad.cls c, ad.df d, dx, ws, spF X.K ad G (cal d), rfl, q, (F.st.cf c hc).cl, (F.st.mem c ci ec).meth _ d hd, (F.st.cf c hc).nb, F.st.fns d, w1, [.ref n], rfl, s1, RelAs.cons rr RelAs.nil, okR.bindR ok1 fun w2 b u l2 s2 rb ok3 => ?_⟩
    cases b <;> first | exact (ok3 : False).elim | skip
    rename_i i
    have ok3 : okR X.K ad G _ _ w2 (if 0 ≤ i ∧ i < 2 ^ 63 then .ok (.bl (i != 0)) w2.S else .no) := ok3
    split at ok3
    case isFalse => exact (ok3 : False).elim
    rename_i hi
    cases relA_int rb
    exact ⟨i, rfl, hi.1, hi.2, ok3.ret rfl s2 bl_rel⟩
  | .cmpI neg a b, X, W, m, F, x, h => by
    cases x <;> simp only [mE] at h <;> first | (cases h; done) | skip
    rename_i x ops ys pos
    split at h
    case h_2 => cases h
    rename_i x op' y p0 e0
    cases e0
    simp only [Bool.and_eq_true, decide_eq_true_eq] at h
    obtain ⟨hcalm, h⟩ := h
    obtain ⟨⟨rfl, h1⟩, h2⟩ := h
    have T := sE a F x h1
    have U := sE b F y h2
    cases neg with
    | false =>
      have P := pc_eqR (W := W) (CX := L2.CX X.prog X.w) (j := 4 * k) T.pe U.pe ((F.room hcalm).mono (by omega)) F.ps (by have := unitsOk F; omega)
      refine ⟨PE.imp (pe_cmp P) ?_, PT.imp (pt_cmp P) ?_, fun z => by cases z⟩
      · intro σ H Q hh
        exact eqI_ok F hh
      · intro σ H Q hh
        exact eqI_ok F (tst_bl (mm := fun τ S => den G cal (.cmpI false a b) τ S) cmpI_bl hh)
    | true =>
      have P := pc_neR (W := W) (CX := L2.CX X.prog X.w) (j := 4 * k) T.pe U.pe ((F.room hcalm).mono (by omega)) F.ps (by have := unitsOk F; omega)
      refine ⟨PE.imp (pe_cmp P) ?_, PT.imp (pt_cmp P) ?_, fun z => by cases z⟩
      · intro σ H Q hh
        exact neI_ok F hh
      · intro σ H Q hh
        exact neI_ok F (tst_bl (mm := fun τ S => den G cal (.cmpI true a b) τ S) cmpI_bl hh)
  | .lenO o, X, W, m, F, x, h => by
    cases x <;> simp only [mE] at h <;> first | (cases h; done) | skip
    rename_i f xs kws pos
    cases f <;> first | (cases h; done) | skip
    rename_i x p
    rcases xs with _ | ⟨y, _ | ⟨z, r⟩⟩ <;> first | (cases h; done) | skip
    cases kws <;> first | (cases h; done) | skip
    simp only [Bool.and_eq_true, beq_iff_eq] at h
    obtain ⟨hcalm, h⟩ := h
    obtain ⟨⟨⟨rfl, hg⟩, hn⟩, ho⟩ := h
    have T := sE o F y ho
    refine Tri.of rfl (PE.imp (pe_lenR (W := W) (CX := L2.CX X.prog X.w) (j := 4 * k) T.pe ((F.room hcalm).mono (by omega)) F.ps (F.glob hg) (F.st.blt _ (by decide +kernel)) hn) ?_)
    rintro σ H Q ⟨w, τ, rfl, s, rt, ok⟩
    refine ⟨w, τ, rfl, s, rt, okR.bindR ok fun w1 a v l1 s1 ra ok1 => ?_⟩
    refine mth_ok (f := fun n d => (cal d [.ref n] w1.S).bind lenChk) F s1 ok1 ra fun n d e1 e2 ok2 => ?_
    subst e1
    refine ⟨w1, [.ref n], rfl, s1, RelAs.cons ra RelAs.nil, okR.bindR ok2 fun w2 b u l2 s2 rb ok3 => ?_⟩
    cases b <;> first | exact (ok3 : False).elim | skip
    rename_i i
    have ok3 : okR X.K ad G _ _ w2 (if 0 ≤ i ∧ i < 2 ^ 63 then .ok (.int i) w2.S else .no) := ok3
    split at ok3
    case isFalse => exact (ok3 : False).elim
    rename_i hi
    cases relA_int rb
    exact ⟨i, rfl, hi.1, hi.2, ok3.ret rfl s2 int_rel⟩
  | .lsi o, X, W, m, F, x, h => by
    cases x <;> simp only [mE] at h <;> first | (cases h; done) | skip
    rename_i f xs kws pos
    cases f <;> first | (cases h; done) | skip
    rename_i x p
    rcases xs with _ | ⟨y, _ | ⟨z, r⟩⟩ <;> first | (cases h; done) | skip
    cases kws <;> first | (cases h; done) | skip
    simp only [Bool.and_eq_true, beq_iff_eq] at h
    obtain ⟨hcalm, h⟩ := h
    obtain ⟨⟨rfl, hg⟩, h⟩ := h
    split at h
    case h_2 => cases h
    rename_i z f apos cpos
    simp only [Bool.and_eq_true, beq_iff_eq] at h
    obtain ⟨⟨⟨rfl, hb⟩, hline⟩, ho⟩ := h
    have T := sE o F z ho
    refine Tri.of rfl (PE.imp (LiI.pe_listItems (F.calm hcalm) T.pe (F.glob hg) (F.st.blt _ (by decide +kernel)) (by decide +kernel) (base_plain hb _ _ _) (by rw [beq_iff_eq]; exact hline) (by rfl)) ?_)
    rintro σ H Q ⟨w, τ, rfl, s, rt, ok⟩
    refine ⟨w, τ, rfl, s, rt, okR.bindR ok fun w1 a v l1 s1 ra ok1 => ?_⟩
    split at ok1
    case h_2 => exact (ok1 : False).elim
    rename_i kvs e
    unfold dicO at e
    split at e
    · obtain ⟨p, e1, rfl⟩ := relA_ref ra
      split at e
      · rename_i t kvs' hS
        cases e
        obtain ⟨ws, q, rs⟩ := s1.obj _ p _ e1 hS
        refine ⟨p, ws, rfl, q, fun H' p' ts hk hp hts hpn hl hpair => ?_⟩
        replace ok1 : okR X.K ad G Q _ w1 (.ok (.lst (kvs.map fun p => .tup [p.1, p.2])) w1.S) := ok1
        refine ok1 ⟨w1.ms, w1.S, H', w1.hid⟩ (.ref p') rfl (Le.grow hk) (s1.grow hk) ?_
        have le : Le w1 ⟨w1.ms, w1.S, H', w1.hid⟩ := Le.grow hk
        simp only [RelA]
        refine ⟨p', ts.map V.ref, rfl, ⟨.inl hl, fun l => s1.new_ hp l⟩, ?_⟩
        clear ok1 hS q ra e1 hl hpn
        induction rs generalizing ts with
        | nil =>
          cases hpair
          exact RelAs.nil
        | @cons pp qq l1 l2 h t ih =>
          cases hpair with
          | @cons t0 _ ts' _ h0 hr =>
            refine RelAs.cons ?_ (ih ts' (fun u hu => hts u (List.mem_cons_of_mem _ hu)) hr)
            simp only [RelA]
            exact ⟨t0, _, rfl, ⟨h0, fun l => s1.new_ (hts t0 List.mem_cons_self) l⟩, RelAs.cons (kV_rel h.1 h.2.1) (RelAs.cons (h.2.2.mono le.mo) RelAs.nil)⟩
      · cases e
    · cases e
  | .lsr fl src, X, W, m, F, x, h => by
    simp only [mE] at h
    split at h
    case h_2 => cases h
    rename_i x p r p1 args p2 pos
    simp only [Bool.and_eq_true, beq_iff_eq] at h
    obtain ⟨hc, ⟨⟨⟨⟨rfl, hg⟩, rfl⟩, hg2⟩, hl⟩, hes⟩ := h
    have U := (sEs src F args hes).2.2
    have S1 := (allStar hes).1
    rcases args with _ | ⟨a, _ | ⟨b, _ | ⟨c, r⟩⟩⟩
    · simp [rngLen] at hl
    · have hn : noStar a = true := by simpa using S1
      cases U with
      | cons h1 h2 =>
        cases h2
        exact Tri.of rfl (s_lsr1 (F.calm hc) (F.glob hg) (F.st.blt _ (by decide +kernel)) (F.glob hg2) (F.st.blt _ (by decide +kernel)) hn h1)
    · have hn : noStar a = true ∧ noStar b = true := by simpa using S1
      cases U with
      | cons h1 h2 =>
        cases h2 with
        | cons h2 h3 =>
          cases h3
          exact Tri.of rfl (s_lsr2 (F.calm hc) (F.glob hg) (F.st.blt _ (by decide +kernel)) (F.glob hg2) (F.st.blt _ (by decide +kernel)) hn.1 hn.2 h1 h2)
    · simp [rngLen] at hl
  | .lsv fl o, X, W, m, F, x, h => by
    cases x <;> simp only [mE] at h <;> first | (cases h; done) | skip
    rename_i f xs kws pos
    cases f <;> first | (cases h; done) | skip
    rename_i x p
    rcases xs with _ | ⟨y, _ | ⟨z, r⟩⟩ <;> first | (cases h; done) | skip
    cases kws <;> first | (cases h; done) | skip
    simp only [Bool.and_eq_true, beq_iff_eq] at h
    obtain ⟨hcalm, h⟩ := h
    obtain ⟨⟨rfl, hg⟩, h⟩ := h
    split at h
    case h_2 => cases h
    rename_i z f apos cpos
    simp only [Bool.and_eq_true, beq_iff_eq] at h
    obtain ⟨⟨⟨rfl, hb⟩, hline⟩, ho⟩ := h
    have T := sE o F z ho
    refine Tri.of rfl (PE.imp (pe_listVals (F.calm hcalm) T.pe (F.glob hg) (F.st.blt _ (by decide +kernel)) (base_plain hb _ _ _) (by rw [beq_iff_eq]; exact hline)) ?_)
    rintro σ H Q ⟨w, τ, rfl, s, rt, ok⟩
    refine ⟨w, τ, rfl, s, rt, okR.bindR ok fun w1 a v l1 s1 ra ok1 => ?_⟩
    split at ok1
    case h_2 => exact (ok1 : False).elim
    rename_i kvs e
    unfold dicO at e
    split at e
    · obtain ⟨p, e1, rfl⟩ := relA_ref ra
      split at e
      · rename_i t kvs' hS
        cases e
        obtain ⟨ws, q, rs⟩ := s1.obj _ p _ e1 hS
        refine ⟨p, ws, rfl, q, ok1.mkL s1 ?_⟩
        clear ok1 hS q ra e1
        induction rs with
        | nil => exact RelAs.nil
        | cons h t ih => exact RelAs.cons h.2.2 ih
      · cases e
    · cases e
  | .tabGet y e d, X, W, m, F, x, h => by
    cases x <;> simp only [mE] at h <;> first | (cases h; done) | skip
    rename_i f xs kws pos
    split at h
    case h_2 => cases h
    rename_i z p f0 apos i j pos0 e0
    cases e0
    simp only [Bool.and_eq_true, beq_iff_eq, Bool.not_eq_true'] at h
    obtain ⟨⟨⟨⟨⟨⟨⟨⟨⟨rfl, rfl⟩, h1⟩, h2⟩, h4⟩, hline⟩, n1⟩, n2⟩, h5⟩, h6⟩ := h
    have h2 : (!odd y) = true := by rw [h2]; rfl
    obtain ⟨kvs, ek⟩ := Option.isSome_iff_exists.mp h4
    obtain ⟨g1, g2⟩ := F.st.tab _ _ ek
    obtain ⟨es, n, D⟩ := g2.kd
    have mm : M2 X (.Name y p) "get" apos i j pos := by
      refine ⟨base_plain rfl _ _ _, ?_, by rw [beq_iff_eq]; exact hline, ?_⟩
      · rw [starEach_one n1, starEach_one n2]; rfl
      · rw [starEach_one n1, starEach_one n2]; rfl
    refine Tri.of rfl (PE.imp (pe_kget2 D D.low (pe_glob (v := .ref (ad.tb y)) (F.glob h1) g1 rfl (not_odd h2).1) (sE e F i h5).pe (sE d F j h6).pe mm) ?_)
    rintro σ H Q ⟨w, τ, rfl, s, rt, ok⟩
    refine ⟨w, τ, rfl, s, rt, okR.bindR ok fun w1 a v l1 s1 ra ok1 => ?_⟩
    refine ⟨w1, τ, rfl, s1, rt.mono l1.mo, okR.bindR ok1 fun w2 b u l2 s2 rb ok2 => ?_⟩
    cases a <;> first | exact (ok2 : False).elim | skip
    rename_i k0
    obtain ⟨c, e1, ok3⟩ := ok2.of
    rw [ek] at e1
    cases e1
    obtain ⟨rfl, _⟩ := relA_str ra
    have ok3 : okR X.K ad G Q (fun c d H' => W c d σ H') w2 (R.ok ((kvs.lookup k0).getD b) w2.S) := ok3
    cases hz : kvs.lookup k0 with
    | none =>
      rw [hz] at ok3
      exact ⟨mkS k0, none, rfl, g2.no k0 hz, .inl ⟨rfl, ok3.ret rfl s2 rb⟩⟩
    | some c =>
      rw [hz] at ok3
      obtain ⟨u0, v', h6, h7, h8⟩ := g2.at_ k0 c hz
      exact ⟨mkS k0, some u0, rfl, h6, .inr ⟨u0, v', rfl, h7, ok3.ret rfl s2 (h8 w2)⟩⟩
  | .lk o e, X, W, m, F, x, h => by
    simp only [mE, Bool.and_eq_true] at h
    obtain ⟨h1, h2⟩ := h
    have T := sE e F x h2
    refine Tri.of h1 (PE.imp (pe_lock T.pe) ?_)
    rintro σ H Q ⟨w, τ, rfl, s, rt, ok⟩
    have ok : okR X.K ad G Q (fun c d H' => W c d σ H') w (match lkO w.S (den G cal o τ w.S) with
      | some (n, S1) => (den G cal e τ S1).unlk n
      | none => .no) := ok
    split at ok
    case h_2 => exact ok.elim
    rename_i n S1 he
    obtain ⟨t, kvs, hS, rfl⟩ := lkO_eq he
    obtain ⟨a, u, hu, mu, lk⟩ := dic_lock s hS
    refine ⟨a, u, hu, mu, fun od => ?_⟩
    obtain ⟨s1, l1, un⟩ := lk od
    refine ⟨w.lk n a (.fdic t kvs) (.frz od u), τ, rfl, s1, rt.mono l1.mo, ?_⟩
    show okR X.K ad G _ _ _ (den G cal e τ (w.S.set n (.fdic t kvs)))
    cases hd : den G cal e τ (w.S.set n (.fdic t kvs)) with
    | ok b S2 =>
      rw [hd] at ok
      have ok : okR X.K ad G Q (fun c d H' => W c d σ H') w (match unlk n S2 with | some S' => .ok b S' | none => .no) := ok
      split at ok
      case h_2 => exact ok.elim
      rename_i S3 e3
      obtain ⟨t', kvs', h3, rfl⟩ := unlk_eq e3
      intro w' v eS l2 s2 ra
      obtain ⟨k1, k2, k3, k4⟩ := un w' t' kvs' l2 s2 (by rw [eS]; exact h3)
      exact ⟨k1, ok (w'.lk n a (.dic t' kvs') u) v (by show w'.S.set n _ = _; rw [eS]) k3 k2 (ra.monoV k4)⟩
    | ex c fs S => rw [hd] at ok; exact (ok : False).elim
    | no => rw [hd] at ok; exact (ok : False).elim
  | .bm b o es, X, W, m, F, x, h => by
    cases x <;> simp only [mE] at h <;> first | (cases h; done) | skip
    rename_i f xs kws pos
    cases f <;> first | (cases h; done) | skip
    rename_i x f apos
    cases kws <;> first | (cases h; done) | skip
    simp only [Bool.and_eq_true, beq_iff_eq, decide_eq_true_eq] at h
    obtain ⟨⟨⟨⟨⟨rfl, h1⟩, h2⟩, h3⟩, h4⟩, h5⟩ := h
    have T := sE o F x h4
    have U := (sEs es F xs h5).1
    obtain ⟨hs, hl⟩ := allStar h5
    have h2' : (apos.endLine == pos.line) = true := by rw [beq_iff_eq]; exact h2
    cases xs with
    | nil =>
      have : es = [] := by
        cases es with
        | nil => rfl
        | cons _ _ => simp at hl
      subst this
      refine Tri.of rfl (PE.imp (s_bm0 F T.pe h1 h2') ?_)
      rintro σ H Q ⟨w, τ, rfl, s, rt, ok⟩
      refine ⟨w, τ, rfl, s, rt, okR.bindR ok fun w1 a v l1 s1 ra ok1 => ?_⟩
      split at ok1
      case isFalse => exact ok1.elim
      rename_i hf
      exact ⟨bm_ty s1 ra hf, _, w1, a, [], rfl, s1, ra, RelAs.nil, ok1⟩
    | cons x' xs =>
      refine Tri.of rfl (PE.imp (s_bm F T.pe U h1 h2' h3 hs) ?_)
      rintro σ H Q ⟨w, τ, rfl, s, rt, ok⟩
      refine ⟨w, τ, rfl, s, rt, okR.bindR ok fun w1 a v l1 s1 ra ok1 => ?_⟩
      split at ok1
      case isFalse => exact ok1.elim
      rename_i hf
      refine ⟨bm_ty s1 ra hf, w1, τ, rfl, s1, rt.mono l1.mo, okA.bindR ok1 fun w2 as vs l2 s2 ras ok2 => ?_⟩
      exact ⟨_, w2, a, as, rfl, s2, ra.mono l2.mo, ras, ok2⟩
  | .sl fl a lo hi, X, W, m, F, x, h => by
    cases x <;> simp only [mE] at h <;> first | (cases h; done) | skip
    rename_i x y pos
    cases y <;> first | (cases h; done) | skip
    rename_i lo' hi' st p2
    cases st <;> first | (cases h; done) | skip
    simp only [Bool.and_eq_true] at h
    obtain ⟨⟨h1, h2⟩, h3⟩ := h
    have T := sE a F x h1
    have part : ∀ (es : List Lt.E) (e' : Option Expr), (match e' with | none => es.isEmpty | some y => mEs G m es [y]) = true → (∀ y, e' = some y → PA X [y] (tL X.K ad G W (fun τ S => dens G cal es τ S)) ∧ (∀ x, [y] = [x] → ∃ e, es = [e] ∧ PE X x (tE X.K ad G W (fun τ S => den G cal e τ S)) ∧ PT X x (tT X.K ad G W (fun τ S => tst G cal e τ S)))) → ∃ t, PO X e' t ∧ Prt X.K ad G W cal es t := by
      intro es e' h hu
      cases e' with
      | none =>
        have : es = [] := by simpa using h
        subst this
        exact ⟨_, po_none, .inl ⟨rfl, rfl⟩⟩
      | some y =>
        obtain ⟨e, rfl, pe, _⟩ := (hu y rfl).2 y rfl
        exact ⟨_, po_some pe, .inr ⟨e, rfl, rfl⟩⟩
    obtain ⟨t1, p1, q1⟩ := part lo lo' h2 (fun y hy => by subst hy; exact (let z := sEs lo F [y] h2; ⟨z.1, z.2.1⟩))
    obtain ⟨t2, p2, q2⟩ := part hi hi' h3 (fun y hy => by subst hy; exact (let z := sEs hi F [y] h3; ⟨z.1, z.2.1⟩))
    refine Tri.of rfl (PE.imp (pe_slice (slr_o (ad := ad) (G := G) fl) T.pe p1 p2) ?_)
    rintro σ H Q ⟨w, τ, rfl, s, rt, ok⟩
    refine ⟨w, τ, rfl, s, rt, okR.bindR ok fun w1 x v l1 s1 ra ok1 => ?_⟩
    refine q1.run s1 (rt.mono l1.mo) ok1 fun w2 o l2 s2 ok2 => ?_
    refine q2.run s2 ((rt.mono l1.mo).mono l2.mo) ok2 fun w3 o' l3 s3 ok3 => ?_
    exact ⟨_, w3, x, rfl, s3, (ra.mono l2.mo).mono l3.mo, ok3⟩
theorem sEs : ∀ (es : List Lt.E) {X : Cx} {W : WX} {m : MC} (F : Fx X ad G W k cal m) (xs : List Expr), mEs G m es xs = true →
    PA X xs (tL X.K ad G W (fun τ S => dens G cal es τ S)) ∧ (∀ x, xs = [x] → ∃ e, es = [e] ∧ PE X x (tE X.K ad G W (fun τ S => den G cal e τ S)) ∧ PT X x (tT X.K ad G W (fun τ S => tst G cal e τ S))) ∧
    Paired (fun e x => PE X x (tE X.K ad G W (fun τ S => den G cal e τ S))) es xs
  | [], X, W, m, F, xs, h => by
    cases xs with
    | cons x xs => simp [mEs] at h
    | nil =>
      refine ⟨PA.imp pa_nil ?_, fun x z => (by cases z), .nil⟩
      rintro σ H Q ⟨w, τ, rfl, s, rt, ok⟩
      exact ok w [] rfl (Le.refl w) s RelAs.nil
  | e :: es, X, W, m, F, xs, h => by
    cases xs with
    | nil => simp [mEs] at h
    | cons x xs =>
      have h' : (noStar x = true ∧ mE G m e x = true) ∧ mEs G m es xs = true := by simpa [mEs] using h
      have T := sE e F x h'.1.2
      have U := sEs es F xs h'.2
      refine ⟨PA.imp (pa_cons T.pe U.1 (starEach_one h'.1.1 _ _)) ?_, fun z hz => ?_, .cons T.pe U.2.2⟩
      · rintro σ H Q ⟨w, τ, rfl, s, rt, ok⟩
        refine ⟨w, τ, rfl, s, rt, okR.bindA ok fun w1 a v l s1 ra ok1 => ?_⟩
        refine ⟨w1, τ, rfl, s1, rt.mono l.mo, okA.bindA ok1 fun w2 b u l2 s2 rb ok2 => ?_⟩
        exact ok2 w2 (v :: u) rfl (Le.refl w2) s2 (RelAs.cons (ra.mono l2.mo) rb)
      · cases hz
        have : es = [] := by
          have := (allStar h).2
          cases es with
          | nil => rfl
          | cons _ _ => simp at this
        subst this
        exact ⟨e, rfl, T.pe, T.pt⟩
end
end
end Lt
/-! statements -/
namespace Lt
open PySem L2
section
variable (K : PySem.W.Frag) (ad : Ad) (G : Gt) (W : WX)
def okS_ (D : Ends) (w : Wd) : SR → Prop
  | .nx τ S => ∀ w' σ', w'.S = S → Le w w' → RelS K ad.cls w' → RelT K w' τ σ' → D.nx σ' w'.H
  | .bk τ S => ∀ w' σ', w'.S = S → Le w w' → RelS K ad.cls w' → RelT K w' τ σ' → D.bk σ' w'.H
  | .ct τ S => ∀ w' σ', w'.S = S → Le w w' → RelS K ad.cls w' → RelT K w' τ σ' → D.ct σ' w'.H
  | .rt a S => ∀ w' v, w'.S = S → Le w w' → RelS K ad.cls w' → RelA K w' a v → D.rt v w'.H
  | .ex c fs τ S => ∀ w' σ' cv d, w'.S = S → Le w w' → RelS K ad.cls w' → RelT K w' τ σ' → ExR K ad G w' c fs cv d → W cv d σ' w'.H
  | .no => False
def tS (m : Tau → List O → SR) : TS := fun D σ H => ∃ w τ, w.H = H ∧ RelS K ad.cls w ∧ RelT K w τ σ ∧ okS_ K ad G W D w (m τ w.S)
end
section
variable {K : PySem.W.Frag} {ad : Ad} {G : Gt} {W : WX} {D : Ends} {w w' : Wd} {σ : L2.St} {τ : Tau}
theorem okS_.at {r : SR} (h : okS_ K ad G W D w r) (le : Le w w') : okS_ K ad G W D w' r := by
  cases r with
  | nx τ S => exact fun u σ e l s q => h u σ e (le.trans l) s q
  | bk τ S => exact fun u σ e l s q => h u σ e (le.trans l) s q
  | ct τ S => exact fun u σ e l s q => h u σ e (le.trans l) s q
  | rt a S => exact fun u v e l s q => h u v e (le.trans l) s q
  | ex c fs τ S => exact fun u σ cv d e l s q x => h u σ cv d e (le.trans l) s q x
  | no => exact h
theorem okR.go {r : R A} {f : A → List O → SR} {Q : VK} (rt : RelT K w τ σ) (h : okS_ K ad G W D w (r.go τ f))
    (k : ∀ w' a v, Le w w' → RelS K ad.cls w' → RelA K w' a v → okS_ K ad G W D w' (f a w'.S) → Q v w'.H) : okR K ad G Q (fun c d H' => W c d σ H') w r := by
  cases r with
  | ok a S =>
    intro w' v e l s ra
    have h : okS_ K ad G W D w (f a S) := h
    exact k w' a v l s ra (by rw [e]; exact h.at l)
  | ex c fs S => exact fun w' cv d e l s x => h w' σ cv d e l s (rt.mono l.mo) x
  | no => exact h.elim
theorem okB.go {r : R Bool} {f : Bool → List O → SR} {Q : Bool → Hp → Prop} (rt : RelT K w τ σ) (h : okS_ K ad G W D w (r.go τ f))
    (k : ∀ w' a, Le w w' → RelS K ad.cls w' → okS_ K ad G W D w' (f a w'.S) → Q a w'.H) : okB K ad G Q (fun c d H' => W c d σ H') w r := by
  cases r with
  | ok a S =>
    intro w' e l s
    have h : okS_ K ad G W D w (f a S) := h
    exact k w' a l s (by rw [e]; exact h.at l)
  | ex c fs S => exact fun w' cv d e l s x => h w' σ cv d e l s (rt.mono l.mo) x
  | no => exact h.elim
theorem okI.go {r : R (List A × Gd)} {f : List A × Gd → List O → SR} {Q : It → Hp → Prop} (rt : RelT K w τ σ) (h : okS_ K ad G W D w (r.go τ f))
    (k : ∀ w' a J, Le w w' → RelS K ad.cls w' → Itm K ad J w' a.1 a.2 → okS_ K ad G W D w' (f a w'.S) → Q J w'.H) : okI K ad G Q (fun c d H' => W c d σ H') w r := by
  cases r with
  | ok a S =>
    intro w' J e l s i
    have h : okS_ K ad G W D w (f a S) := h
    exact k w' a J l s i (by rw [e]; exact h.at l)
  | ex c fs S => exact fun w' cv d e l s x => h w' σ cv d e l s (rt.mono l.mo) x
  | no => exact h.elim
theorem RelT.unset {K : PySem.W.Frag} {w : Wd} {τ : Tau} {σ : L2.St} (r : RelT K w τ σ) (i : Nat) : RelT K w (τ.set i none) (σ.set i none) := by
  refine ⟨by simpa using r.1, fun j a e => ?_⟩
  by_cases h : i = j
  · subst h
    by_cases hl : i < τ.length
    · rw [List.getElem?_set_self hl] at e; cases e
    · rw [List.getElem?_eq_none (by simpa using hl)] at e; cases e
  · rw [List.getElem?_set_ne h] at e
    obtain ⟨v, q, ra⟩ := r.2 j a e
    exact ⟨v, by rw [List.getElem?_set_ne h]; exact q, ra⟩
theorem okA.go {r : R (List A)} {f : List A → List O → SR} {Q : List V → Hp → Prop} (rt : RelT K w τ σ) (h : okS_ K ad G W D w (r.go τ f))
    (k : ∀ w' a v, Le w w' → RelS K ad.cls w' → RelAs K w' a v → okS_ K ad G W D w' (f a w'.S) → Q v w'.H) : okA K ad G Q (fun c d H' => W c d σ H') w r := by
  cases r with
  | ok a S =>
    intro w' v e l s ra
    have h : okS_ K ad G W D w (f a S) := h
    exact k w' a v l s ra (by rw [e]; exact h.at l)
  | ex c fs S => exact fun w' cv d e l s x => h w' σ cv d e l s (rt.mono l.mo) x
  | no => exact h.elim
theorem clr_ok {Wf : WX} {oi : Option Nat} {r : SR} (h : okS_ K ad G W D w (r.clr oi)) : okS_ K ad G Wf (clrD oi D) w r := by
  cases oi with
  | none =>
    cases r with
    | ex c fs τ S => exact (h : False).elim
    | nx τ S => exact h
    | rt a S => exact h
    | bk τ S => exact h
    | ct τ S => exact h
    | no => exact h
  | some i =>
    cases r with
    | ex c fs τ S => exact (h : False).elim
    | nx τ S => exact fun w' σ' e l s rt => h w' _ e l s (rt.unset i)
    | rt a S => exact h
    | bk τ S => exact fun w' σ' e l s rt => h w' _ e l s (rt.unset i)
    | ct τ S => exact fun w' σ' e l s rt => h w' _ e l s (rt.unset i)
    | no => exact h
theorem Paired.app1 {α β : Type} {F : α → β → Prop} {a : α} {b : β} (h : F a b) : ∀ {l : List α} {m : List β}, Paired F l m → Paired F (l ++ [a]) (m ++ [b])
  | _, _, .nil => .cons h .nil
  | _, _, .cons r t => .cons r (Paired.app1 h t)
theorem zip_rel {K : PySem.W.Frag} {w : Wd} : ∀ {fl : List Str} {as : List A} {vs : List V}, RelAs K w as vs → Paired (fun (p : Str × A) (q : Str × V) => p.1 = q.1 ∧ RelA K w p.2 q.2) (fl.zip as).reverse (fl.zip vs).reverse
  | [], as, vs, _ => by simp; exact .nil
  | _ :: _, [], vs, r => by simp only [RelAs] at r; subst r; simp; exact .nil
  | f :: fl, a :: as, vs, r => by
    simp only [RelAs] at r
    obtain ⟨v, us, rfl, r1, r2⟩ := r
    simp only [List.zip_cons_cons, List.reverse_cons]
    exact Paired.app1 ⟨rfl, r1⟩ (zip_rel r2)
end
/-- a def's body's context -/
structure Bx (X : Cx) (ad : Ad) (G : Gt) (W : WX) (k : Nat) (cal : Cal) (m : MC) : Prop extends Fx X ad G W k cal m where
  own : m.calm = true → PassesOwn (model X.prog X.w) X.A X.env X.xe
  kind : X.env.scope.kind = .function
  tk : m.calm = true → Takes X W
  stk : X.stack = X.env :: X.outer
  frm : X.env.frame = some X.env.locals
  exn : X.ex = []
section
variable {X : Cx} {ad : Ad} {G : Gt} {W : WX} {k : Nat} {cal : Cal} {m : MC}
theorem sw_false {e : Expr} {t : Option Expr} {l : Nat} (h : noComp e = true) : swapsWith e t l X.env = pure false := swaps_plain h t l X.env
theorem sw_attr {v o : Expr} {f : Str} {p : Pos} {l : Nat} : swapsWith v (some (.Attribute o f p)) l X.env = pure false := by
  unfold swapsWith
  cases v <;> rfl
theorem sole_false {e t : Expr} {l : Nat} (h : noComp e = true) : swapsWithSole [t] e l X.env = pure false := by
  have e1 : swapsWithSole [t] e l X.env = swapsWith e (some t) l X.env := by simp only [swapsWithSole]
  rw [e1]; exact sw_false h
/-- a list item stored -/
def rSetO (K : PySem.W.Frag) (ad : Ad) : TSet := fun o i v H Q => ∃ w a b c S', w.H = H ∧ RelS K ad.cls w ∧ RelA K w a o ∧ RelA K w b i ∧ RelA K w c v ∧ setO a b c w.S = some S' ∧ ∀ w', w'.S = S' → Le w w' → RelS K ad.cls w' → Q w'.H
theorem pset_o (hu : X.A.units + 66 < cLine) : PSet X (rSetO X.K ad) := by
  intro pins s σ H o i v ov iv u Q I ro ri rv h
  obtain ⟨w, a, b, c, S', rfl, hs, ra, rb, rc, e, q⟩ := h
  unfold setO at e
  split at e
  · rename_i n
    obtain ⟨p, e1, rfl⟩ := relA_ref ra
    split at e
    · rename_i xs hS
      split at e
      · rename_i j
        cases relA_int rb
        split at e
        · rename_i kk hk
          cases e
          obtain ⟨vs, hH, rs⟩ := hs.obj n p _ e1 hS
          refine set_list pins s σ _ _ _ _ _ _ _ Q I ro ri rv ⟨p, vs, j, kk, rfl, rfl, hH, by rw [← rs.length]; exact hk, ?_⟩
          have le := Le.put (o' := .lst (xs.set kk c)) (h := .lst (vs.set kk v)) hs e1 hS trivial
          exact q _ rfl le (hs.put e1 hS trivial ⟨_, upd_same, (RelAs.set rc kk rs).mono le.mo⟩)
        · cases e
      · cases e
    · rename_i t kvs hS
      split at e
      · rename_i hk
        cases e
        have nd : (O.dic t kvs).Lv := trivial
        have hz : (1000000 : Nat) ≤ sizeLine := by decide
        cases t with
        | false =>
          obtain ⟨ws, hH, rs⟩ := hs.obj n p _ e1 hS
          obtain ⟨kk, hkk⟩ := Option.isSome_iff_exists.mp (show (keyOf b).isSome = true from hk.1)
          have eu := keyOf_kV rb hkk
          subst eu
          have hlen := rs.length
          have le := Le.put (o' := .dic false (putO kvs b c)) (h := .dK (putK ws kk v)) hs e1 hS nd
          refine set_dict (by omega) pins s σ _ _ _ _ _ _ _ Q I ro ri rv ⟨p, _, rfl, DPut.k hH (by omega), ?_⟩
          exact q _ rfl le (hs.put e1 hS nd ⟨_, upd_same, Paired.mapP (putO_put (f := keyOf) (fun h1 h2 => eqv_key h1 h2) hkk (okKey_of rb) rc rs) fun _ _ z => ⟨z.1, z.2.1, z.2.2.mono le.mo⟩⟩)
        | true =>
          obtain ⟨ws, hH, rs⟩ := hs.obj n p _ e1 hS
          obtain ⟨kk, hkk⟩ := Option.isSome_iff_exists.mp (show (tkeyOf b).isSome = true from hk.1)
          have okb := okKey_of rb
          cases b <;> simp only [tkeyOf] at hkk <;> first | (cases hkk; done) | skip
          rename_i xs
          obtain ⟨bb, vs, rfl, hb, rts⟩ := relA_tup rb
          have ev := keysOf_kV rts hkk
          have hbt := hb.1
          rw [ev] at hbt
          have hkk' : tkeyOf (.tup xs) = some kk := hkk
          have hlen := rs.length
          have le := Le.put (o' := .dic true (putO kvs (.tup xs) c)) (h := .dT (putK ws kk v)) hs e1 hS nd
          refine set_dict (by omega) pins s σ _ _ _ _ _ _ _ Q I ro ri rv ⟨p, _, rfl, DPut.t hH hbt (by omega), ?_⟩
          exact q _ rfl le (hs.put e1 hS nd ⟨_, upd_same, Paired.mapP (putO_put (f := tkeyOf) (fun h1 h2 => eqv_tkey h1 h2) hkk' okb rc rs) fun _ _ z => ⟨z.1, z.2.1, z.2.2.mono le.mo⟩⟩)
      · cases e
    · cases e
  · cases e

theorem assign_sub {o i : Expr} {pos : Pos} (h : plainSub i = true) (env : Env) (v : Value) : assign (.Subscript o i pos) env v = (do
      let ov ← holding [v] (eval o env)
      let iv ← holding [v, ov] (eval i env)
      standAt pos
      holding [v, ov, iv] (setItem ov iv v)
      release [v, ov, iv] []) := by
  cases i <;> first | rfl | skip
  rename_i l u s p
  cases s <;> first | rfl | cases h
theorem stores_tup {es : List Expr} {kk : Nat} {p : Pos} {v : Expr} (h : notDisp v = true) (env : Env) : swappedStores [.Tuple es kk p] v env = pure none := by
  cases v <;> first | rfl | cases h
theorem stores_sub {o i : Expr} {p : Pos} (v : Expr) (env : Env) : swappedStores [.Subscript o i p] v env = pure none := by
  cases v <;> rfl
theorem sw_comp (B : Bx X ad G W k cal m) {v : Expr} {x : Str} {p : Pos} {l : Nat} (h : swB m x p.line v = true) : swapsWith v (some (.Name x p)) l X.env = pure true := by
  cases v <;> first | (cases h; done) | skip
  rename_i elt gs scope pos
  simp only [swB, Bool.and_eq_true, beq_iff_eq] at h
  obtain ⟨⟨h1, h2⟩, h3⟩ := h
  refine sw_true B.kind ?_ (by simpa using h2) (by simpa using h3)
  rw [B.sc]
  split at h1
  · assumption
  · cases h1
/-- the loop -/
theorem s_for {K : PySem.W.Frag} {kk : IK} {src : List Lt.E} {t : T} {b : List Sm} {D : Ends} {σ : L2.St} {H : Hp} (h : tS K ad G W (fun τ S => denS G cal (.forr t kk src b) τ S) D σ H) :
    tFor (tI K ad G W (fun τ S => iD G cal kk src τ S)) (gT K ad t) (tS K ad G W (fun τ S => denSs G cal b τ S)) D σ H := by
  obtain ⟨w, τ, e, s, rt, h⟩ := h
  have h : okS_ K ad G W D w ((iD G cal kk src τ w.S).go τ fun xg S1 => forD xg.2 (fun a τ => T.asg t a τ) (fun τ S => denSs G cal b τ S) xg.1 τ S1) := by
    have h : okS_ K ad G W D w ((dens G cal src τ w.S).go τ fun vs S1 => match srcO kk vs S1 with
      | none => .no
      | some (xs, g) => forD g (fun a τ => T.asg t a τ) (fun τ S => denSs G cal b τ S) xs τ S1) := h
    unfold iD
    cases hd : dens G cal src τ w.S with
    | ok vs S1 =>
      rw [hd] at h
      simp only [R.go_ok, R.bind_ok] at h ⊢
      cases hs : srcO kk vs S1 with
      | none => rw [hs] at h; exact h.elim
      | some xg => rw [hs] at h; exact h
    | ex c fs S1 => rw [hd] at h; exact h
    | no => rw [hd] at h; exact h.elim
  refine ⟨w, τ, e, s, rt, okI.go rt h ?_⟩
  rintro w1 ⟨xs, g⟩ J l1 s1 itm h
  refine ⟨fun i n σ H => ∃ wc τ, wc.H = H ∧ RelS K ad.cls wc ∧ Mo w1 wc ∧ RelT K wc τ σ ∧ n = xs.length - i ∧ i ≤ xs.length ∧ okS_ K ad G W D wc (forD g (fun a τ => T.asg t a τ) (fun τ S => denSs G cal b τ S) (xs.drop i) τ wc.S),
    ⟨xs.length, w1, τ, rfl, s1, Mo.refl w1, rt.mono l1.mo, by simp, Nat.zero_le _, h⟩, ?_⟩
  rintro i n σ H2 ⟨wc, τ, rfl, sc, mo, rtc, rfl, hi, hr⟩
  by_cases hlt : i < xs.length
  · right
    have hdrop : xs.drop i = xs[i] :: xs.drop (i + 1) := List.drop_eq_getElem_cons hlt
    rw [hdrop] at hr
    have gk : g.ok wc.S := by
      by_cases gk : g.ok wc.S
      · exact gk
      · simp only [forD, if_neg gk] at hr
        exact hr.elim
    simp only [forD, if_pos gk] at hr
    obtain ⟨go, yl⟩ := (itm wc mo sc gk i).2 xs[i] (List.getElem?_eq_getElem hlt)
    refine ⟨go, fun σ' H' => ∃ wc τ, wc.H = H' ∧ RelS K ad.cls wc ∧ Mo w1 wc ∧ RelT K wc τ σ' ∧ okS_ K ad G W D wc (forD g (fun a τ => T.asg t a τ) (fun τ S => denSs G cal b τ S) (xs.drop (i + 1)) τ wc.S), ?_, ?_⟩
    · rintro σ' H' ⟨wd, τ', e1, e2, e3, e4, e5⟩
      exact ⟨xs.length - (i + 1), by omega, wd, τ', e1, e2, e3, e4, rfl, hlt, e5⟩
    · intro x H' hy
      obtain ⟨w2, e2, eS2, l2, s2, r2⟩ := yl x H' hy
      cases ea : T.asg t xs[i] τ with
      | none => rw [ea] at hr; exact hr.elim
      | some τ1 =>
        rw [ea] at hr
        refine ⟨w2, τ, xs[i], τ1, e2, s2, rtc.mono l2.mo, r2, ea, fun w3 σ3 eS3 l3 s3 rt3 _ => ⟨w3, τ1, rfl, s3, rt3, ?_⟩⟩
        show okS_ K ad G W _ w3 (denSs G cal b τ1 w3.S)
        rw [eS3, eS2]
        have l13 : Le wc w3 := l2.trans l3
        have hr : okS_ K ad G W D wc (match denSs G cal b τ1 wc.S with
          | .nx τ2 S2 => forD g (fun a τ => T.asg t a τ) (fun τ S => denSs G cal b τ S) (xs.drop (i + 1)) τ2 S2
          | .ct τ2 S2 => forD g (fun a τ => T.asg t a τ) (fun τ S => denSs G cal b τ S) (xs.drop (i + 1)) τ2 S2
          | .bk τ2 S2 => .nx τ2 S2
          | r => r) := hr
        cases hb : denSs G cal b τ1 wc.S with
        | nx τ2 S2 =>
          rw [hb] at hr
          intro w4 σ4 e4 l4 s4 rt4
          exact ⟨w4, τ2, rfl, s4, mo.trans (l13.mo.trans l4.mo), rt4, by rw [e4]; exact hr.at (l13.trans l4)⟩
        | ct τ2 S2 =>
          rw [hb] at hr
          intro w4 σ4 e4 l4 s4 rt4
          exact ⟨w4, τ2, rfl, s4, mo.trans (l13.mo.trans l4.mo), rt4, by rw [e4]; exact hr.at (l13.trans l4)⟩
        | bk τ2 S2 => rw [hb] at hr; exact hr.at l13
        | rt a S2 => rw [hb] at hr; exact hr.at l13
        | ex c fs τ2 S2 => rw [hb] at hr; exact hr.at l13
        | no => rw [hb] at hr; exact hr.elim
  · left
    have e : i = xs.length := by omega
    subst e
    rw [List.drop_length] at hr
    have gk : g.ok wc.S := by
      by_cases gk : g.ok wc.S
      · exact gk
      · simp only [forD, if_neg gk] at hr
        exact hr.elim
    simp only [forD, if_pos gk] at hr
    exact ⟨(itm wc mo sc gk xs.length).1 rfl, hr wc σ rfl (Le.refl wc) sc rtc⟩
theorem s_whl {K : PySem.W.Frag} {n : Nat} {c : Lt.E} {b : List Sm} {D : Ends} {σ : L2.St} {H : Hp} (h : tS K ad G W (fun τ S => denS G cal (.whl n c b) τ S) D σ H) :
    tWhile (tT K ad G W (fun τ S => tst G cal c τ S)) (tS K ad G W (fun τ S => denSs G cal b τ S)) D σ H := by
  obtain ⟨w, τ, rfl, s, rt, h⟩ := h
  refine ⟨fun n σ H => ∃ wc τ, wc.H = H ∧ RelS K ad.cls wc ∧ RelT K wc τ σ ∧ okS_ K ad G W D wc (whlD (fun τ S => tst G cal c τ S) (fun τ S => denSs G cal b τ S) n τ wc.S), ⟨n, w, τ, rfl, s, rt, h⟩, ?_⟩
  rintro n σ H2 ⟨wc, τ, rfl, sc, rtc, hr⟩
  cases n with
  | zero => exact hr.elim
  | succ n =>
    refine ⟨wc, τ, rfl, sc, rtc, okB.go rtc hr fun w1 kk l1 s1 hr => ?_⟩
    cases kk with
    | false =>
      rw [if_neg (by decide)] at hr ⊢
      exact hr w1 σ rfl (Le.refl w1) s1 (rtc.mono l1.mo)
    | true =>
      rw [if_pos rfl] at hr ⊢
      refine ⟨fun σ' H' => ∃ wc τ, wc.H = H' ∧ RelS K ad.cls wc ∧ RelT K wc τ σ' ∧ okS_ K ad G W D wc (whlD (fun τ S => tst G cal c τ S) (fun τ S => denSs G cal b τ S) n τ wc.S), fun σ' H' hN => ⟨n, Nat.lt_succ_self n, hN⟩, w1, τ, rfl, s1, rtc.mono l1.mo, ?_⟩
      show okS_ K ad G W _ w1 (denSs G cal b τ w1.S)
      have hr : okS_ K ad G W D w1 (match denSs G cal b τ w1.S with
        | .nx τ2 S2 => whlD (fun τ S => tst G cal c τ S) (fun τ S => denSs G cal b τ S) n τ2 S2
        | .ct τ2 S2 => whlD (fun τ S => tst G cal c τ S) (fun τ S => denSs G cal b τ S) n τ2 S2
        | .bk τ2 S2 => .nx τ2 S2
        | r => r) := hr
      cases hb : denSs G cal b τ w1.S with
      | nx τ2 S2 =>
        rw [hb] at hr
        intro w4 σ4 e4 l4 s4 rt4
        exact ⟨w4, τ2, rfl, s4, rt4, by rw [e4]; exact hr.at l4⟩
      | ct τ2 S2 =>
        rw [hb] at hr
        intro w4 σ4 e4 l4 s4 rt4
        exact ⟨w4, τ2, rfl, s4, rt4, by rw [e4]; exact hr.at l4⟩
      | bk τ2 S2 => rw [hb] at hr; exact hr
      | rt a S2 => rw [hb] at hr; exact hr
      | ex c fs τ2 S2 => rw [hb] at hr; exact hr
      | no => rw [hb] at hr; exact hr.elim
theorem putF_rel {K : PySem.W.Frag} {w : Wd} {f : Str} {a : A} {v : V} (r : RelA K w a v) : ∀ {fs : List (Str × A)} {ws : List (Str × V)}, Paired (fun (p : Str × A) (q : Str × V) => p.1 = q.1 ∧ RelA K w p.2 q.2) fs ws →
    Paired (fun (p : Str × A) (q : Str × V) => p.1 = q.1 ∧ RelA K w p.2 q.2) (Lt.putF f a fs) (L2.putF f v ws)
  | _, _, .nil => .cons ⟨rfl, r⟩ .nil
  | (x, b) :: fs, (y, u) :: ws, .cons h t => by
    obtain ⟨rfl, rb⟩ := h
    have ih := putF_rel (f := f) r t
    unfold Lt.putF L2.putF
    by_cases e : x = f
    · rw [if_pos e, if_pos e]; exact .cons ⟨rfl, r⟩ t
    · rw [if_neg e, if_neg e]; exact .cons ⟨rfl, rb⟩ ih
theorem fldO_ok {X : Cx} {W : WX} {m : MC} (F : Fx X ad G W k cal m) {w : Wd} {a b : A} {v u : V} {f : Str} {S3 : List O} (s : RelS X.K ad.cls w) (ra : RelA X.K w a v) (rb : RelA X.K w b u) (e : fldO G a f b w.S = some S3) :
    ∃ p C dx fs, v = .ref p ∧ w.H p = some (.ins C dx fs) ∧ Cls X.K C ∧ NoAttr X.K C f ∧ fs.length < 1000 ∧ ∃ w', w'.H = upd w.H p (.ins C dx (L2.putF f u fs)) ∧ w'.S = S3 ∧ Le w w' ∧ RelS X.K ad.cls w' := by
  unfold fldO at e
  split at e
  · rename_i n
    obtain ⟨p, e1, rfl⟩ := relA_ref ra
    split at e
    · rename_i c fs hS
      split at e
      · rename_i ci ec
        split at e
        · rename_i hf
          cases e
          obtain ⟨dx, ws, q, rs⟩ := s.obj n p _ e1 hS
          have hc : c < G.clss.length := (List.getElem?_eq_some_iff.mp ec).1
          have nd : (O.ins c fs).Lv := trivial
          have le := Le.put (o' := .ins c (Lt.putF f b fs)) (h := .ins (ad.cls c) dx (L2.putF f u ws)) s e1 hS nd
          refine ⟨p, ad.cls c, dx, ws, rfl, q, (F.st.cf c hc).cl, (F.st.mem c ci ec).fld f hf.1, by rw [← rs.length]; exact hf.2, ⟨w.ms, w.S.set n (.ins c (Lt.putF f b fs)), upd w.H p (.ins (ad.cls c) dx (L2.putF f u ws)), w.hid⟩, rfl, rfl, le, ?_⟩
          exact s.put e1 hS nd ⟨dx, _, upd_same, Paired.mapP (putF_rel rb rs) fun _ _ z => ⟨z.1, z.2.mono le.mo⟩⟩
        · cases e
      · cases e
    · cases e
  · cases e
/-- the clauses, read -/
noncomputable def clz (K : PySem.W.Frag) (ad : Ad) (G : Gt) (cal : Cal) : List (Nat × Option Nat) → List Sm → Clz
  | (c, oi) :: cs, s :: ss => (.ref (ad.xc c), oi, fun _ _ _ => tS K ad G (fun _ _ _ _ => False) (fun τ S => denS G cal s τ S)) :: clz K ad G cal cs ss
  | _, _ => []
theorem xcs_len {cs : List (Nat × Option Nat)} {ss : List Sm} {hds : List ExceptHandler} (h : mHs G m cs ss hds = true) : ∀ p ∈ cs, p.1 < G.xcs.length := by
  induction cs generalizing ss hds with
  | nil => intro p hp; cases hp
  | cons c cs ih =>
    obtain ⟨c, oi⟩ := c
    cases ss with
    | nil => simp [mHs] at h
    | cons s ss =>
      cases hds with
      | nil => simp [mHs] at h
      | cons hd hds =>
        simp only [mHs, Bool.and_eq_true] at h
        obtain ⟨h1, h2⟩ := h
        intro p hp
        rcases List.mem_cons.mp hp with rfl | hp
        · split at h1
          case h_2 => cases h1
          simp only [Bool.and_eq_true] at h1
          have h3 := h1.1.1.1.2
          split at h3
          · rename_i q hq; exact (List.getElem?_eq_some_iff.mp hq).1
          · cases h3
        · exact ih h2 p hp
theorem clz_ok (F : Fx X ad G W k cal m) {D : Ends} {cv : Value} {d : Option Addr} {c : Nat} {fs : List A} {τ : Tau} {σ : L2.St} {w : Wd} : ∀ (cs : List (Nat × Option Nat)) (ss : List Sm), RelS X.K ad.cls w → RelT X.K w τ σ → ExR X.K ad G w c fs cv d →
    okS_ X.K ad G W D w (denCs G cal cs ss c fs τ w.S) → (∀ p ∈ cs, p.1 < G.xcs.length) → wTm X.K W D (clz X.K ad G cal cs ss) cv d σ w.H
  | [], [], s, rt, x, ok, _ => ok w σ cv d rfl (Le.refl w) s rt x
  | [], _ :: _, _, _, _, ok, _ => (ok : False).elim
  | (_, _) :: _, [], _, _, _, ok, _ => (ok : False).elim
  | (e, oi) :: cs, st :: ss, s, rt, x, ok, hl => by
    have he := hl _ List.mem_cons_self
    obtain ⟨rfl, dd, ws, q, rfl, vx, hq, pr⟩ := id x
    have hc : c < G.xcs.length := (List.getElem?_eq_some_iff.mp hq).1
    have ok : okS_ X.K ad G W D w (if c = e then (match G.xcs[c]? with
      | some p => (denS G cal st (putX oi τ (.ref w.S.length)) (w.S ++ [.exc c (p.2.zip fs).reverse])).clr oi
      | none => .no) else denCs G cal cs ss c fs τ w.S) := ok
    refine ⟨c == e, (F.st.xeq c e hc he).1, fun h a ha => ?_, fun h => ?_⟩
    · have h := eq_of_beq h
      subst h
      rw [if_pos rfl, hq] at ok
      have g := upd_grow (o := XoE a (.ref (ad.xc c)) (some dd)) ha
      have le := Le.new (K := X.K) (cls := ad.cls) (o := .exc c (q.2.zip fs).reverse) s ha g
      have s' : RelS X.K ad.cls ⟨w.ms ++ [a], w.S ++ [.exc c (q.2.zip fs).reverse], upd w.H a (XoE a (.ref (ad.xc c)) (some dd)), w.hid⟩ :=
        s.new (o := .exc c (q.2.zip fs).reverse) ha g ⟨_, upd_same⟩ ⟨dd, ws, by rw [(F.st.xcs c q hq).1]; exact upd_same, vx.mono le.mo, Paired.mapP pr fun _ _ z => ⟨z.1, z.2.mono le.mo⟩⟩
      have rt' : RelT X.K ⟨w.ms ++ [a], w.S ++ [.exc c (q.2.zip fs).reverse], upd w.H a (XoE a (.ref (ad.xc c)) (some dd)), w.hid⟩ (putX oi τ (.ref w.S.length)) (putS oi σ a) := by
        cases oi with
        | none => exact rt.mono le.mo
        | some i => exact (rt.mono le.mo).set i (new_ref s)
      refine ⟨_, _, rfl, s', rt', ?_⟩
      exact okS_.at (clr_ok ok) le
    · have h : c ≠ e := by simpa using h
      rw [if_neg h] at ok
      exact clz_ok F cs ss s rt x ok fun p hp => hl p (List.mem_cons_of_mem _ hp)
mutual
theorem sS : ∀ (st : Sm) {X : Cx} {W : WX} {m : MC} (B : Bx X ad G W k cal m) (x : Stmt), mS G m st x = true → PS X x (tS X.K ad G W (fun τ S => denS G cal st τ S))
  | .asg (.t (.nm i)) e, X, W, m, B, x, h => by
    cases x <;> simp only [mS] at h <;> first | (cases h; done) | skip
    rename_i tgs v pos
    rcases tgs with _ | ⟨tg, _ | ⟨t2, r⟩⟩ <;> first | (cases h; done) | (cases tg <;> cases h; done) | skip
    cases tg <;> first | (cases h; done) | skip
    rename_i x p
    simp only [Bool.and_eq_true] at h
    obtain ⟨⟨h1, h2⟩, h3⟩ := h
    have hN : X.N[i]? = some x ∧ Loc X.env.scope x ∧ (X.fn x = true ∨ X.env.scope.names.lookup x = some .local) := by
      simp only [mT, Bool.and_eq_true, beq_iff_eq] at h1
      obtain ⟨h1, h4⟩ := h1
      rw [B.sc, B.N]
      unfold stor at h4
      split at h4
      · rename_i e; exact ⟨h1, .inl e, .inr e⟩
      · rename_i e; exact ⟨h1, .inr e, .inl (B.fb x h4)⟩
      · cases h4
    cases hn : noComp v with
    | true =>
      refine PS.imp (ps_set (i := i) B.nd hN.1 hN.2.1 (sE e B.toFx v h2).pe (sw_false hn) hN.2.2) ?_
      rintro D σ H ⟨w, τ, rfl, s, rt, ok⟩
      refine ⟨w, τ, rfl, s, rt, okR.go rt ok fun w1 a u l1 s1 ra ok1 => ?_⟩
      exact ok1 w1 _ rfl (Le.refl w1) s1 ((rt.mono l1.mo).set i ra)
    | false =>
      rw [hn, Bool.false_or, Bool.and_eq_true] at h3
      have sw := sw_comp B (l := pos.line) h3.2
      cases v <;> first | (cases hn; done) | (cases h3.2; done) | skip
      rename_i elt' gens scope posc
      have hloc : X.env.scope.names.lookup x = some .local := by
        have := h3.2
        simp only [swB, Bool.and_eq_true] at this
        obtain ⟨⟨h, _⟩, _⟩ := this
        rw [B.sc]
        split at h
        · assumption
        · cases h
      cases e <;> first | (cases h3.1; done) | skip
      · rename_i fl elt t ik src ifs own
        simp only [mE] at h2
        rcases gens with _ | ⟨⟨tg, iter, ifs', asy⟩, _ | ⟨g2, r⟩⟩ <;> first | (cases h2; done) | skip
        simp only [Bool.and_eq_true, beq_iff_eq, decide_eq_true_eq, List.all_eq_true, List.contains_iff_mem] at h2
        obtain ⟨hcalm, ⟨⟨⟨⟨⟨⟨⟨rfl, g1⟩, g2⟩, g3⟩, g4⟩, g5⟩, g6⟩, g7⟩, g8⟩ := h2
        cases ha : srcArgs m ik tg iter with
        | none => rw [ha] at g2; cases g2
        | some args =>
          rw [ha] at g2
          simp only [Bool.and_eq_true] at g2
          have L := lcParts B.toFx g1 ha g2.1 g2.2 (let z := sEs src B.toFx args g2.2; ⟨z.1, z.2.1⟩) g3 g5 g6 g7 (fun s H C cl fp => let z := sEs ifs (B.blk s H scope cl C fp) ifs' g6; ⟨z.1, z.2.1⟩) (fun s H C cl fp => (sE elt (B.blk s H scope cl C fp) elt' g4).pe)
          refine PS.imp (ps_setLc (B.calm hcalm) B.nd hN.1 hloc sw L.pi L.ok L.pg L.pt L.pe (fun x => set_plain g1 X.env x)) ?_
          rintro D σ H ⟨w, τ, rfl, s, rt, ok⟩
          refine s_lc (W := W) g8 (Q := fun x H1 => gName i x σ H1 D.nx) (fl := fl) ⟨w, τ, rfl, s, rt, okR.go rt ok fun w1 a u l1 s1 ra ok1 => ?_⟩
          exact ok1 w1 _ rfl (Le.refl w1) s1 ((rt.mono l1.mo).set i ra)
      · rename_i fl elt t ik src t2 k2 src2 own vs1
        simp only [mE] at h2
        rcases gens with _ | ⟨⟨tg, iter, ifs', asy⟩, _ | ⟨⟨tg2, iter2, ifs2, asy2⟩, _ | ⟨g3, r⟩⟩⟩ <;> first | (cases h2; done) | (cases ifs' <;> cases h2; done) | (cases ifs' <;> cases ifs2 <;> cases h2; done) | skip
        cases ifs' <;> first | (cases h2; done) | skip
        cases ifs2 <;> first | (cases h2; done) | skip
        simp only [Bool.and_eq_true, beq_iff_eq, List.all_eq_true, List.contains_iff_mem] at h2
        obtain ⟨hcalm, rfl, rfl, g1, g1', g2, g2', g3, g3', g4, g7, g8, g8', g9⟩ := h2
        cases ha : srcArgs m ik tg iter with
        | none => rw [ha] at g2; cases g2
        | some args =>
          cases hb : srcArgs (m.blk scope) k2 tg2 iter2 with
          | none => rw [hb] at g2'; cases g2'
          | some args2 =>
            rw [ha] at g2
            rw [hb] at g2'
            simp only [Bool.and_eq_true] at g2 g2'
            have U := sEs src B.toFx args g2.2
            have S1 := allStar g2.2
            have S2 := allStar g2'.2
            refine PS.imp (ps_setLc2 (wi1 := tI X.K ad G (fun _ _ _ _ => False) fun τ S => iD G cal k2 src2 τ S) (g := gT X.K ad t) (g1 := gT X.K ad t2) (te := tE X.K ad G (fun _ _ _ _ => False) fun τ S => den G cal elt τ S) (B.calm hcalm) B.nd hN.1 hloc sw (s_pi B.toFx ha g2.1 S1.1 S1.2 U.1 (fun x hx => let ⟨e, a, b, _⟩ := U.2.1 x hx; ⟨e, a, b⟩)) (by rw [B.N, B.sc]; exact blkOk_by g7) g9
              (fun s H C cl fp => sT (ad := ad) (B.toFx.blk s H scope cl C fp).toMx t tg g3) (fun s H C cl fp => pts_nil)
              (fun s H C cl fp => let V := sEs src2 (B.toFx.blk s H scope cl C fp) args2 g2'.2; s_pi (B.toFx.blk s H scope cl C fp) hb g2'.1 S2.1 S2.2 V.1 (fun x hx => let ⟨e, a, b, _⟩ := V.2.1 x hx; ⟨e, a, b⟩))
              (fun s H C cl fp => sT (ad := ad) (B.toFx.blk s H scope cl C fp).toMx t2 tg2 g3') (fun s H C cl fp => pts_nil)
              (fun s H C cl fp => (sE elt (B.toFx.blk s H scope cl C fp) elt' g4).pe) (fun x => set_plain g1 X.env x) (fun env x => set_plain g1' env x)) ?_
            rintro D σ H ⟨w, τ, rfl, s, rt, ok⟩
            refine s_lc2 (W := W) g8 g8' (Q := fun x H1 => gName i x σ H1 D.nx) (fl := fl) ⟨w, τ, rfl, s, rt, okR.go rt ok fun w1 a u l1 s1 ra ok1 => ?_⟩
            exact ok1 w1 _ rfl (Le.refl w1) s1 ((rt.mono l1.mo).set i ra)
  | .asg (.t (.tup ts)) e, X, W, m, B, x, h => by
    cases x <;> simp only [mS] at h <;> first | (cases h; done) | skip
    rename_i tgs v pos
    rcases tgs with _ | ⟨tg, _ | ⟨t2, r⟩⟩ <;> first | (cases h; done) | (cases tg <;> cases h; done) | skip
    cases tg <;> first | (cases h; done) | skip
    rename_i es kk p
    simp only [Bool.and_eq_true] at h
    obtain ⟨⟨⟨h1, h2⟩, h3⟩, h4⟩ := h
    have h1' : mT m (.tup ts) (.Tuple es kk p) = true := by rw [mT, h1.1, h1.2]; rfl
    have pg : PG X (.Tuple es kk p) (gT X.K ad (.tup ts)) := sT B.toMx (.tup ts) _ h1'
    refine PS.imp (ps_asg (sE e B.toFx v h2).pe pg (sole_false h3) (stores_tup h4 X.env) rfl) ?_
    rintro D σ H ⟨w, τ, rfl, s, rt, ok⟩
    refine ⟨w, τ, rfl, s, rt, okR.go rt ok fun w1 a u l1 s1 ra ok1 => ?_⟩
    split at ok1
    · rename_i τ1 e1
      exact ⟨w1, τ, a, τ1, rfl, s1, rt.mono l1.mo, ra, e1, fun w2 σ2 eS l2 s2 rt2 _ => ok1 w2 σ2 eS l2 s2 rt2⟩
    · exact ok1.elim
  | .asg (.t (.star is i)) e, X, W, m, B, x, h => by simp [mS] at h
  | .asg (.sub o i) e, X, W, m, B, x, h => by
    cases x <;> simp only [mS] at h <;> first | (cases h; done) | skip
    rename_i tgs v pos
    rcases tgs with _ | ⟨tg, _ | ⟨t2, r⟩⟩ <;> first | (cases h; done) | (cases tg <;> cases h; done) | skip
    cases tg <;> first | (cases h; done) | skip
    rename_i x y p
    simp only [Bool.and_eq_true] at h
    obtain ⟨⟨⟨⟨h1, h2⟩, h3⟩, h4⟩, h5⟩ := h
    refine PS.imp (ps_asg (sE e B.toFx v h4).pe (pg_sub (sE o B.toFx x h1).pe (sE i B.toFx y h2).pe (pset_o (ad := ad) (unitsOk B.toFx)) (fun v => assign_sub h3 X.env v)) (sole_false h5) (stores_sub v X.env) rfl) ?_
    rintro D σ H ⟨w, τ, rfl, s, rt, ok⟩
    refine ⟨w, τ, rfl, s, rt, okR.go rt ok fun w1 a u l1 s1 ra ok1 => ?_⟩
    refine ⟨w1, τ, rfl, s1, rt.mono l1.mo, okR.go (rt.mono l1.mo) ok1 fun w2 b u2 l2 s2 rb ok2 => ?_⟩
    refine ⟨w2, τ, rfl, s2, (rt.mono l1.mo).mono l2.mo, okR.go ((rt.mono l1.mo).mono l2.mo) ok2 fun w3 c u3 l3 s3 rc ok3 => ?_⟩
    split at ok3
    · rename_i S4 e4
      exact ⟨w3, b, c, a, S4, rfl, s3, rb.mono l3.mo, rc, (ra.mono l2.mo).mono l3.mo, e4, fun w4 eS l4 s4 => ok3 w4 σ eS l4 s4 ((((rt.mono l1.mo).mono l2.mo).mono l3.mo).mono l4.mo)⟩
    · exact ok3.elim
  | .asg (.fld o f) e, X, W, m, B, x, h => by
    cases x <;> simp only [mS] at h <;> first | (cases h; done) | skip
    rename_i tgs v pos
    rcases tgs with _ | ⟨tg, _ | ⟨t2, r⟩⟩ <;> first | (cases h; done) | (cases tg <;> cases h; done) | skip
    cases tg <;> first | (cases h; done) | skip
    rename_i x g p
    simp only [Bool.and_eq_true, beq_iff_eq] at h
    obtain ⟨⟨⟨rfl, h1⟩, h2⟩, h4⟩ := h
    refine PS.imp (ps_fld (sE o B.toFx x h2).pe (sE e B.toFx v h4).pe sw_attr) ?_
    rintro D σ H ⟨w, τ, rfl, s, rt, ok⟩
    refine ⟨w, τ, rfl, s, rt, okR.go rt ok fun w1 a u l1 s1 ra ok1 => ?_⟩
    refine ⟨w1, τ, rfl, s1, rt.mono l1.mo, okR.go (rt.mono l1.mo) ok1 fun w2 b u2 l2 s2 rb ok2 => ?_⟩
    split at ok2
    · rename_i S3 e3
      obtain ⟨p', C, dx, fs, e4, e5, e6, e7, e8, w3, e9, e10, e11, e12⟩ := fldO_ok B.toFx s2 rb (ra.mono l2.mo) e3
      exact ⟨p', C, dx, fs, e4, e5, e6, e7, e8, by rw [← e9]; exact ok2 w3 σ e10 e11 e12 (((rt.mono l1.mo).mono l2.mo).mono e11.mo)⟩
    · exact ok2.elim
  | .aug i op e, X, W, m, B, x, h => by
    cases x <;> simp only [mS] at h <;> first | (cases h; done) | skip
    rename_i tg op' v pos
    cases tg <;> first | (cases h; done) | skip
    rename_i x p
    simp only [Bool.and_eq_true, decide_eq_true_eq] at h
    obtain ⟨h1, h0, rfl, h2⟩ := h
    have hN : X.N[i]? = some x ∧ Loc X.env.scope x ∧ (X.fn x = true ∨ X.env.scope.names.lookup x = some .local) := by
      simp only [mT, Bool.and_eq_true, beq_iff_eq] at h1
      obtain ⟨h1, h4⟩ := h1
      rw [B.sc, B.N]
      unfold stor at h4
      split at h4
      · rename_i e; exact ⟨h1, .inl e, .inr e⟩
      · rename_i e; exact ⟨h1, .inr e, .inl (B.fb x h4)⟩
      · cases h4
    have Pe := (sE e B.toFx v h2).pe
    cases op with
    | Add =>
      refine PS.imp (ps_aug (i := i) B.nd hN.1 hN.2.1 Pe ip_add hN.2.2) ?_
      rintro D σ H ⟨w, τ, rfl, s, rt, ok⟩
      simp only [denS] at ok
      split at ok
      · rename_i j ej
        obtain ⟨v0, ev, rv⟩ := rt.at_ i _ ej
        cases relA_int rv
        refine ⟨_, ev, w, τ, rfl, s, rt, okR.go rt ok fun w1 a u l1 s1 ra ok1 => ?_⟩
        split at ok1
        · rename_i y _
          cases relA_int ra
          exact ⟨j, y, rfl, rfl, ok1 w1 _ rfl (Le.refl w1) s1 ((rt.mono l1.mo).set i int_rel)⟩
        · rename_i hh; cases hh
        · exact (ok1 : False).elim
      · exact (ok : False).elim
    | Sub =>
      refine PS.imp (ps_aug (i := i) B.nd hN.1 hN.2.1 Pe ip_sub hN.2.2) ?_
      rintro D σ H ⟨w, τ, rfl, s, rt, ok⟩
      simp only [denS] at ok
      split at ok
      · rename_i j ej
        obtain ⟨v0, ev, rv⟩ := rt.at_ i _ ej
        cases relA_int rv
        refine ⟨_, ev, w, τ, rfl, s, rt, okR.go rt ok fun w1 a u l1 s1 ra ok1 => ?_⟩
        split at ok1
        · rename_i hh; cases hh
        · rename_i y _
          cases relA_int ra
          exact ⟨j, y, rfl, rfl, ok1 w1 _ rfl (Le.refl w1) s1 ((rt.mono l1.mo).set i int_rel)⟩
        · exact (ok1 : False).elim
      · exact (ok : False).elim
    | _ => cases h0
  | .ex e, X, W, m, B, x, h => by
    cases x <;> simp only [mS] at h <;> first | (cases h; done) | skip
    rename_i v pos
    simp only [Bool.and_eq_true] at h
    refine PS.imp (ps_expr (sE e B.toFx v h.1).pe (sw_false h.2)) ?_
    rintro D σ H ⟨w, τ, rfl, s, rt, ok⟩
    refine ⟨w, τ, rfl, s, rt, okR.go rt ok fun w1 a u l1 s1 ra ok1 => ?_⟩
    exact ok1 w1 σ rfl (Le.refl w1) s1 (rt.mono l1.mo)
  | .ret e, X, W, m, B, x, h => by
    cases x <;> simp only [mS] at h <;> first | (cases h; done) | skip
    rename_i v pos
    cases v <;> first | (cases h; done) | skip
    rename_i v
    refine PS.imp (ps_ret (sE e B.toFx v h).pe) ?_
    rintro D σ H ⟨w, τ, rfl, s, rt, ok⟩
    refine ⟨w, τ, rfl, s, rt, okR.go rt ok fun w1 a u l1 s1 ra ok1 => ?_⟩
    exact ok1 w1 u rfl (Le.refl w1) s1 ra
  | .retN, X, W, m, B, x, h => by
    cases x <;> simp only [mS] at h <;> first | (cases h; done) | skip
    rename_i v pos
    cases v <;> first | (cases h; done) | skip
    refine PS.imp ps_retN ?_
    rintro D σ H ⟨w, τ, rfl, s, rt, ok⟩
    exact ok w .non rfl (Le.refl w) s non_rel
  | .pass, X, W, m, B, x, h => by
    cases x <;> simp only [mS] at h <;> first | (cases h; done) | skip
    refine PS.imp ps_pass ?_
    rintro D σ H ⟨w, τ, rfl, s, rt, ok⟩
    exact ok w σ rfl (Le.refl w) s rt
  | .brk, X, W, m, B, x, h => by
    cases x <;> simp only [mS] at h <;> first | (cases h; done) | skip
    refine PS.imp ps_break ?_
    rintro D σ H ⟨w, τ, rfl, s, rt, ok⟩
    exact ok w σ rfl (Le.refl w) s rt
  | .cont, X, W, m, B, x, h => by
    cases x <;> simp only [mS] at h <;> first | (cases h; done) | skip
    refine PS.imp ps_continue ?_
    rintro D σ H ⟨w, τ, rfl, s, rt, ok⟩
    exact ok w σ rfl (Le.refl w) s rt
  | .lk o st, X, W, m, B, x, h => by
    have h : mS G m st x = true := by simpa only [mS] using h
    refine PS.imp (ps_lock (sS st B x h)) ?_
    rintro D σ H ⟨w, τ, rfl, s, rt, ok⟩
    have ok : okS_ X.K ad G W D w (match lkO w.S (den G cal o τ w.S) with
      | some (n, S1) => (denS G cal st τ S1).unlk n
      | none => .no) := ok
    split at ok
    case h_2 => exact (ok : False).elim
    rename_i n S1 he
    obtain ⟨t, kvs, hS, rfl⟩ := lkO_eq he
    obtain ⟨a, u, hu, mu, lk⟩ := dic_lock s hS
    refine ⟨a, u, hu, mu, fun od => ?_⟩
    obtain ⟨s1, l1, un⟩ := lk od
    refine ⟨w.lk n a (.fdic t kvs) (.frz od u), τ, rfl, s1, rt.mono l1.mo, ?_⟩
    show okS_ X.K ad G W _ _ (denS G cal st τ (w.S.set n (.fdic t kvs)))
    cases hd : denS G cal st τ (w.S.set n (.fdic t kvs)) with
    | nx τ2 S2 =>
      rw [hd] at ok
      have ok : okS_ X.K ad G W D w (match unlk n S2 with | some S' => .nx τ2 S' | none => .no) := ok
      split at ok
      case h_2 => exact (ok : False).elim
      rename_i S3 e3
      obtain ⟨t', kvs', h3, rfl⟩ := unlk_eq e3
      intro w' σ' eS l2 s2 rt2
      obtain ⟨k1, k2, k3, k4⟩ := un w' t' kvs' l2 s2 (by rw [eS]; exact h3)
      exact ⟨k1, ok (w'.lk n a (.dic t' kvs') u) σ' (by show w'.S.set n _ = _; rw [eS]) k3 k2 (rt2.monoV k4)⟩
    | bk τ2 S2 =>
      rw [hd] at ok
      have ok : okS_ X.K ad G W D w (match unlk n S2 with | some S' => .bk τ2 S' | none => .no) := ok
      split at ok
      case h_2 => exact (ok : False).elim
      rename_i S3 e3
      obtain ⟨t', kvs', h3, rfl⟩ := unlk_eq e3
      intro w' σ' eS l2 s2 rt2
      obtain ⟨k1, k2, k3, k4⟩ := un w' t' kvs' l2 s2 (by rw [eS]; exact h3)
      exact ⟨k1, ok (w'.lk n a (.dic t' kvs') u) σ' (by show w'.S.set n _ = _; rw [eS]) k3 k2 (rt2.monoV k4)⟩
    | ct τ2 S2 =>
      rw [hd] at ok
      have ok : okS_ X.K ad G W D w (match unlk n S2 with | some S' => .ct τ2 S' | none => .no) := ok
      split at ok
      case h_2 => exact (ok : False).elim
      rename_i S3 e3
      obtain ⟨t', kvs', h3, rfl⟩ := unlk_eq e3
      intro w' σ' eS l2 s2 rt2
      obtain ⟨k1, k2, k3, k4⟩ := un w' t' kvs' l2 s2 (by rw [eS]; exact h3)
      exact ⟨k1, ok (w'.lk n a (.dic t' kvs') u) σ' (by show w'.S.set n _ = _; rw [eS]) k3 k2 (rt2.monoV k4)⟩
    | rt b S2 =>
      rw [hd] at ok
      have ok : okS_ X.K ad G W D w (match unlk n S2 with | some S' => .rt b S' | none => .no) := ok
      split at ok
      case h_2 => exact (ok : False).elim
      rename_i S3 e3
      obtain ⟨t', kvs', h3, rfl⟩ := unlk_eq e3
      intro w' v eS l2 s2 ra
      obtain ⟨k1, k2, k3, k4⟩ := un w' t' kvs' l2 s2 (by rw [eS]; exact h3)
      exact ⟨k1, ok (w'.lk n a (.dic t' kvs') u) v (by show w'.S.set n _ = _; rw [eS]) k3 k2 (ra.monoV k4)⟩
    | ex c fs τ2 S2 => rw [hd] at ok; exact (ok : False).elim
    | no => rw [hd] at ok; exact (ok : False).elim
  | .never, X, W, m, B, x, h => by
    refine PS.imp ps_never ?_
    rintro D σ H ⟨w, τ, rfl, s, rt, ok⟩
    exact ok
  | .ifs c a b, X, W, m, B, x, h => by
    cases x <;> simp only [mS] at h <;> first | (cases h; done) | skip
    rename_i c' a' b' pos
    simp only [Bool.and_eq_true] at h
    obtain ⟨⟨h1, h2⟩, h3⟩ := h
    refine PS.imp (ps_if (sE c B.toFx c' h1).pt (sSs a B a' h2) (sSs b B b' h3)) ?_
    rintro D σ H ⟨w, τ, rfl, s, rt, ok⟩
    refine ⟨w, τ, rfl, s, rt, okB.go rt ok fun w1 kk l1 s1 ok1 => ?_⟩
    cases kk with
    | true => exact ⟨w1, τ, rfl, s1, rt.mono l1.mo, ok1⟩
    | false => exact ⟨w1, τ, rfl, s1, rt.mono l1.mo, ok1⟩
  | .forr t kk src b, X, W, m, B, x, h => by
    cases x <;> simp only [mS] at h <;> first | (cases h; done) | skip
    rename_i tg iter b' orelse pos
    cases orelse <;> first | (cases h; done) | skip
    simp only [Bool.and_eq_true] at h
    obtain ⟨⟨⟨⟨hcalm, h1⟩, h2⟩, h3⟩, h4⟩ := h
    cases ha : srcArgs m kk tg iter with
    | none => rw [ha] at h2; cases h2
    | some args =>
      rw [ha] at h2
      simp only [Bool.and_eq_true] at h2
      obtain ⟨h9, h10⟩ := h2
      have U := sEs src B.toFx args h10
      have S := allStar h10
      have pi := s_pi B.toFx ha h9 S.1 S.2 U.1 (fun x hx => let ⟨e, a, b, _⟩ := U.2.1 x hx; ⟨e, a, b⟩)
      refine PS.imp (ps_for (B.own hcalm) (B.calm hcalm) pi (sT (ad := ad) B.toMx t tg h3) (sSs b B b' h4) (fun x => set_plain h1 X.env x)) ?_
      intro D σ H hh
      exact s_for hh
  | .raise c es, X, W, m, B, x, h => by
    cases x <;> simp only [mS] at h <;> first | (cases h; done) | skip
    rename_i e cause pos
    split at h
    case h_2 => cases h
    rename_i x p xs p2 p3 e0
    cases e0
    simp only [Bool.and_eq_true, decide_eq_true_eq] at h
    obtain ⟨⟨⟨⟨⟨hcalm, h1⟩, h2⟩, h3⟩, h4⟩, h5⟩ := h
    split at h4
    case h_2 => cases h4
    rename_i q hq
    simp only [Bool.and_eq_true, beq_iff_eq, decide_eq_true_eq] at h4
    obtain ⟨rfl, hl⟩ := h4
    cases xs with
    | nil => simp at h3
    | cons x xs =>
      have hs' : noStar x = true ∧ xs.all noStar = true := by simpa using (allStar h5).1
      obtain ⟨ec, xo⟩ := B.st.xcs c q hq
      obtain ⟨fI, fdt, ps, i1, i2, i3, i4⟩ := xo.ini
      have U := (sEs es B.toFx (x :: xs) h5).1
      have mk := pmk_oex (pos := p2) (p := p) xo.oex i1 i2 i4 ((B.room hcalm).toRoom.mono (by omega)) i3 .nil (passes_call (B.tk hcalm) (fun _ _ _ _ z => z.elim)) (B.glob h1) xo.mg_ U (not_odd h2).1 (starEach_one hs'.1 _ _) (starEach_any p2 X.env hs'.2)
      refine PS.imp (ps_raise (B.calm hcalm) (B.tk hcalm) mk) ?_
      rintro D σ H ⟨w, τ, rfl, s, rt, ok⟩
      refine ⟨w, τ, rfl, s, rt, okA.go rt ok fun w1 a vs l1 s1 ra ok1 => ?_⟩
      rw [hq] at ok1
      simp only at ok1
      split at ok1
      case isFalse => exact (ok1 : False).elim
      rename_i hal
      have hvl : vs.length = q.2.length := by rw [← ra.length]; exact hal
      refine ⟨by rw [hvl]; exact Nat.le_trans xo.fl2 (by omega), fun p hp => ⟨p, vs, by rw [List.append_nil], hvl, upd_same, fun dx hdx hne => ?_⟩⟩
      have hd1 : w1.H dx = none := by rw [← hdx, upd_ne hne]
      refine ⟨rfl, dx, (q.2.zip vs).reverse, upd_same, by rw [upd_ne hne]; exact upd_same, hd1, ?_⟩
      have eH : upd (del (upd (upd (upd w1.H p (exo p (ad.xc c) none)) dx (exd dx (q.2.zip vs).reverse)) p (exo p (ad.xc c) (some dx))) p) dx (.xd (q.2.zip vs).reverse) = upd w1.H dx (.xd (q.2.zip vs).reverse) := by
        funext b
        unfold upd del
        by_cases e1 : b = dx
        · simp [e1]
        · by_cases e2 : b = p
          · subst e2; simp [e1, hp]
          · simp [e1, e2]
      rw [eH]
      have g := upd_grow (o := .xd (q.2.zip vs).reverse) hd1
      have le : Le w1 ⟨w1.ms, w1.S, upd w1.H dx (.xd (q.2.zip vs).reverse), w1.hid⟩ := Le.grow g
      refine ok1 ⟨w1.ms, w1.S, upd w1.H dx (.xd (q.2.zip vs).reverse), w1.hid⟩ σ (.ref (ad.xc c)) (some dx) rfl le (s1.grow g) ((rt.mono l1.mo).mono le.mo) ⟨rfl, dx, _, q, rfl, ⟨upd_same, fun z => s1.new_ hd1 z⟩, hq, zip_rel (ra.mono le.mo)⟩
  | .blk ss, X, W, m, B, x, h => by simp [mS] at h
  | .tryk b cs ss, X, W, m, B, x, h => by
    cases x <;> simp only [mS] at h <;> first | (cases h; done) | skip
    rename_i body hds orelse fin pos
    split at h
    case h_2 => cases h
    rename_i body hds pos e0
    cases e0
    simp only [Bool.and_eq_true] at h
    obtain ⟨⟨⟨hcalm, h1⟩, h2⟩, h3⟩ := h
    cases hds with
    | nil => simp at h1
    | cons hd hds =>
      have hT := sHs cs ss B hcalm (hd :: hds) h3
      have body_ok : ∀ (W' : WX) (pn : List (Addr × Obj)) (xe : Value → Shared → Prop), Takes (X.tr pn xe) W' → PassesOwn (model X.prog X.w) X.A X.env xe → PSs (X.tr pn xe) body (tS X.K ad G W' (fun τ S => denSs G cal b τ S)) := fun W' pn xe tk own =>
        sSs b (X := X.tr pn xe) (W := W') (m := m) { N := B.N, sc := B.sc, fb := B.fb, nd := B.nd, calm := B.calm, st := B.st, stA := B.stA, room := B.room, un := B.un, ps := fun σ => passAt tk σ, own := fun _ => own, kind := B.kind, tk := fun _ => tk, stk := B.stk, frm := B.frm, exn := B.exn } body h2
      refine PS.imp (ps_try_trk (tb := fun W' => tS X.K ad G W' (fun τ S => denSs G cal b τ S)) B.stk B.frm B.exn B.nd (B.tk hcalm) body_ok hT) ?_
      rintro D σ H ⟨w, τ, rfl, s, rt, ok⟩
      refine ⟨w, τ, rfl, s, rt, ?_⟩
      have ok : okS_ X.K ad G W D w (match denSs G cal b τ w.S with
        | .ex c fs τ1 S1 => denCs G cal cs ss c fs τ1 S1
        | r => r) := ok
      show okS_ X.K ad G _ D w (denSs G cal b τ w.S)
      cases hd : denSs G cal b τ w.S with
      | nx τ1 S1 => rw [hd] at ok; exact ok
      | bk τ1 S1 => rw [hd] at ok; exact ok
      | ct τ1 S1 => rw [hd] at ok; exact ok
      | rt a S1 => rw [hd] at ok; exact ok
      | no => rw [hd] at ok; exact ok
      | ex c fs τ1 S1 =>
        rw [hd] at ok
        intro w1 σ1 cv d eS l1 s1 rt1 x1
        have ok1 : okS_ X.K ad G W D w1 (denCs G cal cs ss c fs τ1 w1.S) := by rw [eS]; exact okS_.at ok l1
        exact clz_ok B.toFx cs ss s1 rt1 x1 ok1 (xcs_len h3)
  | .whl n c b, X, W, m, B, x, h => by
    cases x <;> simp only [mS] at h <;> first | (cases h; done) | skip
    rename_i c' b' orelse pos
    cases orelse <;> first | (cases h; done) | skip
    simp only [Bool.and_eq_true] at h
    obtain ⟨⟨hcalm, h1⟩, h2⟩ := h
    refine PS.imp (ps_while (B.own hcalm) (sE c B.toFx c' h1).pt (sSs b B b' h2)) ?_
    intro D σ H hh
    exact s_whl hh
theorem sSs : ∀ (ss : List Sm) {X : Cx} {W : WX} {m : MC} (B : Bx X ad G W k cal m) (xs : List Stmt), mSs G m ss xs = true → PSs X xs (tS X.K ad G W (fun τ S => denSs G cal ss τ S))
  | [], X, W, m, B, xs, h => by
    cases xs with
    | cons x xs => simp [mSs] at h
    | nil =>
      refine PSs.imp pss_nil ?_
      rintro D σ H ⟨w, τ, rfl, s, rt, ok⟩
      exact ok w σ rfl (Le.refl w) s rt
  | st :: ss, X, W, m, B, xs, h => by
    cases xs with
    | nil => simp [mSs] at h
    | cons x xs =>
      have h' : mS G m st x = true ∧ mSs G m ss xs = true := by simpa [mSs] using h
      refine PSs.imp (pss_cons (sS st B x h'.1) (sSs ss B xs h'.2)) ?_
      rintro D σ H ⟨w, τ, rfl, s, rt, ok⟩
      refine ⟨w, τ, rfl, s, rt, ?_⟩
      have ok : okS_ X.K ad G W D w ((denS G cal st τ w.S).seq fun τ1 S1 => denSs G cal ss τ1 S1) := ok
      show okS_ X.K ad G W _ w (denS G cal st τ w.S)
      cases hd : denS G cal st τ w.S with
      | nx τ1 S1 =>
        rw [hd] at ok
        intro w1 σ1 eS l1 s1 rt1
        exact ⟨w1, τ1, rfl, s1, rt1, by rw [eS]; exact okS_.at ok l1⟩
      | bk τ1 S1 => rw [hd] at ok; exact ok
      | ct τ1 S1 => rw [hd] at ok; exact ok
      | rt a S1 => rw [hd] at ok; exact ok
      | ex c fs τ1 S1 => rw [hd] at ok; exact ok
      | no => rw [hd] at ok; exact ok
theorem sHs : ∀ (cs : List (Nat × Option Nat)) (ss : List Sm) {X : Cx} {W : WX} {m : MC} (B : Bx X ad G W k cal m) (hcalm : m.calm = true) (hds : List ExceptHandler), mHs G m cs ss hds = true → HdT X hds (clz X.K ad G cal cs ss)
  | [], [], X, W, m, B, hcalm, hds, h => by
    cases hds with
    | nil => exact .nil
    | cons a b => simp [mHs] at h
  | [], _ :: _, X, W, m, B, hcalm, hds, h => by simp [mHs] at h
  | _ :: _, [], X, W, m, B, hcalm, hds, h => by simp [mHs] at h
  | (c, oi) :: cs, s :: ss, X, W, m, B, hcalm, hds, h => by
    cases hds with
    | nil => simp [mHs] at h
    | cons hd hds =>
      simp only [mHs, Bool.and_eq_true] at h
      obtain ⟨h1, h2⟩ := h
      split at h1
      case h_2 => cases h1
      rename_i x np nm suite pos
      simp only [Bool.and_eq_true] at h1
      obtain ⟨⟨⟨⟨⟨g1, g2⟩, g3⟩, g4⟩, g5⟩, g6⟩ := h1
      split at g3
      case h_2 => cases g3
      rename_i q hq
      have e := eq_of_beq g3
      subst e
      cases suite with
      | nil => simp at g5
      | cons b₀ suite =>
        refine .cons ⟨B.glob g1, (not_odd g2).1, .inl (B.st.xcs c q hq).2.mg_⟩ ?_ (fun a cls d => ?_) (sHs cs ss B hcalm hds h2)
        · cases oi with
          | none => cases nm with
            | none => exact trivial
            | some n => cases g4
          | some i => cases nm with
            | none => cases g4
            | some n =>
              simp only [Bool.and_eq_true, beq_iff_eq] at g4
              refine ⟨by rw [B.N]; exact g4.1, ?_⟩
              show X.env.scope.names.lookup n = _
              rw [B.sc]; exact g4.2
        · cases s <;> simp only [mB] at g6 <;> first | (cases g6; done) | skip
          rename_i l
          refine PSs.imp (sSs l (X := Xs X a) (W := fun _ _ _ _ => False) (m := { m with calm := false }) { N := B.N, sc := B.sc, fb := B.fb, nd := B.nd, calm := fun z => (by cases z), st := B.st, stA := B.stA, room := fun z => (by cases z), un := B.un, ps := fun σ pins H' s' e s'' I cc => passL (X := Xs X a) pins σ H' s' e s'' I cc, own := fun z => (by cases z), kind := B.kind, tk := fun z => (by cases z), stk := B.stk, frm := B.frm, exn := B.exn } (b₀ :: suite) g6) ?_
          intro D σ H hh
          exact hh
end
end
end Lt
/-! defs, the text to a depth of calls -/
namespace Lt
open PySem L2
/-- a def of the text and its small form -/
structure DBo (G : Gt) (d : He.DefD) (N : List Str) (fd : Fd) : Prop where
  sc : FnScope N (N.take fd.np) d.scope
  np : fd.np ≤ N.length
  nl : fd.nl = N.length
  mt : mSs G ⟨N, d.scope, fun _ => true, true⟩ fd.body d.body = true
/-- .. without defaults -/
structure DOk (G : Gt) (d : He.DefD) (N : List Str) (fd : Fd) : Prop extends DBo G d N fd where
  nd : d.dfl = []
  bi : ∀ (kV doc pm : Value) (an : Option Addr) (cdv ct : Value) (us : List Value), us.length = (N.take fd.np).length → bindArgs (PySem.W.fnOf d.name d.qual d.params d.body d.scope .none kV doc pm an cdv ct) ⟨us, []⟩ = pure ((N.take fd.np).zip us)
/-- a call of n values, the defaults behind the first j fill up -/
def BiD (d : He.DefD) (N : List Str) (fd : Fd) (n j : Nat) : Prop := ∀ (T : Addr) (kV doc pm : Value) (an : Option Addr) (cdv ct : Value) (us its : List Value), us.length = n → its.length = d.dfl.length →
      ∃ k, bindArgs (PySem.W.fnOf d.name d.qual d.params d.body d.scope (.ref T) kV doc pm an cdv ct) ⟨us, []⟩ = seqItems? (.ref T) >>= k ∧ k (some its.toArray) = pure ((N.take fd.np).zip (us ++ its.drop j))
/-- .. with defaults -/
structure DOv (G : Gt) (d : He.DefD) (N : List Str) (fd : Fd) : Prop extends DBo G d N fd where
  ne : d.dfl ≠ []
  bi : BiD d N fd fd.np d.dfl.length
/-- calls with parameters left out: the defaults fill up -/
def DftAll (G : Gt) (fn : List He.DefD) (ds : List (Option Fd)) : Prop := ∀ (i : Nat) (p : Dq), G.dft[i]? = some p → ∃ dd N fd j, fn[p.d]? = some dd ∧ ds[p.d]? = some (some fd) ∧ DOv G dd N fd ∧ p.np + (dd.dfl.length - j) = fd.np ∧ j ≤ dd.dfl.length ∧ p.vals.length = dd.dfl.length - j ∧ BiD dd N fd p.np j
theorem dft_none {G : Gt} {fn : List He.DefD} {ds : List (Option Fd)} (h : G.dft = []) : DftAll G fn ds := fun i kc e => by rw [h] at e; simp at e
/-- a default's value, by the text's constants -/
def dvK (K : PySem.W.Frag) (d : He.Dv) (a : A) : Prop := ∀ wd, RelA K wd a (d.v K)
/-- a call by names binds as Kc.fill says -/
structure KwOk (kc : Kc) (d : He.DefD) (N : List Str) (fd : Fd) : Prop where
  len : kc.out.length = (N.take fd.np).length
  pos : 0 < kc.out.length
  bi : ∀ (kV doc pm : Value) (an : Option Addr) (cdv ct : Value) (us ws : List Value), us.length = kc.np → ws.length = kc.ks.length → bindArgs (PySem.W.fnOf d.name d.qual d.params d.body d.scope .none kV doc pm an cdv ct) ⟨us, kc.ks.zip ws⟩ = pure ((N.take fd.np).zip (kc.fill Value.none us ws))
def KwAll (G : Gt) (fn : List He.DefD) (ds : List (Option Fd)) : Prop := ∀ (i : Nat) (kc : Kc), G.kwc[i]? = some kc → ∃ dd N fd, fn[kc.d]? = some dd ∧ ds[kc.d]? = some (some fd) ∧ DOk G dd N fd ∧ KwOk kc dd N fd
theorem kw_none {G : Gt} {fn : List He.DefD} {ds : List (Option Fd)} (h : G.kwc = []) : KwAll G fn ds := fun i kc e => by rw [h] at e; simp at e
theorem KwOk.binds {K : PySem.W.Frag} {kc : Kc} {d : He.DefD} {N : List Str} {fd : Fd} {f : Addr} {fdt : FuncData} {kws : List (Str × V)} (h : KwOk kc d N fd) (hf : FunD K d.name d.qual d.params d.body d.scope [] kws f fdt) : KBinds K fdt (N.take fd.np) kc.ks (kc.fill Value.none) (kc.fill V.non) := by
  obtain ⟨oc, od, dV, kV, doc, pm, an, cdv, ct, osl, e, lk, hcd, hD, hK⟩ := hf.ex
  subst e
  rcases hD with ⟨_, e⟩ | ⟨e, _⟩
  · subst e
    refine ⟨fun s us ws _ hl => ?_, fill_vals⟩
    by_cases c : us.length = kc.np ∧ ws.length = kc.ks.length
    · exact .of_eq (h.bi kV doc pm an cdv ct us ws c.1 c.2)
    · exfalso
      have z : kc.fill Value.none us ws = [] := if_neg c
      rw [z, ← h.len] at hl
      have := h.pos
      simp at hl
      omega
  · exact absurd rfl e
def adOf (K : PySem.W.Frag) (fn : List He.DefD) (cn xn : List Str) : Ad where
  cls := fun c => match cn[c]? with | some x => He.ga K x | none => (match xn[c - 1000]? with | some x => He.ga K x | none => 0)
  xc := fun c => match xn[c]? with | some x => He.ga K x | none => 0
  df := fun d => match fn[d]? with | some dd => He.fAd K dd.at_ | none => 0
  tb := fun x => He.ga K x
/-- what does not speak of the defs' bodies -/
structure F0 (wo : World) (K : PySem.W.Frag) (mg : Str → Option Value) (ad : Ad) (G : Gt) : Prop where
  con : ∀ x a, G.consts.lookup x = some a → ∃ v u, mg x = some u ∧ RelV v u ∧ ∀ w, RelA K w a v
  blt : ∀ x, bltN.contains x = true → mg x = none
  dn : ∀ (d : Nat) (x : Str), G.dnames[d]? = some (some x) → mg x = some (.ref (ad.df d)) ∧ PySem.W.keepIn K (.ref (ad.df d)) = true
  cls : ∀ (c : Nat) (ci : Ci), G.clss[c]? = some ci → mg ci.name = some (.ref (ad.cls c))
  cf : ∀ c, c < G.clss.length → CF K ad.cls G.clss.length (ad.cls c)
  ow : ∀ c d, c < G.clss.length → d < G.clss.length → PySem.W.kitOne K (.ref (ad.cls c)) (.ref (ad.cls d)) = some (c == d)
  mem : ∀ (c : Nat) (ci : Ci), G.clss[c]? = some ci → ClM K ad c ci
  tab : ∀ (x : Str) (kvs : List (List Nat × A)), G.tabs.lookup x = some kvs → mg x = some (.ref (ad.tb x)) ∧ TabOk K wo (ad.tb x) kvs
  xcs : ∀ (c : Nat) (p : Str × List Str), G.xcs[c]? = some p → ad.xc c = ad.cls (1000 + c) ∧ ∀ (P : Program) (base : Heap), XcOk P wo K mg base (ad.xc c) p.1 p.2
  xeq : ∀ c d, c < G.xcs.length → d < G.xcs.length → PySem.W.exmOne K (.ref (ad.xc c)) (.ref (ad.xc d)) = some (c == d) ∧ PySem.W.kitOne K (.ref (ad.xc c)) (.ref (ad.xc d)) = some (c == d)
  xbi : ∀ c x b, c < G.xcs.length → xBi x = some b → PySem.W.kitOne K (.ref (ad.xc c)) (.type x) = some b
  xo : ∀ x, G.xo.contains x = true → mg x = some (.ref (ad.tb x)) ∧ ∀ c, c < G.xcs.length → PySem.W.kitOne K (.ref (ad.xc c)) (.ref (ad.tb x)) = some false
theorem F0.xcs1 {wo : World} {K : PySem.W.Frag} {mg : Str → Option Value} {ad : Ad} {G : Gt} (F : F0 wo K mg ad G) {P : Program} {base : Heap} : ∀ (c : Nat) (p : Str × List Str), G.xcs[c]? = some p → ad.xc c = ad.cls (1000 + c) ∧ XcOk P wo K mg base (ad.xc c) p.1 p.2 := fun c p e => ⟨(F.xcs c p e).1, (F.xcs c p e).2 P base⟩
theorem start_rel {K : PySem.W.Frag} {w : Wd} {N : List Str} {as : List A} {vs : List V} (r : RelAs K w as vs) (np : Nat) (hl : as.length = np) (hN : np ≤ N.length) : RelT K w (as.map some ++ List.replicate (N.length - np) none) (L2.start N vs) := by
  have h := r.length
  refine ⟨by simp [L2.start]; omega, fun i a e => ?_⟩
  by_cases hi : i < as.length
  · rw [List.getElem?_append_left (by simpa using hi), List.getElem?_map] at e
    cases ea : as[i]? with
    | none => rw [ea] at e; cases e
    | some b =>
      rw [ea] at e
      have : b = a := by simpa using e
      subst this
      obtain ⟨v, ev, rv⟩ := r.get ea
      refine ⟨v, ?_, rv⟩
      unfold L2.start
      rw [List.getElem?_append_left (by simp; omega), List.getElem?_map, ev]; rfl
  · rw [List.getElem?_append_right (by simpa using hi), List.getElem?_replicate] at e
    split at e <;> cases e
section
variable {P : Program} {wo : World} {K : PySem.W.Frag} {mg : Str → Option Value} {base : Heap} {ad : Ad} {G : Gt} {k : Nat} {cal : Cal}
theorem fn_ok (F : ∀ base, Fs P wo K mg base ad G k cal) {d : He.DefD} {N : List Str} {fd : Fd} (D : DBo G d N fd) {f : Addr} {fdt : FuncData} {dvs : List V} {kws : List (Str × V)} (hf : FunD K d.name d.qual d.params d.body d.scope dvs kws f fdt) :
    FnOkG P wo K mg base (L2.CX P wo) (4 * (k + 1)) f fdt (N.take fd.np) (spF K ad G (fun as S => runF G cal fd as S)) := by
    refine (defG (k := 4 * k + 3) hf D.sc ?_ ?_)
    · rintro vs H Q E ⟨w, as, rfl, s, r, h⟩
      have h : okR K ad G Q E w (runF G cal fd as w.S) := h
      unfold runF at h
      split at h
      · rename_i hl
        rw [← r.length, hl, List.length_take, Nat.min_eq_left D.np]
      · exact h.elim
    · rintro cdv A outer s H vs Q E hr ⟨w, as, rfl, hs, r, h⟩
      have h : okR K ad G Q E w (runF G cal fd as w.S) := h
      unfold runF at h
      split at h
      case isFalse => exact h.elim
      rename_i hl
      have tk : Takes (cxOf (L2.CX P wo) P wo K mg base N d.qual d.scope f cdv A outer s w.H E) (fun cls d' _ H => E cls d' H) := takes_of rfl rfl rfl rfl
      have B : Bx (cxOf (L2.CX P wo) P wo K mg base N d.qual d.scope f cdv A outer s w.H E) ad G (fun cls d' _ H => E cls d' H) k cal ⟨N, d.scope, fun _ => true, true⟩ :=
        { N := rfl, sc := rfl, fb := fun _ _ => rfl, nd := D.sc.nd, calm := fun _ => rfl, st := F base, stA := F, room := fun _ => hr, un := (by have := hr.toRoom.un; show (A.deeper _).units + 70 < cLine; omega), ps := fun σ => passAt tk σ, own := fun _ => passes_of rfl, kind := D.sc.kind, tk := fun _ => tk, stk := rfl, frm := rfl, exn := rfl }
      refine ⟨_, sSs fd.body B d.body D.mt, w, _, rfl, hs, start_rel (N := N) r fd.np hl D.np, ?_⟩
      rw [D.nl] at h
      show okS_ K ad G _ _ w (denSs G cal fd.body _ w.S)
      cases hd : denSs G cal fd.body (as.map some ++ List.replicate (N.length - fd.np) none) w.S with
      | nx τ S => rw [hd] at h; exact fun w' σ' e l s' rt => h w' .non e l s' non_rel
      | rt a S => rw [hd] at h; exact h
      | ex c fs τ S => rw [hd] at h; exact fun w' σ' cv dd e l s' rt x => h w' cv dd e l s' x
      | bk τ S => rw [hd] at h; exact h.elim
      | ct τ S => rw [hd] at h; exact h.elim
      | no => rw [hd] at h; exact h.elim
theorem fn_lev (F : ∀ base, Fs P wo K mg base ad G k cal) {d : He.DefD} {N : List Str} {fd : Fd} (D : DOk G d N fd) {f : Addr} {fdt : FuncData} {kws : List (Str × V)} (hf : FunD K d.name d.qual d.params d.body d.scope [] kws f fdt) :
    FnG P wo K mg base (L2.CX P wo) (4 * (k + 1)) f (spF K ad G (fun as S => runF G cal fd as S)) := by
  have R := (fn_ok (base := base) F D.toDBo hf).raw (hf.bindsN D.bi) .nil
  exact R.imp fun vs H Q E h => by rw [List.append_nil]; exact h
theorem fn_levV (F : ∀ base, Fs P wo K mg base ad G k cal) {d : He.DefD} {N : List Str} {fd : Fd} (D : DOv G d N fd) {f : Addr} {fdt : FuncData} {dvs : List V} {kws : List (Str × V)} (hl : dvs.length = d.dfl.length) (hf : FunD K d.name d.qual d.params d.body d.scope dvs kws f fdt) :
    FnG P wo K mg base (L2.CX P wo) (4 * (k + 1)) f (spF K ad G (fun as S => runF G cal fd as S)) := by
  have ht : (N.take fd.np).length = fd.np := by rw [List.length_take]; exact Nat.min_eq_left D.np
  obtain ⟨ds, h1, h2⟩ := hf.binds1 (ps := N.take fd.np) fd.np dvs.length (fun z => D.ne (List.length_eq_zero_iff.mp (by rw [← hl, z]; rfl))) (by rw [ht]; omega) (fun T kV doc pm an cdv ct us its e1 e2 => by
    have := D.bi T kV doc pm an cdv ct us its e1 (by rw [e2, hl])
    rw [hl]; exact this)
  have R := (fn_ok (base := base) F D.toDBo hf).raw h2 h1
  exact R.imp fun vs H Q E h => by rw [List.drop_length, List.append_nil]; exact h
theorem fn_dft (F : ∀ base, Fs P wo K mg base ad G k cal) {d : He.DefD} {N : List Str} {fd : Fd} (D : DOv G d N fd) {f : Addr} {fdt : FuncData} {dvs : List V} {kws : List (Str × V)} {n j : Nat} (hl : dvs.length = d.dfl.length) (hf : FunD K d.name d.qual d.params d.body d.scope dvs kws f fdt) (hn : n + (d.dfl.length - j) = fd.np) (hb : BiD d N fd n j) :
    FnG P wo K mg base (L2.CX P wo) (4 * (k + 1)) f (fun vs H Q E => spF K ad G (fun as S => runF G cal fd as S) (vs ++ dvs.drop j) H Q E) := by
  have ht : (N.take fd.np).length = fd.np := by rw [List.length_take]; exact Nat.min_eq_left D.np
  obtain ⟨ds, h1, h2⟩ := hf.binds1 (ps := N.take fd.np) n j (fun z => D.ne (List.length_eq_zero_iff.mp (by rw [← hl, z]; rfl))) (by rw [ht, hl]; exact hn) (fun T kV doc pm an cdv ct us its e1 e2 => hb T kV doc pm an cdv ct us its e1 (by rw [e2, hl]))
  exact (fn_ok (base := base) F D.toDBo hf).raw h2 h1
theorem fn_none {j : Nat} {f : Addr} : FnG P wo K mg base (L2.CX P wo) j f (spF K ad G (fun _ _ => .no)) := by
  intro A outer s H us vs Q E hr e0 r ⟨w, as, _, _, _, h⟩
  exact h.elim
end
section
variable {P : Program} {wo : World} {K : PySem.W.Frag} {mg : Str → Option Value} {base : Heap} {G : Gt} {fa : List He.Fa} {fn : List He.DefD} {cn xn : List Str} {ds : List (Option Fd)}
theorem fn_no {j : Nat} {f : Addr} {fdt : FuncData} {ps : List Str} {ad : Ad} : FnOkG P wo K mg base (L2.CX P wo) j f fdt ps (spF K ad G (fun _ _ => .no)) :=
  ⟨fun vs H Q E ⟨w, as, _, _, _, h⟩ => h.elim, fun A outer s H args us vs Q E hr e0 hb r ⟨w, as, _, _, _, h⟩ => h.elim⟩
/-- a def of either kind -/
def DAny (G : Gt) (d : He.DefD) (N : List Str) (fd : Fd) : Prop := DOk G d N fd ∨ DOv G d N fd
/-- the defaults' values are the text's -/
def DvOk (K : PySem.W.Frag) (G : Gt) (fn : List He.DefD) : Prop := ∀ (i : Nat) (p : Dq) (dd : He.DefD) (j : Nat), G.dft[i]? = some p → fn[p.d]? = some dd → p.vals.length = dd.dfl.length - j → ∀ wd, RelAs K wd p.vals ((dd.dvs K).drop j)
/-- the whole text, to any depth -/
theorem levels (F : F0 wo K mg (adOf K fn cn xn) G) (c : He.SaysD fa fn K) (h : ∀ (d : Nat) (fd : Fd), ds[d]? = some (some fd) → ∃ dd N, fn[d]? = some dd ∧ DAny G dd N fd) (hk : KwAll G fn ds) (hd : DftAll G fn ds) (hv : DvOk K G fn) : ∀ (k : Nat) (base : Heap), Fs P wo K mg base (adOf K fn cn xn) G k (I G ds k)
  | 0, base => ⟨fun d => fn_none (ad := adOf K fn cn xn) (G := G), F.con, F.blt, F.dn, F.cls, F.cf, F.ow, F.mem, F.tab, fun i p e => by
      obtain ⟨dd, N, fd, j, e1, e2, D, hn, hj, hl, hb⟩ := hd i p e
      refine ⟨_, hv i p dd j e e1 hl, FnG.imp (fn_none (ad := adOf K fn cn xn) (G := G)) fun vs H Q E q => ?_⟩
      obtain ⟨_, w, as, _, _, _, h⟩ := q
      exact h.elim, F.xcs1, F.xeq, F.xbi, F.xo, fun i kc e => by
      obtain ⟨dd, N, fd, e1, e2, D, kk⟩ := hk i kc e
      obtain ⟨fdt, hf⟩ := c.def_ kc.d e1
      have hdv : dd.dvs K = [] := by unfold He.DefD.dvs; rw [D.nd]; rfl
      rw [hdv] at hf
      exact ⟨fdt, _, fn_no, kk.binds hf⟩⟩
  | k + 1, base => by
    have ih := levels F c h hk hd hv k
    refine ⟨fun d => ?_, F.con, F.blt, F.dn, F.cls, F.cf, F.ow, F.mem, F.tab, fun i p e => ?dft, F.xcs1, F.xeq, F.xbi, F.xo, fun i kc e => ?kw⟩
    case dft =>
      obtain ⟨dd, N, fd, j, e1, e2, D, hn, hj, hl, hb⟩ := hd i p e
      obtain ⟨fdt, hf⟩ := c.def_ p.d e1
      have e3 : (adOf K fn cn xn).df p.d = He.fAd K dd.at_ := by simp only [adOf, e1]
      rw [e3]
      refine ⟨_, hv i p dd j e e1 hl, (fn_dft ih D (by unfold He.DefD.dvs; rw [List.length_map]) hf hn hb).imp fun vs H Q E q => ?_⟩
      obtain ⟨_, w, as, a, b, e, q⟩ := q
      refine ⟨w, as, a, b, e, ?_⟩
      have : I G ds (k + 1) p.d as w.S = runF G (I G ds k) fd as w.S := by simp only [I, e2]
      rw [this] at q; exact q
    case kw =>
      obtain ⟨dd, N, fd, e1, e2, D, kk⟩ := hk i kc e
      obtain ⟨fdt, hf⟩ := c.def_ kc.d e1
      have hdv : dd.dvs K = [] := by unfold He.DefD.dvs; rw [D.nd]; rfl
      rw [hdv] at hf
      have e3 : (adOf K fn cn xn).df kc.d = He.fAd K dd.at_ := by simp only [adOf, e1]
      rw [e3]
      refine ⟨fdt, _, (fn_ok ih D.toDBo hf).imp fun vs H Q E q => ?_, kk.binds hf⟩
      obtain ⟨w, as, a, b, e, q⟩ := q
      refine ⟨w, as, a, b, e, ?_⟩
      have : I G ds (k + 1) kc.d as w.S = runF G (I G ds k) fd as w.S := by simp only [I, e2]
      rw [this] at q; exact q
    cases hd : ds[d]? with
    | none =>
      refine FnG.imp (fn_none (ad := adOf K fn cn xn) (G := G)) fun vs H Q E q => ?_
      obtain ⟨w, as, a, b, e, q⟩ := q
      refine ⟨w, as, a, b, e, ?_⟩
      have : I G ds (k + 1) d as w.S = .no := by simp only [I, hd]
      rw [this] at q; exact q
    | some o =>
      cases o with
      | none =>
        refine FnG.imp (fn_none (ad := adOf K fn cn xn) (G := G)) fun vs H Q E q => ?_
        obtain ⟨w, as, a, b, e, q⟩ := q
        refine ⟨w, as, a, b, e, ?_⟩
        have : I G ds (k + 1) d as w.S = .no := by simp only [I, hd]
        rw [this] at q; exact q
      | some fd =>
        obtain ⟨dd, N, e1, D⟩ := h d fd hd
        obtain ⟨fdt, hf⟩ := c.def_ d e1
        have e2 : (adOf K fn cn xn).df d = He.fAd K dd.at_ := by simp only [adOf, e1]
        rw [e2]
        have R : FnG P wo K mg base (L2.CX P wo) (4 * (k + 1)) (He.fAd K dd.at_) (spF K (adOf K fn cn xn) G (fun as S => runF G (I G ds k) fd as S)) := by
          rcases D with D | D
          · have hdv : dd.dvs K = [] := by unfold He.DefD.dvs; rw [D.nd]; rfl
            rw [hdv] at hf
            exact fn_lev ih D hf
          · exact fn_levV ih D (by unfold He.DefD.dvs; rw [List.length_map]) hf
        refine FnG.imp R fun vs H Q E q => ?_
        obtain ⟨w, as, a, b, e, q⟩ := q
        refine ⟨w, as, a, b, e, ?_⟩
        have : I G ds (k + 1) d as w.S = runF G (I G ds k) fd as w.S := by simp only [I, hd]
        rw [this] at q; exact q
end
end Lt
/-! the text's facts from its head; the law's def -/
namespace Lt
open PySem L2
/-! ### constants -/
def cFa : Str × A → Option He.Fa
  | (x, .int i) => some (.int x i)
  | (x, .str s) => some (.str x (mkS s))
  | _ => none
def okC : Str × A → Bool
  | (_, .int _) => true
  | (_, .str s) => decide (s.length ≤ 100000) && s.all fun c => decide (c < 0x110000)
  | _ => false
def faOf (G : Gt) (more : List He.Fa) : List He.Fa := bltN.map .free ++ (G.dnames.filterMap fun o => o.map .glo) ++ G.consts.filterMap cFa ++ more
theorem lookup_mem {α β : Type} [BEq α] [LawfulBEq α] : ∀ {l : List (α × β)} {x : α} {a : β}, l.lookup x = some a → (x, a) ∈ l
  | [], _, _, h => by cases h
  | (y, b) :: l, x, a, h => by
    rw [List.lookup_cons] at h
    cases e : x == y with
    | true => rw [e] at h; cases h; rw [eq_of_beq e]; exact List.mem_cons_self
    | false => rw [e] at h; exact List.mem_cons_of_mem _ (lookup_mem h)
section
variable {wo : World} {K : PySem.W.Frag} {h : Heap} {mg : Str → Option Value} {G : Gt} {fn : List He.DefD} {more : List He.Fa}
theorem facts_all {fa : List He.Fa} (c : He.SaysD fa fn K) : ∀ f ∈ fa, f.ok K = true := fun f hf => by
  obtain ⟨i, hi⟩ := List.getElem?_of_mem hf
  exact c.fact i hi
theorem f0_of (X : K.In h) (Gn : h.Ns mainGlobals mg) (c : He.SaysD (faOf G more) fn K) (hn : ∀ (d : Nat) (x : Str), G.dnames[d]? = some (some x) → ∃ dd, fn[d]? = some dd ∧ dd.at_ = (x, none)) (hc : G.consts.all okC = true) (hcl : G.clss = []) (hxc : G.xcs = []) (hxo : G.xo = []) (ht : ∀ (x : Str) (kvs : List (List Nat × A)), G.tabs.lookup x = some kvs → mg x = some (.ref (He.ga K x)) ∧ TabOk K wo (He.ga K x) kvs) : F0 wo K mg (adOf K fn [] []) G := by
  have fx := facts_all c
  refine ⟨fun x a e => ?_, fun x hx => ?_, fun d x e => ?_, fun c ci e => ?_, fun c hcc => ?_, fun c d hcc => ?_, fun c ci e => ?_, ht, fun c p e => by rw [hxc] at e; simp at e, fun c d h => by rw [hxc] at h; simp at h, fun c x b h => by rw [hxc] at h; simp at h, fun x h => by rw [hxo] at h; simp at h⟩
  · have hm := lookup_mem e
    have ho := List.all_eq_true.mp hc _ hm
    have hf : ∀ f, cFa (x, a) = some f → f.ok K = true := fun f ef => fx f (List.mem_append_left _ (List.mem_append_right _ (List.mem_filterMap.mpr ⟨_, hm, ef⟩)))
    cases a <;> first | (cases ho; done) | skip
    · obtain ⟨t, e1⟩ := He.int_ok X Gn (hf _ rfl)
      exact ⟨.int _, _, e1, ⟨t, rfl⟩, fun w => int_rel⟩
    · rename_i s
      obtain ⟨t, e1⟩ := He.str_ok X Gn (hf _ rfl)
      have ho : (decide (s.length ≤ 100000) && s.all fun c => decide (c < 0x110000)) = true := ho
      simp only [Bool.and_eq_true, decide_eq_true_eq, List.all_eq_true] at ho
      exact ⟨.str _, _, e1, ⟨t, rfl⟩, fun w => str_rel ⟨Nat.le_trans ho.1 small_list, ho.2⟩⟩
  · have hx : x ∈ bltN := by simpa using hx
    exact He.free_ok X Gn (fx _ (List.mem_append_left _ (List.mem_append_left _ (List.mem_append_left _ (List.mem_map.mpr ⟨x, hx, rfl⟩)))))
  · obtain ⟨dd, e1, e2⟩ := hn d x e
    have e3 : (adOf K fn [] []).df d = He.ga K x := by simp only [adOf, e1]; rw [e2]; rfl
    rw [e3]
    have hg := fx (.glo x) (List.mem_append_left _ (List.mem_append_left _ (List.mem_append_right _ (List.mem_filterMap.mpr ⟨some x, List.mem_of_getElem? e, rfl⟩))))
    refine ⟨He.glo_ok X Gn hg, ?_⟩
    obtain ⟨fd, hf⟩ := c.def_ d e1
    have := hf.kp
    rw [e2] at this
    exact this
  · rw [hcl] at e; cases e
  · rw [hcl] at hcc; cases hcc
  · rw [hcl] at hcc; cases hcc
  · rw [hcl] at e; cases e
end
/-! ### the law's def -/
def spLaw (K : PySem.W.Frag) : Sp := fun vs H Q _ => ∃ (a : Addr) (ns : List Int), vs = [.ref a] ∧ ns.length ≤ 63 ∧ SqL K H a (ns.map V.int) ∧ ∀ H', Q (.bl true) H'
theorem passL' {P : Program} {wo : World} {outer : List Env} {H : Hp} {s : Shared} {e : Value} {s' : Shared} {T : Prop} (h : L2.CX P wo outer H s E0 e s') : T := by
  obtain ⟨_, _, _, _, _, _, _, _, _, _, _, _, z⟩ := h
  exact z.elim
theorem law_ok {P : Program} {wo : World} {K : PySem.W.Frag} {mg : Str → Option Value} {base : Heap} {ad : Ad} {G : Gt} {k : Nat} {cal : Cal} (F : ∀ base, Fs P wo K mg base ad G k cal) {d : He.DefD} {N : List Str} {fd : Fd} (D : DOk G d N fd) {f : Addr} {fdt : FuncData} {kws : List (Str × V)} {x : Str}
    (hf : FunD K d.name d.qual d.params d.body d.scope [] kws f fdt) (hp : N.take fd.np = [x]) (hl : ∀ ns : List Int, ns.length ≤ 63 → ∃ S, runF G cal fd [.scr (ns.map .int)] [] = .ok (.bl true) S) : FnOkG P wo K mg base CX0 (4 * (k + 1)) f fdt [x] (spLaw K) := by
  have ok := fn_ok (base := base) F D.toDBo hf
  rw [hp] at ok
  refine ⟨fun vs H Q E ⟨a, ns, e, _⟩ => by rw [e]; rfl, fun A outer s H args us vs Q E hr e0 hb r hs => ?_⟩
  obtain ⟨a, ns, rfl, hn, hS, hQ⟩ := hs
  refine codeAny_mono (ok.run A outer s H args us [.ref a] Q E0 hr e0 hb r ?_) fun r s' hq => ?_
  · obtain ⟨S, e⟩ := hl ns hn
    refine ⟨⟨[], [], H, []⟩, [.scr (ns.map .int)], rfl, ⟨rfl, List.nodup_nil, fun n a e => (by cases e), fun n a o e => (by cases e), fun a ha => (by cases ha)⟩, RelAs.cons ?_ RelAs.nil, ?_⟩
    · simp only [RelA]
      refine ⟨a, ns.map V.int, rfl, ?_, ints_rels ns⟩
      rcases hS with h | h
      · refine .inl ⟨h, fun l => ?_⟩
        rcases l with l | ⟨n, o, e, _⟩
        · cases l
        · cases e
      · exact .inr h
    · show okR K ad G Q E0 _ (runF G cal fd [.scr (ns.map .int)] [])
      rw [e]
      intro w' v _ _ _ rv
      cases relA_bl rv
      exact hQ _
  · cases r with
    | ok fl => cases fl <;> exact hq
    | error e => exact passL' hq
end Lt
/-! a law's end, where no repr is under way -/
namespace Lt
open PySem PySem.Spec PyProof.Rows L2
theorem room_caller {K : PySem.W.Frag} {base : Heap} {k : Nat} (h : Room k callerA) : RoomG K base k callerA := ⟨h, GdOk.nil rfl⟩
/-- the law's def, called with the script -/
theorem law_callG {P : Program} {w : World} {K : PySem.W.Frag} {mg mb : Str → Option Value} {CX : CXT} {k : Nat} {fa a : Addr} {fd : FuncData} {x : Str} {sp : Sp} {s₁ : Shared} {vs : List Value} {ns : List Int}
    (KX : K.In s₁.heap) (hns : s₁.heap.Ns mainGlobals mg) (hb : s₁.heap.Ns builtinsNs mb) (hbb : ∀ x : Str, x ≠ "__name__" → mb x = bootBuiltins x) (hlim : s₁.heap.NoLimit) (hg : s₁.gens = #[])
    (ha : s₁.heap.get? a = some { cls := .type "list", data := .seq vs.toArray }) (hi : IntsAre vs ns) (hl : ns.length ≤ sizeLine) (hr : Room k callerA)
    (F : ∀ base : Heap, K.In base → base.Ns mainGlobals mg → FnOkG P w K mg base CX k fa fd [x] sp) (hbind : ∀ (s : Shared) (u : Value), BindsTo s fd ⟨[u], []⟩ [(x, u)])
    (hsp : ∀ H : Hp, Only H → SqL K H a (ns.map V.int) → sp [.ref a] H (fun v _ => v = .bl true) fun _ _ _ => False) (hCX : ∀ H e s', CX [] H s₁ (fun _ _ _ => False) e s' → False) :
    codeAny (model P w) callerA (.call (.ref fa) ⟨[.ref a], []⟩) (fun r s' => r = .ok (.ret (.bool true)) ∧ OldK s₁.heap s'.heap ∧ s'.os = s₁.os ∧ AllBare s'.gens) s₁ := by
  have rv := vals_ints hi
  have lenV := hi.length
  have core : ∀ H : Hp, Only H → SqL K H a (ns.map V.int) → HOk P w H s₁.heap → (∀ b, b ≠ a → H b = none) → (H a ≠ none → K.lookup a = none) →
      codeAny (model P w) callerA (.call (.ref fa) ⟨[.ref a], []⟩) (fun r s' => r = .ok (.ret (.bool true)) ∧ OldK s₁.heap s'.heap ∧ s'.os = s₁.os ∧ AllBare s'.gens) s₁ := by
    intro H hO hS hok hA hK
    have nsK : ∀ {b : Addr} {m : Str → Option Value}, s₁.heap.Ns b m → (hidT s₁.heap H).Ns b m := fun {b m} ⟨o, es, ep, e, d, r⟩ => by
      refine ⟨o, es, ep, hidT_get e (hA b fun z => ?_), d, r⟩
      rw [z, ha] at e; cases e; cases d
    have hKb : K.In (hidT s₁.heap H) := fun b o e => by
      refine hidT_get (KX b o e) ?_
      by_cases z : b = a
      · subst z
        cases q : H b with
        | none => rfl
        | some u => rw [hK (by rw [q]; simp)] at e; cases e
      · exact hA b z
    have hM : Mod K mg (hidT s₁.heap H) := ⟨hKb, nsK hns, ⟨mb, nsK hb, hbb⟩, let ⟨mc, h1, h2⟩ := hlim; ⟨mc, nsK h1, h2⟩⟩
    have e0 : Env0 P w K mg (hidT s₁.heap H) callerA [] s₁ H := ⟨rfl, hM, fun b o e => of_hidT e, Nat.le_of_eq (hidT_size _ _), trivial, fun b hb => absurd (show b ∈ ([] : List Addr) from hb) (by simp), hok, .of_eq hg⟩
    refine codeAny_mono ((F _ hKb (nsK hns)).run callerA [] s₁ H ⟨[.ref a], []⟩ [.ref a] [.ref a] _ _ (room_caller hr) e0 (hbind s₁ (.ref a)) (.cons rfl .nil) (hsp H hO hS)) fun r s' h => ?_
    rcases r with e | fl
    · exact (hCX H e s' h).elim
    · cases fl with
      | ret u =>
        obtain ⟨v, H', os, bare, un, hok', r', q⟩ := h
        obtain rfl : v = .bl true := q
        obtain rfl : u = Value.bool true := r'
        refine ⟨rfl, OldK.of_keep fun b o e => ?_, os, bare⟩
        rcases hO b with z | ⟨ob, xs, z⟩
        · exact un.keep b o e z (by intro y; exact absurd (show b ∈ ([] : List Addr) from y) (by simp)) (by simp)
        · obtain ⟨e1, _⟩ := hok b _ z
          obtain ⟨e2, _⟩ := hok' b _ (un.frzs b ob _ z)
          rw [e] at e1; cases e1
          exact e2
      | _ => exact False.elim h
  cases hk : K.lookup a with
  | some o =>
    have e := KX a o hk
    rw [ha] at e
    cases e
    exact core (fun _ => none) (fun _ => .inl rfl) (.inr ⟨_, vs.toArray, _, hk, rfl, rfl, rfl, by rw [List.size_toArray, lenV]; exact hl, by simpa using rv⟩) (fun b u z => nomatch (show (none : Option HO) = some u from z)) (fun _ _ => rfl) fun z => absurd rfl z
  | none =>
    have ea : (fun b => if b = a then some (HO.frz { cls := .type "list", data := .seq vs.toArray } (.lst (ns.map V.int))) else none : Hp) a = some (.frz { cls := .type "list", data := .seq vs.toArray } (.lst (ns.map V.int))) := if_pos rfl
    refine core _ (fun b => ?_) (.inl (.inr ⟨_, ea⟩)) (fun b u z => ?_) (fun b z => if_neg z) fun _ => hk
    · by_cases hb : b = a
      · exact .inr ⟨_, _, if_pos hb⟩
      · exact .inl (if_neg hb)
    · by_cases hb : b = a
      · subst hb
        have z' := ea.symm.trans z
        cases z'
        exact ⟨ha, by rw [List.length_map]; exact hl, vs, _, rv, ha⟩
      · have z' := (if_neg hb).symm.trans z
        cases z'
theorem walk_ofG {l : PySem.W.OpenLaw} {n k : Nat} {q : Program} {loose : List Str} {XP : (Str → Option Value) → Heap → Prop} {YP : World → Heap → Prop} {d : DefRec} {CX : CXT} {x : Str}
    (hn : l.most = some n) (hn2 : n ≤ sizeLine) (hdf : d.params.defaults = []) (hr : Room k callerA)
    (F : ∀ (w : World) (mg : Str → Option Value) (fa : Addr) (h : Heap), YP w h → h.Ns mainGlobals mg → mg d.name = some (.ref fa) →
      ∃ (K : PySem.W.Frag) (fd : FuncData) (sp : Sp), K.In h ∧ (∀ (s : Shared) (u : Value), BindsTo s fd ⟨[u], []⟩ [(x, u)]) ∧
        (∀ (H : Hp) (a : Addr) (ns : List Int), ns.length ≤ n → Only H → SqL K H a (ns.map V.int) → sp [.ref a] H (fun v _ => v = .bl true) fun _ _ _ => False) ∧
        ∀ base : Heap, K.In base → base.Ns mainGlobals mg → FnOkG l.prog w K mg base CX k fa fd [x] sp)
    (hCX : ∀ (H : Hp) (s : Shared) (e : Value) (s' : Shared), CX [] H s (fun _ _ _ => False) e s' → False) :
    PySem.W.WalkO q loose XP YP l.row.toRowW d [] (fun f vs => PySem.call f vs) := by
  refine Att.attach_call hn hdf fun w s₀ s₁ mg mb fa o pm cd doc a vs ns G Y ho hd hcd hmg hobj hints hlen hg => ?_
  obtain ⟨K, fd, sp, KX, hb, hsp, hF⟩ := F w mg fa _ Y G.T.g hmg
  exact law_callG KX G.T.g G.T.b G.T.builtins G.T.nolimit hg hobj hints (Nat.le_trans hlen hn2) hr hF hb (fun H hO hS => hsp H a ns hlen hO hS) fun H e s' => hCX H s₁ e s'
end Lt
/-! constants that are tuples, from the head -/
namespace Lt
open PySem L2
def ktStr : A → Value → Bool
  | .str s, .str y _ => decide (y = mkS s) && (decide (s.length ≤ 100000) && s.all fun c => decide (c < 0x110000))
  | .int i, .int j _ => decide (j = i)
  | .non, .none => true
  | _, _ => false
def ktAll : List A → List Value → Bool
  | [], [] => true
  | a :: as, v :: vs => ktStr a v && ktAll as vs
  | _, _ => false
/-- a tuple of the text -/
def ktObj (K : PySem.W.Frag) (a : Addr) (xs : List A) : Bool := match K.lookup a with
  | some o => decide (o.cls = .type "tuple") && (match o.data with
    | .seq its _ => decide (its.size ≤ 1000) && ktAll xs its.toList
    | _ => false)
  | none => false
def ktB (K : PySem.W.Frag) : Str × A → Bool
  | (x, .ktup xs) => (match PySem.W.nsIn K mainGlobals x with
    | some (some (.ref a)) => ktObj K a xs
    | _ => false)
  | _ => true
theorem kt_all {K : PySem.W.Frag} : ∀ {xs : List A} {us : List Value}, ktAll xs us = true → ∃ vs, Vals vs us ∧ ∀ w, RelAs K w xs vs
  | [], [], _ => ⟨[], .nil, fun w => RelAs.nil⟩
  | [], _ :: _, h => by cases h
  | _ :: _, [], h => by simp [ktAll] at h
  | a :: as, u :: us, h => by
    simp only [ktAll, Bool.and_eq_true] at h
    obtain ⟨vs, h1, h2⟩ := kt_all (K := K) h.2
    have one : ∃ v, RelV v u ∧ ∀ w, RelA K w a v := by
      have h := h.1
      cases a <;> cases u <;> simp only [ktStr] at h <;> first | (cases h; done) | skip
      · exact ⟨.non, rfl, fun w => non_rel⟩
      · rename_i i j t h0
        have e := of_decide_eq_true h
        subst e
        exact ⟨.int j, ⟨t, rfl⟩, fun w => int_rel⟩
      · rename_i s y t h0
        simp only [Bool.and_eq_true, decide_eq_true_eq, List.all_eq_true] at h
        obtain ⟨e, l, c⟩ := h
        subst e
        exact ⟨.str (mkS s), ⟨t, rfl⟩, fun w => str_rel ⟨Nat.le_trans l small_list, c⟩⟩
    obtain ⟨v, r1, r2⟩ := one
    exact ⟨v :: vs, .cons r1 h1, fun w => RelAs.cons (r2 w) (h2 w)⟩
theorem kt_obj {K : PySem.W.Frag} {a : Addr} {xs : List A} (c : ktObj K a xs = true) (w : Wd) : RelA K w (.ktup xs) (.ref a) := by
  unfold ktObj at c
  split at c
  · rename_i o ho
    simp only [Bool.and_eq_true, decide_eq_true_eq] at c
    obtain ⟨hcl, c⟩ := c
    split at c
    · rename_i its n hd
      simp only [Bool.and_eq_true, decide_eq_true_eq] at c
      obtain ⟨vs, h1, h2⟩ := kt_all (K := K) c.2
      have hz : (1000 : Nat) ≤ sizeLine := by decide
      simp only [RelA]
      exact ⟨a, vs, rfl, ⟨o, its, n, ho, hcl, hd, Nat.le_trans c.1 hz, h1⟩, h2 w⟩
    · cases c
  · cases c
theorem kt_ok {K : PySem.W.Frag} {h : Heap} {mg : Str → Option Value} (X : K.In h) (Gn : h.Ns mainGlobals mg) {x : Str} {xs : List A} (c : ktB K (x, .ktup xs) = true) : ∃ v u, mg x = some u ∧ RelV v u ∧ ∀ w, RelA K w (.ktup xs) v := by
  unfold ktB at c
  simp only at c
  split at c
  · rename_i a e
    exact ⟨.ref a, .ref a, PySem.W.mg_of X Gn e, rfl, fun w => kt_obj c w⟩
  · cases c
end Lt
/-! dicts of the module, told by the head -/
namespace Lt
open PySem L2
def strB (l : List Nat) : Bool := decide (l.length ≤ 100000) && l.all fun c => decide (c < 0x110000)
def valB (K : PySem.W.Frag) : A → Value → Bool
  | .str y, .str z _ => decide (z = mkS y) && strB y
  | .ktup xs, .ref p => ktObj K p xs
  | _, _ => false
def entB (K : PySem.W.Frag) : List DictEntry → List (List Nat × A) → Bool
  | [], [] => true
  | e :: es, (k, a) :: r => (match e.key with | .str s _ => decide (s = mkS k) | _ => false) && valB K a e.val && entB K es r
  | _, _ => false
def tabB (kvs : List (List Nat × A)) (K : PySem.W.Frag) (d : Addr) : Bool := match K.lookup d with
  | some ⟨_, _, .dict es _, _⟩ => entB K es.toList kvs
  | _ => false
theorem valB_ok {K : PySem.W.Frag} {a : A} {u : Value} (h : valB K a u = true) : ∃ v, RelV v u ∧ ∀ (wd : Wd), RelA K wd a v := by
  unfold valB at h
  split at h
  · rename_i y z t
    simp only [strB, Bool.and_eq_true, decide_eq_true_eq, List.all_eq_true] at h
    obtain ⟨rfl, h1, h2⟩ := h
    exact ⟨.str (mkS y), ⟨t, rfl⟩, fun wd => str_rel ⟨Nat.le_trans h1 small_list, h2⟩⟩
  · rename_i xs p
    exact ⟨.ref p, rfl, fun wd => kt_obj h wd⟩
  · cases h
theorem ent_none {K : PySem.W.Frag} : ∀ {es : List DictEntry} {kvs : List (List Nat × A)}, entB K es kvs = true → (es.any (·.refKey)) = false ∧
    ∀ z : List Nat, (kvs.lookup z = none → es.find? (fun e => e.key.isStr (mkS z)) = none) ∧ ∀ a, kvs.lookup z = some a → ∃ e, es.find? (fun e => e.key.isStr (mkS z)) = some e ∧ valB K a e.val = true
  | [], [], _ => ⟨rfl, fun z => ⟨fun _ => rfl, fun a h => by cases h⟩⟩
  | [], _ :: _, h => by simp [entB] at h
  | _ :: _, [], h => by simp [entB] at h
  | e :: es, (k, a) :: r, h => by
    simp only [entB, Bool.and_eq_true] at h
    obtain ⟨⟨h1, h2⟩, h3⟩ := h
    obtain ⟨i1, i2⟩ := ent_none h3
    cases hk : e.key <;> rw [hk] at h1 <;> first | (cases h1; done) | skip
    rename_i s t
    have hs : s = mkS k := of_decide_eq_true h1
    have hi : ∀ z : List Nat, e.key.isStr (mkS z) = decide (z = k) := fun z => by
      rw [hk, hs]
      show (mkS k == mkS z) = decide (z = k)
      by_cases c : z = k
      · subst c; simp
      · rw [decide_eq_false c]
        exact beq_eq_false_iff_ne.mpr fun e => c (mkS_inj e).symm
    refine ⟨?_, fun z => ?_⟩
    · rw [List.any_cons, i1]
      have : e.refKey = false := by unfold DictEntry.refKey; rw [hk]
      rw [this]; rfl
    · rw [List.lookup_cons, List.find?_cons, hi z]
      by_cases c : z = k
      · subst c
        simp only [beq_self_eq_true, decide_true]
        exact ⟨fun h => (by cases h), fun b h => by cases h; exact ⟨e, rfl, h2⟩⟩
      · have c2 : (z == k) = false := beq_eq_false_iff_ne.mpr c
        simp only [c2, decide_eq_false c]
        exact i2 z
theorem tab_ok {K : PySem.W.Frag} {w : World} {d : Addr} {kvs : List (List Nat × A)} (h : tabB kvs K d = true) (hk : ∃ es n, KDict K w d es n) : TabOk K w d kvs := by
  have key : ∀ z, PySem.W.nsIn K d (mkS z) = (match K.lookup d with
    | some ⟨_, _, .dict es _, _⟩ => (match es.toList.find? (·.key.isStr (mkS z)) with
      | some e => some (some e.val)
      | none => if es.toList.any (·.refKey) then none else some none)
    | _ => none) := fun z => rfl
  unfold tabB at h
  split at h
  · rename_i es n x e
    obtain ⟨h1, h2⟩ := ent_none h
    refine ⟨hk, fun z hz => ?_, fun z a hz => ?_⟩
    · rw [key, e]
      simp only [(h2 z).1 hz, h1]; rfl
    · obtain ⟨en, g1, g2⟩ := (h2 z).2 a hz
      obtain ⟨v, r, q⟩ := valB_ok g2
      refine ⟨en.val, v, ?_, r, fun wd => q wd⟩
      rw [key, e]
      simp only [g1]
  · cases h
/-- a world, one of its ways told -/
def setFT (w : World) (b : Bool) : World := ⟨w.draws, { w.params with followText := fun s => match decide (s = "special-get-raises") with | true => b | false => w.params.followText s }⟩
theorem setFT_eq (w : World) : w = setFT w (w.params.followText "special-get-raises") := by
  obtain ⟨d, p⟩ := w
  unfold setFT
  have e : p.followText = fun s => match decide (s = "special-get-raises") with | true => p.followText "special-get-raises" | false => p.followText s := by
    funext s
    by_cases h : s = "special-get-raises"
    · subst h; simp
    · rw [decide_eq_false h]
  obtain ⟨⟩ := p
  simp only at e ⊢
  rw [← e]
/-- the head's tables -/
def tsOf (tabs : List (Str × List (List Nat × A))) : List He.Tab := tabs.map fun t => ((fun K => He.ga K t.1), t.2.map fun p => mkS p.1)
def exOf (tabs : List (Str × List (List Nat × A))) (K : PySem.W.Frag) : Bool := tabs.all fun t => tabB t.2 K (He.ga K t.1)
theorem tabs_ok {K : PySem.W.Frag} {wo : World} {h hp : Heap} {mg : Str → Option Value} {G : Gt} {fa : List He.Fa} {fn : List He.DefD} (X : K.In hp) (Gn : hp.Ns mainGlobals mg) (c : He.SaysX fa fn (tsOf G.tabs) [] (exOf G.tabs) wo h K) (hg : ∀ t ∈ G.tabs, He.Fa.glo t.1 ∈ fa) :
    ∀ (x : Str) (kvs : List (List Nat × A)), G.tabs.lookup x = some kvs → mg x = some (.ref (He.ga K x)) ∧ TabOk K wo (He.ga K x) kvs := by
  intro x kvs e
  have hm := lookup_mem e
  refine ⟨He.glo_ok X Gn (c.t.d.facts (hg _ hm)), tab_ok (List.all_eq_true.mp c.more _ hm) ?_⟩
  obtain ⟨i, hi⟩ := List.getElem?_of_mem hm
  exact c.t.tab i (t := ((fun K => He.ga K x), kvs.map fun p => mkS p.1)) (by simp [tsOf, hi])
end Lt
/-! own classes, from the head -/
namespace Lt
open PySem L2
/-- a row of a class's body -/
def clsAt (s : Stmt) (j : Nat) : Stmt := match s with
  | .ClassDef _ _ _ body _ _ _ _ _ _ _ => body.getD j s
  | s => s
def tysN : List String := ["int", "str", "bool", "list", "tuple", "dict"]
/-- what isinstance asks of a class -/
def cfB (K : PySem.W.Frag) (C : Addr) : Bool :=
  He.eqO (PySem.W.findIn K (.ref C) "__class__") (some (some (.builtin "object.__class__"))) && (decide (PySem.W.mroIn K C (.type "object") = some true) &&
    (He.eqO (PySem.W.findIn K (.ref C) "__ne__") (some (some (.builtin "object.__ne__"))) && (He.eqO (PySem.W.findIn K (.ref C) "__bool__") (some none) && (tysN.all (fun T => decide (PySem.W.kitOne K (.ref C) (.type T) = some false)) && ("NoneType" :: tysN).all fun T => decide (PySem.W.kitOne K (.type T) (.ref C) = some false)))))
def cdB (K : PySem.W.Frag) : Bool := He.eqO (PySem.W.specialIn K (.builtin "object.__class__") "__get__") (some (some (.builtin "getset_descriptor.__get__"))) && decide (PySem.W.takesIn K (.builtin "object.__class__") = some true)
def clsB (cs : List Str) (K : PySem.W.Frag) : Bool :=
  cs.isEmpty || (cdB K && (cs.all (fun x => cfB K (He.ga K x)) && (List.range cs.length).all fun c => (List.range cs.length).all fun d =>
    decide (PySem.W.kitOne K (.ref (He.ga K (cs.getD c ""))) (.ref (He.ga K (cs.getD d ""))) = some (c == d))))
/-- the head's facts of classes -/
def ciFa (ci : Ci) : List He.Fa := [.glo ci.name, .cls ci.name] ++ (match ci.init with | some _ => [.mkr ci.name] | none => []) ++ ci.meths.map (fun p => .meth ci.name p.1) ++ ci.fields.map fun f => .noat ci.name f
/-- where the methods' defs stand -/
def ciFn (fn : List He.DefD) (ci : Ci) : Bool := (match ci.init with
  | some d => (match fn[d]? with | some dd => decide (dd.at_ = (ci.name, some ("__init__" : Str))) | none => false)
  | none => true) && ci.meths.all fun p => (match fn[p.2]? with | some dd => decide (dd.at_ = (ci.name, some p.1)) | none => false)
/-- what is known of the own exceptions -/
structure XcAll (wo : World) (K : PySem.W.Frag) (mg : Str → Option Value) (ad : Ad) (G : Gt) : Prop where
  xcs : ∀ (c : Nat) (p : Str × List Str), G.xcs[c]? = some p → ad.xc c = ad.cls (1000 + c) ∧ ∀ (P : Program) (base : Heap), XcOk P wo K mg base (ad.xc c) p.1 p.2
  xeq : ∀ c d, c < G.xcs.length → d < G.xcs.length → PySem.W.exmOne K (.ref (ad.xc c)) (.ref (ad.xc d)) = some (c == d) ∧ PySem.W.kitOne K (.ref (ad.xc c)) (.ref (ad.xc d)) = some (c == d)
  xbi : ∀ c x b, c < G.xcs.length → xBi x = some b → PySem.W.kitOne K (.ref (ad.xc c)) (.type x) = some b
  xo : ∀ x, G.xo.contains x = true → mg x = some (.ref (ad.tb x)) ∧ ∀ c, c < G.xcs.length → PySem.W.kitOne K (.ref (ad.xc c)) (.ref (ad.tb x)) = some false
section
variable {wo : World} {K : PySem.W.Frag} {h : Heap} {mg : Str → Option Value} {G : Gt} {fn : List He.DefD} {more : List He.Fa}
def okC2 : Str × A → Bool
  | (_, .ktup _) => true
  | p => okC p
theorem f0_cls (X : K.In h) (Gn : h.Ns mainGlobals mg) (c : He.SaysD (faOf G (G.clss.flatMap ciFa ++ more)) fn K) (hn : ∀ (d : Nat) (x : Str), G.dnames[d]? = some (some x) → ∃ dd, fn[d]? = some dd ∧ dd.at_ = (x, none)) (hc : G.consts.all okC2 = true) (hk : G.consts.all (ktB K) = true)
    (hf : G.clss.all (ciFn fn) = true) (hB : clsB (G.clss.map (·.name)) K = true) (ht : ∀ (x : Str) (kvs : List (List Nat × A)), G.tabs.lookup x = some kvs → mg x = some (.ref (He.ga K x)) ∧ TabOk K wo (He.ga K x) kvs)
    (hxs : XcAll wo K mg (adOf K fn (G.clss.map (·.name)) (G.xcs.map (·.1))) G) : F0 wo K mg (adOf K fn (G.clss.map (·.name)) (G.xcs.map (·.1))) G := by
  have fx := facts_all c
  have cfx : ∀ (i : Nat) (ci : Ci), G.clss[i]? = some ci → ∀ f ∈ ciFa ci, f.ok K = true := fun i ci e f hfm => fx f (List.mem_append_right _ (List.mem_append_left _ (List.mem_flatMap.mpr ⟨ci, List.mem_of_getElem? e, hfm⟩)))
  have ecl : ∀ (i : Nat) (ci : Ci), G.clss[i]? = some ci → (adOf K fn (G.clss.map (·.name)) (G.xcs.map (·.1))).cls i = He.ga K ci.name := fun i ci e => by
    simp only [adOf, List.getElem?_map, e, Option.map_some]
  have cl : ∀ (i : Nat) (ci : Ci), G.clss[i]? = some ci → Cls K (He.ga K ci.name) := fun i ci e => He.cls_ok (cfx i ci e _ (by simp [ciFa]))
  have hne : ∀ (i : Nat) (ci : Ci), G.clss[i]? = some ci → cdB K = true ∧ cfB K (He.ga K ci.name) = true ∧ ∀ (j : Nat) (cj : Ci), G.clss[j]? = some cj → PySem.W.kitOne K (.ref (He.ga K ci.name)) (.ref (He.ga K cj.name)) = some (i == j) := fun i ci e => by
    unfold clsB at hB
    have hl := (List.getElem?_eq_some_iff.mp e).1
    have h0 : (G.clss.map (·.name)).isEmpty = false := by cases hh : G.clss with | nil => rw [hh] at hl; simp at hl | cons a b => rfl
    rw [h0, Bool.false_or] at hB
    simp only [Bool.and_eq_true, List.all_eq_true] at hB
    obtain ⟨b1, b2, b3⟩ := hB
    refine ⟨b1, b2 _ (List.mem_map.mpr ⟨ci, List.mem_of_getElem? e, rfl⟩), fun j cj e' => ?_⟩
    have hl' := (List.getElem?_eq_some_iff.mp e').1
    have q := b3 i (by simp [hl]) j (by simp [hl'])
    have q := of_decide_eq_true q
    rw [List.getD_eq_getElem?_getD, List.getD_eq_getElem?_getD, List.getElem?_map, List.getElem?_map, e, e'] at q
    exact q
  refine ⟨fun x a e => ?_, fun x hx => ?_, fun d x e => ?_, fun i ci e => ?_, fun i hcc => ?_, fun i j hi hj => ?_, fun i ci e => ?_, ht, hxs.xcs, hxs.xeq, hxs.xbi, hxs.xo⟩
  · have hm := lookup_mem e
    have ho := List.all_eq_true.mp hc _ hm
    have hf : ∀ f, cFa (x, a) = some f → f.ok K = true := fun f ef => fx f (List.mem_append_left _ (List.mem_append_right _ (List.mem_filterMap.mpr ⟨_, hm, ef⟩)))
    cases a <;> first | (cases ho; done) | skip
    rotate_left 2
    · exact kt_ok X Gn (List.all_eq_true.mp hk _ hm)
    · obtain ⟨t, e1⟩ := He.int_ok X Gn (hf _ rfl)
      exact ⟨.int _, _, e1, ⟨t, rfl⟩, fun w => int_rel⟩
    · rename_i s
      obtain ⟨t, e1⟩ := He.str_ok X Gn (hf _ rfl)
      have ho : (decide (s.length ≤ 100000) && s.all fun c => decide (c < 0x110000)) = true := ho
      simp only [Bool.and_eq_true, decide_eq_true_eq, List.all_eq_true] at ho
      exact ⟨.str _, _, e1, ⟨t, rfl⟩, fun w => str_rel ⟨Nat.le_trans ho.1 small_list, ho.2⟩⟩
  · have hx : x ∈ bltN := by simpa using hx
    exact He.free_ok X Gn (fx _ (List.mem_append_left _ (List.mem_append_left _ (List.mem_append_left _ (List.mem_map.mpr ⟨x, hx, rfl⟩)))))
  · obtain ⟨dd, e1, e2⟩ := hn d x e
    have e3 : (adOf K fn (G.clss.map (·.name)) (G.xcs.map (·.1))).df d = He.ga K x := by simp only [adOf, e1]; rw [e2]; rfl
    rw [e3]
    have hg := fx (.glo x) (List.mem_append_left _ (List.mem_append_left _ (List.mem_append_right _ (List.mem_filterMap.mpr ⟨some x, List.mem_of_getElem? e, rfl⟩))))
    refine ⟨He.glo_ok X Gn hg, ?_⟩
    obtain ⟨fd, hf⟩ := c.def_ d e1
    have := hf.kp
    rw [e2] at this
    exact this
  · rw [ecl i ci e]
    exact He.glo_ok X Gn (cfx i ci e _ (by simp [ciFa]))
  · have e := List.getElem?_eq_getElem hcc
    rw [ecl i _ e]
    obtain ⟨b1, b2, _⟩ := hne i _ e
    unfold cdB at b1
    unfold cfB at b2
    simp only [Bool.and_eq_true, List.all_eq_true, decide_eq_true_eq] at b1 b2
    exact ⟨cl i _ e, He.eqO_ok b2.1, He.eqO_ok b1.1, b1.2, b2.2.1, He.eqO_ok b2.2.2.1, He.eqO_ok b2.2.2.2.1, b2.2.2.2.2.1, b2.2.2.2.2.2⟩
  · have e := List.getElem?_eq_getElem hi
    have e' := List.getElem?_eq_getElem hj
    rw [ecl i _ e, ecl j _ e']
    exact (hne i _ e).2.2 j _ e'
  · have hfi := List.all_eq_true.mp hf _ (List.mem_of_getElem? e)
    unfold ciFn at hfi
    simp only [Bool.and_eq_true, List.all_eq_true] at hfi
    obtain ⟨f1, f2⟩ := hfi
    refine ⟨fun d hd => ?_, fun m d hd => ?_, fun f hfm => ?_⟩
    · rw [ecl i ci e]
      rw [hd] at f1
      have mk := He.mkr_ok (cfx i ci e (.mkr ci.name) (by simp [ciFa, hd]))
      cases h1 : fn[d]? with
      | none => simp only [h1] at f1; cases f1
      | some dd =>
        simp only [h1] at f1
        have e2 : dd.at_ = (ci.name, some ("__init__" : Str)) := of_decide_eq_true f1
        have e3 : (adOf K fn (G.clss.map (·.name)) (G.xcs.map (·.1))).df d = He.ma K (He.ga K ci.name) "__init__" := by simp only [adOf, h1]; rw [e2]; rfl
        rw [e3]; exact mk
    · rw [ecl i ci e]
      have hm := lookup_mem hd
      have mt := He.meth_ok (cfx i ci e (.meth ci.name m) (by
        unfold ciFa
        exact List.mem_append_left _ (List.mem_append_right _ (List.mem_map.mpr ⟨_, hm, rfl⟩))))
      have f2 := f2 _ hm
      cases h1 : fn[d]? with
      | none => simp only [h1] at f2; cases f2
      | some dd =>
        simp only [h1] at f2
        have e2 : dd.at_ = (ci.name, some m) := of_decide_eq_true f2
        have e3 : (adOf K fn (G.clss.map (·.name)) (G.xcs.map (·.1))).df d = He.ma K (He.ga K ci.name) m := by simp only [adOf, h1]; rw [e2]; rfl
        rw [e3]; exact mt
    · rw [ecl i ci e]
      exact He.noat_ok (cfx i ci e (.noat ci.name f) (by
        unfold ciFa
        exact List.mem_append_right _ (List.mem_map.mpr ⟨f, by simpa using hfm, rfl⟩)))
end
end Lt
/-! the head of a law with classes, tables, tuples -/
namespace Lt
open PySem PySem.Spec PyProof.Rows L2
theorem tabs_ok2 {K : PySem.W.Frag} {wo : World} {h hp : Heap} {mg : Str → Option Value} {G : Gt} {fa : List He.Fa} {fn : List He.DefD} {ex : PySem.W.Frag → Bool} (X : K.In hp) (Gn : hp.Ns mainGlobals mg) (c : He.SaysX fa fn (tsOf G.tabs) [] ex wo h K) (hx : exOf G.tabs K = true) (hg : ∀ t ∈ G.tabs, He.Fa.glo t.1 ∈ fa) :
    ∀ (x : Str) (kvs : List (List Nat × A)), G.tabs.lookup x = some kvs → mg x = some (.ref (He.ga K x)) ∧ TabOk K wo (He.ga K x) kvs := by
  intro x kvs e
  have hm := lookup_mem e
  refine ⟨He.glo_ok X Gn (c.t.d.facts (hg _ hm)), tab_ok (List.all_eq_true.mp hx _ hm) ?_⟩
  obtain ⟨i, hi⟩ := List.getElem?_of_mem hm
  exact c.t.tab i (t := ((fun K => He.ga K x), kvs.map fun p => mkS p.1)) (by simp [tsOf, hi])
/-- the defaults' values, looked up behind the top -/
def dvB (K : PySem.W.Frag) : He.Dv → A → Bool
  | .non, .non => true
  | .bl b, .bl c => b == c
  | .int i, .int j => i == j
  | .adr p, .ktup xs => ktObj K (p K) xs
  | _, _ => false
def dvsB (K : PySem.W.Frag) : List He.Dv → List A → Bool
  | [], [] => true
  | d :: ds, a :: as => dvB K d a && dvsB K ds as
  | _, _ => false
def dftB (G : Gt) (fn : List He.DefD) (K : PySem.W.Frag) : Bool := G.dft.all fun p => match fn[p.d]? with
  | some dd => dvsB K (dd.dfl.drop (dd.dfl.length - p.vals.length)) p.vals
  | none => true
theorem dvB_ok {K : PySem.W.Frag} {d : He.Dv} {a : A} (h : dvB K d a = true) (w : Wd) : RelA K w a (d.v K) := by
  cases d <;> cases a <;> simp only [dvB] at h <;> first | (cases h; done) | skip
  · exact non_rel
  · rw [eq_of_beq h]; exact bl_rel
  · rw [eq_of_beq h]; exact int_rel
  · exact kt_obj h w
theorem dvsB_ok {K : PySem.W.Frag} {w : Wd} : ∀ {ds : List He.Dv} {as : List A}, dvsB K ds as = true → RelAs K w as (ds.map (He.Dv.v K))
  | [], [], _ => RelAs.nil
  | [], _ :: _, h => by cases h
  | _ :: _, [], h => by cases h
  | d :: ds, a :: as, h => by
    simp only [dvsB, Bool.and_eq_true] at h
    exact RelAs.cons (dvB_ok h.1 w) (dvsB_ok h.2)
theorem dvOk {K : PySem.W.Frag} {G : Gt} {fn : List He.DefD} (h : dftB G fn K = true) : DvOk K G fn := by
  intro i p dd j e1 e2 hl w
  have q := List.all_eq_true.mp h p (List.mem_of_getElem? e1)
  rw [e2] at q
  have q : dvsB K (dd.dfl.drop (dd.dfl.length - p.vals.length)) p.vals = true := q
  have r := dvsB_ok (w := w) q
  have e3 : (dd.dvs K).drop j = (dd.dfl.drop (dd.dfl.length - p.vals.length)).map (He.Dv.v K) := by
    unfold He.DefD.dvs
    rw [← List.map_drop]
    congr 1
    by_cases hj : j ≤ dd.dfl.length
    · congr 1; omega
    · rw [List.drop_eq_nil_of_le (by omega), List.drop_eq_nil_of_le (by omega)]
  rw [e3]; exact r
end Lt
/-! own exceptions, from the head -/
namespace Lt
open PySem PySem.Spec PyProof.Rows L2
structure XiOk (dd : He.DefD) (nm : Str) (fl N : List Str) : Prop where
  at_ : dd.at_ = (nm, some ("__init__" : Str))
  sc : FnScope N N dd.scope
  len : N.length = fl.length + 1
  mt : mXi ⟨N, dd.scope, fun _ => true, true⟩ fl dd.body = true
  nd : dd.dfl = []
  bi : ∀ (kV doc pm : Value) (an : Option Addr) (cdv ct : Value) (us : List Value), us.length = N.length → bindArgs (PySem.W.fnOf dd.name dd.qual dd.params dd.body dd.scope .none kV doc pm an cdv ct) ⟨us, []⟩ = pure (N.zip us)
def XiAll (G : Gt) (fn : List He.DefD) : Prop := ∀ (c : Nat) (p : Str × List Str), G.xcs[c]? = some p → ∃ (i : Nat) (dd : He.DefD) (N : List Str), fn[i]? = some dd ∧ XiOk dd p.1 p.2 N
theorem xi_none {G : Gt} {fn : List He.DefD} (h : G.xcs = []) : XiAll G fn := fun c p e => by rw [h] at e; simp at e
def xcB (K : PySem.W.Frag) (C : Addr) (fl : List Str) : Bool :=
  oexB K C && (xfB K C && (fl.all (fun f => decide (PySem.W.findIn K (.ref C) f = some none)) && (decide (0 < fl.length) && (decide (fl.length ≤ 100) && ((PySem.W.clsIn K C).isSome && (decide (PySem.W.findIn K (.ref C) "__class__" = some (some (.builtin "object.__class__"))) &&
    (decide (PySem.W.mroIn K C (.type "object") = some true) && (decide (PySem.W.findIn K (.ref C) "__init__" = some (some (.ref (He.ma K C "__init__")))) && decide (PySem.W.typeIn K (.ref (He.ma K C "__init__")) = some (.type "function"))))))))))
def veB (K : PySem.W.Frag) : Bool := (match PySem.W.findCls K (.type "ValueError") (.type "type") "__init__" with
  | some (.val (.builtin n)) => n == "ValueError.__init__"
  | _ => false)
def bxs : List (String × Bool) := [("ValueError", true), ("KeyError", false), ("LookupError", false), ("IndexError", false), ("RuntimeError", false)]
def xoB (G : Gt) (K : PySem.W.Frag) : Bool := G.xo.all fun x => (List.range G.xcs.length).all fun c => decide (PySem.W.kitOne K (.ref (He.ga K (G.xcs.getD c ("", [])).1)) (.ref (He.ga K x)) = some false)
def xcsB (G : Gt) (K : PySem.W.Frag) : Bool := xoB G K && (G.xcs.isEmpty || (veB K && (cdB K && (decide (G.clss.length ≤ 1000) && (G.xcs.all (fun p => xcB K (He.ga K p.1) p.2) && ((List.range G.xcs.length).all fun c => ((List.range G.xcs.length).all fun d =>
    decide (PySem.W.exmOne K (.ref (He.ga K (G.xcs.getD c ("", [])).1)) (.ref (He.ga K (G.xcs.getD d ("", [])).1)) = some (c == d)) && decide (PySem.W.kitOne K (.ref (He.ga K (G.xcs.getD c ("", [])).1)) (.ref (He.ga K (G.xcs.getD d ("", [])).1)) = some (c == d))) &&
      bxs.all fun q => decide (PySem.W.kitOne K (.ref (He.ga K (G.xcs.getD c ("", [])).1)) (.type q.1) = some q.2)))))))
theorem xbi_mem {x : String} {b : Bool} (h : xBi x = some b) : (x, b) ∈ bxs := by
  unfold xBi at h
  split at h
  · rename_i e; subst e; cases h; simp [bxs]
  split at h
  · rename_i e; subst e; cases h; simp [bxs]
  split at h
  · rename_i e; subst e; cases h; simp [bxs]
  split at h
  · rename_i e; subst e; cases h; simp [bxs]
  split at h
  · rename_i e; subst e; cases h; simp [bxs]
  · cases h
/-- the head's facts of exceptions -/
def xcFa (G : Gt) : List He.Fa := (G.xcs.map fun p => .glo p.1) ++ G.xo.map .glo
theorem xc_all {wo : World} {K : PySem.W.Frag} {h : Heap} {mg : Str → Option Value} {G : Gt} {fn : List He.DefD} {fa : List He.Fa} (X : K.In h) (Gn : h.Ns mainGlobals mg) (c : He.SaysD fa fn K) (hg : ∀ f ∈ xcFa G, f ∈ fa) (hv : He.Fa.free "ValueError" ∈ fa)
    (hB : xcsB G K = true) (hi : XiAll G fn) (cn : List Str) (hcn : cn.length = G.clss.length) : XcAll wo K mg (adOf K fn cn (G.xcs.map (·.1))) G := by
  have fx0 := facts_all c
  unfold xcsB at hB
  rw [Bool.and_eq_true] at hB
  obtain ⟨hxo, hB⟩ := hB
  have exc0 : ∀ (i : Nat) (p : Str × List Str), G.xcs[i]? = some p → (adOf K fn cn (G.xcs.map (·.1))).xc i = He.ga K p.1 := fun i p e => by
    simp only [adOf, List.getElem?_map, e, Option.map_some]
  have xo : ∀ x, G.xo.contains x = true → mg x = some (.ref ((adOf K fn cn (G.xcs.map (·.1))).tb x)) ∧ ∀ c, c < G.xcs.length → PySem.W.kitOne K (.ref ((adOf K fn cn (G.xcs.map (·.1))).xc c)) (.ref ((adOf K fn cn (G.xcs.map (·.1))).tb x)) = some false := by
    intro x hx
    have hx : x ∈ G.xo := by simpa using hx
    refine ⟨He.glo_ok X Gn (fx0 _ (hg _ (List.mem_append_right _ (List.mem_map.mpr ⟨x, hx, rfl⟩)))), fun i hi => ?_⟩
    have q := List.all_eq_true.mp (List.all_eq_true.mp hxo x hx) i (by simpa using hi)
    have q := of_decide_eq_true q
    have e := List.getElem?_eq_getElem hi
    rw [List.getD_eq_getElem?_getD, e] at q
    rw [exc0 i _ e]
    exact q
  by_cases he : G.xcs = []
  · exact ⟨fun c p e => by rw [he] at e; simp at e, fun c d hc => by rw [he] at hc; simp at hc, fun c x b hc => by rw [he] at hc; simp at hc, xo⟩
  · have hne : G.xcs.isEmpty = false := by
      cases hh : G.xcs with
      | nil => exact absurd hh he
      | cons a b => rfl
    rw [hne, Bool.false_or] at hB
    simp only [Bool.and_eq_true, List.all_eq_true, decide_eq_true_eq] at hB
    obtain ⟨b1, b2, b3, b4, b5⟩ := hB
    have fx := facts_all c
    have exc : ∀ (i : Nat) (p : Str × List Str), G.xcs[i]? = some p → (adOf K fn cn (G.xcs.map (·.1))).xc i = He.ga K p.1 := fun i p e => by
      simp only [adOf, List.getElem?_map, e, Option.map_some]
    have ecl : ∀ (i : Nat) (p : Str × List Str), G.xcs[i]? = some p → (adOf K fn cn (G.xcs.map (·.1))).cls (1000 + i) = He.ga K p.1 := fun i p e => by
      have : cn[1000 + i]? = none := List.getElem?_eq_none (by omega)
      have e2 : 1000 + i - 1000 = i := by omega
      simp only [adOf, this, e2, List.getElem?_map, e, Option.map_some]
    have hv0 : mg "ValueError" = none := He.free_ok X Gn (fx _ hv)
    have vV : PySem.W.findCls K (.type "ValueError") (.type "type") "__init__" = some (.val (.builtin "ValueError.__init__")) := by
      unfold veB at b1
      split at b1
      · rename_i n e
        rw [e]
        have := eq_of_beq b1
        rw [this]
      · cases b1
    have cd : PySem.W.specialIn K (.builtin "object.__class__") "__get__" = some (some (.builtin "getset_descriptor.__get__")) ∧ PySem.W.takesIn K (.builtin "object.__class__") = some true := by
      unfold cdB at b2
      simp only [Bool.and_eq_true, decide_eq_true_eq] at b2
      exact ⟨He.eqO_ok b2.1, b2.2⟩
    have getD : ∀ (i : Nat) (p : Str × List Str), G.xcs[i]? = some p → G.xcs.getD i ("", []) = p := fun i p e => by
      rw [List.getD_eq_getElem?_getD, e]; rfl
    refine ⟨fun i p e => ⟨(exc i p e).trans (ecl i p e).symm, fun P base => ?_⟩, fun i j h1 h2 => ?_, fun i x b h1 h2 => ?_, xo⟩
    · rw [exc i p e]
      have q := b4 p (List.mem_of_getElem? e)
      unfold xcB at q
      simp only [Bool.and_eq_true, List.all_eq_true, decide_eq_true_eq] at q
      obtain ⟨q1, q2, q3, q4, q5, q6, q7, q8, q9, q10⟩ := q
      have xk : XcK K (He.ga K p.1) p.2 := ⟨oexB_ok q1, xfB_ok q2, q3, q4, q5, vV, q6, q7, cd.1, cd.2, q8⟩
      obtain ⟨n, dd, N, e1, xi⟩ := hi i p e
      obtain ⟨fd, hf⟩ := c.def_ n e1
      have hdv : dd.dvs K = [] := by unfold He.DefD.dvs; rw [xi.nd]; rfl
      rw [hdv] at hf
      have ef : He.fAd K dd.at_ = He.ma K (He.ga K p.1) "__init__" := by rw [xi.at_]; rfl
      rw [ef] at hf
      refine { toXcK := xk, mg_ := He.glo_ok X Gn (fx _ (hg _ (List.mem_append_left _ (List.mem_map.mpr ⟨p, List.mem_of_getElem? e, rfl⟩)))), ini := ⟨_, fd, N, q9, q10, hf.bindsN (ps := N) xi.bi, init_ok hf xi.sc xi.len xi.mt xk hv0⟩ }
    · have e1 := List.getElem?_eq_getElem h1
      have e2 := List.getElem?_eq_getElem h2
      have q := (b5 i (by simpa using h1)).1 j (by simpa using h2)
      rw [getD i _ e1, getD j _ e2] at q
      rw [exc i _ e1, exc j _ e2]
      exact q
    · have e1 := List.getElem?_eq_getElem h1
      have q := (b5 i (by simpa using h1)).2 _ (xbi_mem h2)
      rw [getD i _ e1] at q
      rw [exc i _ e1]
      exact q
end Lt
/-! the head with the addresses told -/
namespace Lt
open PySem PySem.Spec PyProof.Rows L2
def obY (as : List Addr) (fa : List He.Fa) (fn : List He.DefD) (ts : List He.Tab) (ex : PySem.W.Frag → Bool) (g : Addr → Option Obj) : He.AlX := (He.obsT fa fn ts (He.frT g as), ex (He.frT g as))
theorem says_obY {as : List Addr} {fa : List He.Fa} {fn : List He.DefD} {ts : List He.Tab} {ex : PySem.W.Frag → Bool} {w : World} {h : Heap} (e : obY as fa fn ts ex h.get? = He.valX fn ts w) : He.SaysX fa fn ts [] ex w h (He.frT h.get? as) :=
  ⟨congrArg (fun z : He.AlX => z.1) e, congrArg (fun z : He.AlX => z.2) e, fun _ hp => (by cases hp), fun _ hp => (by cases hp), fun _ hp => (by cases hp)⟩
def hookY (as : List Addr) (fa : List He.Fa) (fn : List He.DefD) (ts : List He.Tab) (ex : PySem.W.Frag → Bool) : PySem.W.Hook where
  α := He.AlX
  obs := fun s => obY as fa fn ts ex s.heap.get?
  val := fun w => He.valX fn ts w
  says := fun w h => ∃ K : PySem.W.Frag, K.In h ∧ He.SaysX fa fn ts [] ex w h K
  of := fun _ _ e => ⟨_, He.frT_in, says_obY e⟩
  keeps := fun _ _ _ ⟨K, hK, c⟩ k => ⟨K, PySem.W.Frag.In.keeps hK k, ⟨c.t, c.more, c.hd, c.out, fun p hp => k _ _ (c.empty p hp)⟩⟩
theorem obY_eq {as : List Addr} {fa : List He.Fa} {fn : List He.DefD} {ts : List He.Tab} {ex : PySem.W.Frag → Bool} {g : Addr → Option Obj} {s : Shared} (h : ∀ a, g a = s.heap.get? a) : obY as fa fn ts ex g = (hookY as fa fn ts ex).obs s := by
  have e : g = s.heap.get? := funext h
  rw [e]; rfl
/-- the state behind the top -/
noncomputable def endY (r : PySem.W.OpenRow) (M : Nat) (w : World) (os : OsState) : Option PySem.W.SharedT := HandSHeadRun.endF (HandSHeadRun.stepQ (HandSHeadRun.denQ HandSHeadRun.tabQ) r.prog w) M r.prog w os
theorem map_join {α β γ δ ε : Type} {e : Option α} {f1 : α → β} {f2 : α → γ} {f3 : α → δ} {f4 : α → ε} {a1 : β} {a2 : γ} {a3 : δ} {a4 : ε} (h1 : e.map f1 = some a1) (h2 : e.map f2 = some a2) (h3 : e.map f3 = some a3) (h4 : e.map f4 = some a4) :
    e.map (fun s => (f1 s, f2 s, (f3 s, f4 s))) = some (a1, a2, (a3, a4)) := by
  cases e with
  | none => cases h1
  | some x =>
    rw [Option.map_some, Option.some.injEq] at h1 h2 h3 h4 ⊢
    rw [h1, h2, h3, h4]
theorem map_pair3 {α β γ δ : Type} {e : Option α} {f1 : α → β} {f2 : α → γ} {f3 : α → δ} {a1 : β} {a2 : γ} {a3 : δ} (h : e.map (fun s => (f1 s, f2 s)) = some (a1, a2)) (h3 : e.map f3 = some a3) : e.map (fun s => (f1 s, f2 s, f3 s)) = some (a1, a2, a3) := by
  cases e with
  | none => cases h3
  | some x =>
    rw [Option.map_some, Option.some.injEq] at h h3 ⊢
    rw [Prod.mk.injEq] at h
    rw [h.1, h.2, h3]
theorem map_two {α β γ : Type} {e : Option α} {f1 : α → β} {f2 : α → γ} {a1 : β} {a2 : γ} (h1 : e.map f1 = some a1) (h2 : e.map f2 = some a2) : e.map (fun s => (f1 s, f2 s)) = some (a1, a2) := by
  cases e with
  | none => cases h1
  | some x =>
    rw [Option.map_some, Option.some.injEq] at h1 h2 ⊢
    rw [h1, h2]
theorem map_and {α : Type} {e : Option α} {f1 f2 : α → Bool} (h1 : e.map f1 = some true) (h2 : e.map f2 = some true) : e.map (fun s => f1 s && f2 s) = some true := by
  cases e with
  | none => cases h1
  | some x =>
    rw [Option.map_some, Option.some.injEq] at h1 h2 ⊢
    rw [h1, h2]; rfl
end Lt
/-! the pools that the laws draw from -/
namespace Lt
open PySem L2
def drawB : List Sm := [.ifs (.cmp .Gt (.idx (.nm 0) (.cI 0)) (.cI 0)) [.asg (.t (.nm 2)) (.bin .Mod false (.idx (.nm 0) (.cI 0)) (.nm 1)), .asg (.sub (.nm 0) (.cI 0)) (.bin .FloorDiv false (.idx (.nm 0) (.cI 0)) (.nm 1)), .ret (.nm 2)] [],
  .asg (.sub (.nm 0) (.cI 1)) (.bin .Mod false (.bin .Add false (.bin .Mult false (.idx (.nm 0) (.cI 1)) (.cI 69621)) (.cI 7)) (.cI 2147483647)),
  .ret (.bin .Mod false (.bin .FloorDiv false (.bin .Mod false (.bin .Mult false (.idx (.nm 0) (.cI 1)) (.idx (.nm 0) (.cI 1))) (.cI 2147483629)) (.cI 32)) (.nm 1))]
def drawF : Fd := ⟨2, 3, drawB⟩
theorem idx_ref {S : List O} {n : Nat} {xs : List A} {i : Int} (h : S[n]? = some (.lst xs)) : idxO S (.ref n) (.int i) = atI xs i := by
  unfold idxO
  simp only [seqO, h]
theorem bind_of {α β : Type} (a : α) (S : List O) (f : α → List O → R β) : (R.of (some a) S).bind f = f a S := rfl
/-- what a list object holds -/
theorem get_set {S : List O} {n : Nat} {o o' : O} (h : S[n]? = some o) : (S.set n o')[n]? = some o' := List.getElem?_set_self (List.getElem?_eq_some_iff.mp h).1
theorem draw_spec (G : Gt) (cal : Cal) {S : List O} {n : Nat} {a b m : Int} (hS : S[n]? = some (.lst [.int a, .int b])) (ha : 0 ≤ a) (hb : 0 ≤ b) (hb2 : b < 2 ^ 31) (hm : 0 < m) (hm2 : m < 1073741824) :
    ∃ d a' b', runF G cal drawF [.ref n, .int m] S = .ok (.int d) (S.set n (.lst [.int a', .int b'])) ∧ 0 ≤ d ∧ d < m ∧ 0 ≤ a' ∧ 0 ≤ b' ∧ b' < 2 ^ 31 := by
  have i0 : idxO S (.ref n) (.int 0) = some (.int a) := idx_ref hS
  have i1 : idxO S (.ref n) (.int 1) = some (.int b) := idx_ref hS
  by_cases h0 : 0 < a
  · refine ⟨a % m, a / m, b, ?_, Int.emod_nonneg _ (by omega), Int.emod_lt_of_pos _ hm, Int.ediv_nonneg ha (by omega), hb, hb2⟩
    simp [runF, drawF, drawB, denSs, denS, den, dens, tst, cmpO, i0, h0, truO, T.asg, binO, hm, hm2, setO, hS, ixN]
  · generalize hc : (b * 69621 + 7) % 2147483647 = c
    have hc0 : 0 ≤ c := by rw [← hc]; exact Int.emod_nonneg _ (by omega)
    have hc1 : c < 2147483647 := by rw [← hc]; exact Int.emod_lt_of_pos _ (by omega)
    have i2 : idxO (S.set n (.lst [.int a, .int c])) (.ref n) (.int 1) = some (.int c) := idx_ref (get_set hS)
    have s1 : small b := by unfold small; omega
    have s2 : small c := by unfold small; omega
    refine ⟨c * c % 2147483629 / 32 % m, a, c, ?_, Int.emod_nonneg _ (by omega), Int.emod_lt_of_pos _ hm, ha, hc0, by omega⟩
    simp [runF, drawF, drawB, denSs, denS, den, dens, tst, cmpO, i0, i1, h0, truO, T.asg, binO, hm, hm2, setO, hS, ixN, s1, s2, hc, i2]
def poolR : List Sm := [
  .asg (.t (.nm 3)) (.bi .max [(.nm 2), (.bin .Sub true (.neg (.cI 1)) (.nm 2))]),
  .asg (.t (.nm 4)) (.bin .Mod true (.bin .Mult true (.bin .Add true (.bin .Add true (.bin .Add true (.bin .Mod true (.nm 3) (.cI 2147483629)) (.bin .Mult true (.bin .Mult true (.cI 7919) (.nm 1)) (.nm 1))) (.bin .Mult true (.cI 31) (.nm 1))) (.cI 17)) (.cI 48271)) (.cI 2147483647)),
  .ret (.lst true [(.bin .Mult true (.nm 3) (.bi .int [(.cmp .GtE (.nm 3) (.bin .Pow true (.cI 10) (.cI 18)))])), (.nm 4)])]
def poolB : List Sm := .asg (.t (.nm 2)) (.cI 0) :: .ifs (.cmp .Lt (.nm 1) (.bi .len [(.nm 0)])) [.asg (.t (.nm 2)) (.idx (.nm 0) (.nm 1))] [] :: poolR
def poolF : Fd := ⟨2, 5, poolB⟩
theorem ixN_nat {n k : Nat} (h : k < n) : ixN n (k : Int) = some k := by
  unfold ixN
  rw [if_pos (by omega), if_pos (by omega)]; simp
theorem pool_key (K cell : Int) (hk : 0 ≤ K) (hk2 : K < 1000) : ∃ a b, (∀ mixed size : Int, size = (if -1 - cell > cell then -1 - cell else cell) → mixed = (size % 2147483629 + 7919 * K * K + 31 * K + 17) * 48271 % 2147483647 → a = size * (if (10:Int) ^ 18 ≤ size then 1 else 0) ∧ b = mixed) ∧ 0 ≤ a ∧ 0 ≤ b ∧ b < 2 ^ 31 := by
  refine ⟨_, _, fun mixed size h1 h2 => by subst h1; subst h2; exact ⟨rfl, rfl⟩, ?_, ?_, ?_⟩
  · split <;> split <;> omega
  · exact Int.emod_nonneg _ (by omega)
  · have := Int.emod_lt_of_pos (((if -1 - cell > cell then -1 - cell else cell) % 2147483629 + 7919 * K * K + 31 * K + 17) * 48271) (show (0 : Int) < 2147483647 by omega)
    omega
theorem small01 (c : Prop) (_ : Decidable c) : small (if c then 1 else 0) := by split <;> decide
theorem pool_fin (G : Gt) (cal : Cal) (S : List O) (x : A) (K cell : Int) (hk : 0 ≤ K) (hk2 : K < 1000) : ∃ a b, denSs G cal poolR [some x, some (.int K), some (.int cell), none, none] S = .rt (.ref S.length) (S ++ [.lst [.int a, .int b]]) ∧ 0 ≤ a ∧ 0 ≤ b ∧ b < 2 ^ 31 := by
  have sk : small K := by unfold small; omega
  have sk2 : small (7919 * K) := by unfold small; omega
  have s48 : small 48271 := by decide
  have s31 : small 31 := by decide
  obtain ⟨a, b, h, h1, h2, h3⟩ := pool_key K cell hk hk2
  refine ⟨a, b, ?_, h1, h2, h3⟩
  obtain ⟨rfl, rfl⟩ := h _ _ rfl rfl
  simp [poolR, denSs, denS, den, dens, tst, cmpO, truO, T.asg, binO, biO, mkL, s48, s31, small01, sk, sk2]
theorem denSs_cons (G : Gt) (cal : Cal) (s : Sm) (ss : List Sm) (τ : Tau) (S : List O) : denSs G cal (s :: ss) τ S = (denS G cal s τ S).seq fun τ1 S1 => denSs G cal ss τ1 S1 := rfl
theorem denSs_nx {G : Gt} {cal : Cal} {s : Sm} {ss : List Sm} {τ τ1 : Tau} {S S1 : List O} (h : denS G cal s τ S = .nx τ1 S1) : denSs G cal (s :: ss) τ S = denSs G cal ss τ1 S1 := by rw [denSs_cons, h]; rfl
theorem denSs_rt {G : Gt} {cal : Cal} {s : Sm} {ss : List Sm} {τ : Tau} {a : A} {S S1 : List O} (h : denS G cal s τ S = .rt a S1) : denSs G cal (s :: ss) τ S = .rt a S1 := by rw [denSs_cons, h]; rfl
theorem runF_rt {G : Gt} {cal : Cal} {fd : Fd} {as : List A} {S S1 : List O} {a : A} (hl : as.length = fd.np) (h : denSs G cal fd.body (as.map some ++ List.replicate (fd.nl - fd.np) none) S = .rt a S1) : runF G cal fd as S = .ok a S1 := by
  unfold runF; rw [if_pos hl, h]; rfl
theorem pool_spec (G : Gt) (cal : Cal) (S : List O) (ns : List Int) (k : Nat) (hk2 : k < 1000) :
    ∃ a b, runF G cal poolF [.scr (ns.map .int), .int (k : Int)] S = .ok (.ref S.length) (S ++ [.lst [.int a, .int b]]) ∧ 0 ≤ a ∧ 0 ≤ b ∧ b < 2 ^ 31 := by
  have hl : lenO S (.scr (ns.map .int)) = some ns.length := by simp [lenO, seqO]
  have two : ∃ cell : Int, denS G cal (.ifs (.cmp .Lt (.nm 1) (.bi .len [(.nm 0)])) [.asg (.t (.nm 2)) (.idx (.nm 0) (.nm 1))] []) [some (.scr (ns.map .int)), some (.int (k : Int)), some (.int 0), none, none] S = .nx [some (.scr (ns.map .int)), some (.int (k : Int)), some (.int cell), none, none] S := by
    by_cases hlt : k < ns.length
    · have hx : idxO S (.scr (ns.map .int)) (.int (k : Int)) = some (.int ns[k]) := by
        unfold idxO
        simp only [seqO, atI, List.length_map, ixN_nat hlt]
        simp [hlt]
      exact ⟨ns[k], by simp [denSs, denS, den, dens, tst, cmpO, truO, T.asg, biO, hl, hlt, hx]⟩
    · exact ⟨0, by simp [denSs, denS, den, dens, tst, cmpO, truO, T.asg, biO, hl, hlt]⟩
  obtain ⟨cell, h2⟩ := two
  obtain ⟨a, b, h, h1⟩ := pool_fin G cal S (.scr (ns.map .int)) k cell (by omega) (by omega)
  exact ⟨a, b, runF_rt rfl ((denSs_nx (s := .asg (.t (.nm 2)) (.cI 0)) rfl).trans ((denSs_nx h2).trans h)), h1⟩
end Lt
/-! loops and comprehensions, in the small language's own terms -/
namespace Lt
open PySem L2
/-- a pool stands at n -/
def Pool (S : List O) (n : Nat) : Prop := ∃ a b : Int, S[n]? = some (.lst [.int a, .int b]) ∧ 0 ≤ a ∧ 0 ≤ b ∧ b < 2 ^ 31
/-- all but the object n stays -/
structure Oth (n : Nat) (S S' : List O) : Prop where
  len : S'.length = S.length
  at_ : ∀ j, j ≠ n → S'[j]? = S[j]?
theorem Oth.refl (n : Nat) (S : List O) : Oth n S S := ⟨rfl, fun _ _ => rfl⟩
theorem Oth.trans {n : Nat} {a b c : List O} (h : Oth n a b) (k : Oth n b c) : Oth n a c := ⟨k.len.trans h.len, fun j hj => (k.at_ j hj).trans (h.at_ j hj)⟩
/-- what stood stays, but for the object n -/
structure Ext (n : Nat) (S S' : List O) : Prop where
  len : S.length ≤ S'.length
  at_ : ∀ j, j ≠ n → j < S.length → S'[j]? = S[j]?
theorem Ext.refl (n : Nat) (S : List O) : Ext n S S := ⟨Nat.le_refl _, fun _ _ _ => rfl⟩
theorem Ext.trans {n : Nat} {a b c : List O} (h : Ext n a b) (k : Ext n b c) : Ext n a c := ⟨Nat.le_trans h.len k.len, fun j hj hl => (k.at_ j hj (Nat.lt_of_lt_of_le hl h.len)).trans (h.at_ j hj hl)⟩
theorem Oth.ext {n : Nat} {S S' : List O} (h : Oth n S S') : Ext n S S' := ⟨Nat.le_of_eq h.len.symm, fun j hj _ => h.at_ j hj⟩
theorem draw_pool (G : Gt) (cal : Cal) {S : List O} {n : Nat} (hS : Pool S n) {m : Int} (hm : 0 < m) (hm2 : m < 1073741824) :
    ∃ d S', runF G cal drawF [.ref n, .int m] S = .ok (.int d) S' ∧ 0 ≤ d ∧ d < m ∧ Pool S' n ∧ Oth n S S' := by
  obtain ⟨a, b, h, h1, h2, h3⟩ := hS
  obtain ⟨d, a', b', e, e1, e2, e3, e4, e5⟩ := draw_spec G cal h h1 h2 h3 hm hm2
  exact ⟨d, _, e, e1, e2, ⟨a', b', get_set h, e3, e4, e5⟩, by simp, fun j hj => List.getElem?_set_ne (Ne.symm hj)⟩
theorem pool_new {S : List O} {a b : Int} (h1 : 0 ≤ a) (h2 : 0 ≤ b) (h3 : b < 2 ^ 31) : Pool (S ++ [.lst [.int a, .int b]]) S.length := ⟨a, b, by simp, h1, h2, h3⟩
theorem I_succ (G : Gt) {ds : List (Option Fd)} {d : Nat} {fd : Fd} (h : ds[d]? = some (some fd)) (k : Nat) (as : List A) (S : List O) : I G ds (k + 1) d as S = runF G (I G ds k) fd as S := by simp only [I, h]
theorem denS_for (G : Gt) (cal : Cal) (t : T) (kk : IK) (src : List E) (b : List Sm) (τ : Tau) (S : List O) : denS G cal (.forr t kk src b) τ S = (iD G cal kk src τ S).go τ fun xg S1 => forD xg.2 (fun a τ => T.asg t a τ) (fun τ S => denSs G cal b τ S) xg.1 τ S1 := by
  show ((dens G cal src τ S).go τ fun vs S1 => _) = _
  unfold iD
  cases dens G cal src τ S with
  | ok vs S1 =>
    simp only [R.go_ok, R.bind_ok]
    cases srcO kk vs S1 with
    | none => rfl
    | some xg => rfl
  | ex c fs S1 => rfl
  | no => rfl
/-! ### loops -/
theorem forD_inv {g : Gd} {asg : A → Tau → Option Tau} {body : Tau → List O → SR} (P : Nat → Tau → List O → Prop) : ∀ (xs : List A) (j : Nat) (τ : Tau) (S : List O), P j τ S →
    (∀ i x τ S, xs[i]? = some x → P (j + i) τ S → g.ok S ∧ ∃ τ1, asg x τ = some τ1 ∧ ∃ τ2 S2, (body τ1 S = .nx τ2 S2 ∨ body τ1 S = .ct τ2 S2) ∧ P (j + i + 1) τ2 S2) → (∀ τ S, P (j + xs.length) τ S → g.ok S) →
    ∃ τ' S', forD g asg body xs τ S = .nx τ' S' ∧ P (j + xs.length) τ' S'
  | [], j, τ, S, h0, _, he => ⟨τ, S, by simp only [forD]; rw [if_pos (he τ S h0)], h0⟩
  | x :: xs, j, τ, S, h0, hs, he => by
    obtain ⟨gk, τ1, e1, τ2, S2, e2, h2⟩ := hs 0 x τ S rfl h0
    have q1 : ∀ i, j + 1 + i = j + (i + 1) := fun i => by omega
    have q2 : j + 1 + xs.length = j + (x :: xs).length := by simp; omega
    obtain ⟨τ', S', e3, h3⟩ := forD_inv P xs (j + 1) τ2 S2 h2 (fun i y τ S hy hp => by
      rw [q1] at hp
      have := hs (i + 1) y τ S (by simpa using hy) hp
      rw [← q1] at this; exact this) (fun τ S hp => he τ S (by rw [← q2]; exact hp))
    refine ⟨τ', S', ?_, by rw [← q2]; exact h3⟩
    simp only [forD]
    rw [if_pos gk, e1]
    rcases e2 with e2 | e2
    · simp only [e2]; exact e3
    · simp only [e2]; exact e3
/-- a comprehension whose parts change nothing -/
theorem lcD_pure {g : Gd} {asg : A → Tau → Option Tau} {cond : Tau → List O → R Bool} {elt : Tau → List O → R A} {τ : Tau} {S : List O} (gk : g.ok S) (p : A → Bool) (f : A → A) : ∀ (xs : List A) (acc : List A),
    (∀ x ∈ xs, ∃ τ1, asg x τ = some τ1 ∧ cond τ1 S = .ok (p x) S ∧ (p x = true → elt τ1 S = .ok (f x) S)) → lcD g asg cond elt τ acc xs S = .ok (acc ++ (xs.filter p).map f) S
  | [], acc, _ => by simp only [lcD]; rw [if_pos gk]; simp
  | x :: xs, acc, h => by
    obtain ⟨τ1, e1, e2, e3⟩ := h x List.mem_cons_self
    have ih := lcD_pure (asg := asg) (cond := cond) (elt := elt) (τ := τ) gk p f xs
    have h' := fun y hy => h y (List.mem_cons_of_mem _ hy)
    simp only [lcD]
    rw [if_pos gk, e1]
    simp only [e2]
    cases hp : p x with
    | true =>
      simp only [e3 hp]
      rw [ih _ h']
      simp [hp]
    | false =>
      simp only
      rw [ih _ h']
      simp [hp]
/-- the same over a list that is made from another -/
theorem lcD_made {α : Type} {g : Gd} {asg : A → Tau → Option Tau} {cond : Tau → List O → R Bool} {elt : Tau → List O → R A} {τ : Tau} {S : List O} (gk : g.ok S) (m : α → A) (p : α → Bool) (f : α → A) : ∀ (xs : List α) (acc : List A),
    (∀ x ∈ xs, ∃ τ1, asg (m x) τ = some τ1 ∧ cond τ1 S = .ok (p x) S ∧ (p x = true → elt τ1 S = .ok (f x) S)) → lcD g asg cond elt τ acc (xs.map m) S = .ok (acc ++ (xs.filter p).map f) S
  | [], acc, _ => by simp only [lcD, List.map_nil]; rw [if_pos gk]; simp
  | x :: xs, acc, h => by
    obtain ⟨τ1, e1, e2, e3⟩ := h x List.mem_cons_self
    have ih := lcD_made (asg := asg) (cond := cond) (elt := elt) (τ := τ) gk m p f xs
    have h' := fun y hy => h y (List.mem_cons_of_mem _ hy)
    simp only [lcD, List.map_cons]
    rw [if_pos gk, e1]
    simp only [e2]
    cases hp : p x with
    | true =>
      simp only [e3 hp]
      rw [ih _ h']
      simp [hp]
    | false =>
      simp only
      rw [ih _ h']
      simp [hp]
theorem filt_true {α : Type} (l : List α) : l.filter (fun _ => true) = l := List.filter_eq_self.mpr fun _ _ => rfl
theorem gd_nil (S : List O) : Gd.ok [] S := fun p hp => by cases hp
theorem any_sign (l : List Nat) (c : Nat) : (l.map fun c => A.str [c]).any (fun z => z.eqv (.str [c])) = decide (c ∈ l) := by
  induction l with
  | nil => simp
  | cons a l ih =>
    rw [List.map_cons, List.any_cons, ih]
    by_cases h : a = c
    · subst h; simp [A.eqv]
    · simp [A.eqv, h, Ne.symm h]
theorem pures_sign (l : List Nat) : A.pures (l.map fun c => A.str [c]) = true := by
  induction l with
  | nil => rfl
  | cons a l ih => simp [A.pures, A.pure, ih]
theorem pures_str : ∀ (l : List Nat), A.pures (l.map fun c => A.str [c]) = true := pures_sign
theorem depths_sign (l : List Nat) : A.depths (l.map fun c => A.str [c]) = 0 := by
  induction l with
  | nil => rfl
  | cons a l ih => simp [A.depths, A.depth, ih]
theorem bools_map (l : List Bool) : boolsO (l.map A.bl) = some l := by
  induction l with
  | nil => rfl
  | cons a l ih => simp [boolsO, ih]
theorem den_bi (G : Gt) (cal : Cal) (b : Bi) (es : List E) (τ : Tau) (S : List O) : den G cal (.bi b es) τ S = (dens G cal es τ S).bind fun xs S1 => biO b xs S1 := rfl
theorem dens_cons (G : Gt) (cal : Cal) (e : E) (es : List E) (τ : Tau) (S : List O) : dens G cal (e :: es) τ S = (den G cal e τ S).bind fun x S1 => (dens G cal es τ S1).bind fun xs S2 => .ok (x :: xs) S2 := rfl
section
variable {G : Gt} {cal : Cal} {τ : Tau} {S S1 S2 : List O} {x y : A} {k : Bool}
theorem bi2 {a b : E} {f : Bi} (ha : den G cal a τ S = .ok x S1) (hb : den G cal b τ S1 = .ok y S2) : den G cal (.bi f [a, b]) τ S = biO f [x, y] S2 := by
  rw [den_bi, dens_cons, ha, R.bind_ok, dens_cons, hb]; rfl
theorem cmp2 {op : CmpOp} {a b : E} (ha : den G cal a τ S = .ok x S1) (hb : den G cal b τ S1 = .ok y S2) (h : cmpO op x y S2 = some k) : den G cal (.cmp op a b) τ S = .ok (.bl k) S2 := by
  show ((den G cal a τ S).bind fun x S1 => (den G cal b τ S1).bind fun y S2 => R.of ((cmpO op x y S2).map A.bl) S2) = _
  rw [ha, R.bind_ok, hb, R.bind_ok, h]; rfl
theorem tst1 {e : E} (he : den G cal e τ S = .ok x S1) (h : truO S1 x = some k) : tst G cal e τ S = .ok k S1 := by
  show ((den G cal e τ S).bind fun x S1 => R.of (truO S1 x) S1) = _
  rw [he, R.bind_ok, h]; rfl
theorem ifsF {c : E} {a b : List Sm} (h : tst G cal c τ S = .ok false S1) : denS G cal (.ifs c a b) τ S = denSs G cal b τ S1 := by
  show (tst G cal c τ S).go τ _ = _
  rw [h]; rfl
theorem ifsT {c : E} {a b : List Sm} (h : tst G cal c τ S = .ok true S1) : denS G cal (.ifs c a b) τ S = denSs G cal a τ S1 := by
  show (tst G cal c τ S).go τ _ = _
  rw [h]; rfl
theorem orF {a b : E} (ha : den G cal a τ S = .ok x S1) (h : truO S1 x = some false) : den G cal (.or_ a b) τ S = den G cal b τ S1 := by
  show ((den G cal a τ S).bind _) = _
  rw [ha, R.bind_ok, h]
theorem orT {a b : E} (ha : den G cal a τ S = .ok x S1) (h : truO S1 x = some true) : den G cal (.or_ a b) τ S = .ok x S1 := by
  show ((den G cal a τ S).bind _) = _
  rw [ha, R.bind_ok, h]
theorem andT {a b : E} (ha : den G cal a τ S = .ok x S1) (h : truO S1 x = some true) : den G cal (.and_ a b) τ S = den G cal b τ S1 := by
  show ((den G cal a τ S).bind _) = _
  rw [ha, R.bind_ok, h]
theorem andF {a b : E} (ha : den G cal a τ S = .ok x S1) (h : truO S1 x = some false) : den G cal (.and_ a b) τ S = .ok x S1 := by
  show ((den G cal a τ S).bind _) = _
  rw [ha, R.bind_ok, h]
theorem not1 {a : E} (ha : den G cal a τ S = .ok x S1) (h : truO S1 x = some k) : den G cal (.no_ a) τ S = .ok (.bl (!k)) S1 := by
  show ((den G cal a τ S).bind _) = _
  rw [ha, R.bind_ok, h]; rfl
end
theorem rngA_at {n i : Nat} {a : A} (h : (rngA 0 n)[i]? = some a) : i < n ∧ a = .int (i : Int) := by
  obtain ⟨h1, h2⟩ := rngA_get _ _ _ _ h
  exact ⟨h1, by rw [h2, Int.zero_add]⟩
theorem srcO_rng {n : Nat} (h : n ≤ 1000000) (S : List O) : srcO .rng [.int (n : Int)] S = some (rngA 0 n, []) := by
  simp only [srcO]
  rw [if_pos (by omega)]; simp
theorem iD_rng {G : Gt} {cal : Cal} {e : E} {τ : Tau} {S S1 : List O} {n : Nat} (he : den G cal e τ S = .ok (.int (n : Int)) S1) (h : n ≤ 1000000) : iD G cal .rng [e] τ S = .ok (rngA 0 n, []) S1 := by
  rw [iD_one, he, R.bind_ok, srcO_rng h]; rfl
/-- range(max(1, min(c, len(script)))) -/
theorem rng_script (G : Gt) (cal : Cal) (ns : List Int) (c : Nat) (hc : c ≤ 1000) (τ : Tau) (S : List O) : iD G cal .rng [.bi .max [.cI 1, .bi .min [.cI c, .bi .len [.nm 0]]]] (some (.scr (ns.map .int)) :: τ) S = .ok (rngA 0 (max 1 (min c ns.length)), []) S := by
  have d1 : den G cal (.bi .len [.nm 0]) (some (.scr (ns.map .int)) :: τ) S = .ok (.int (ns.length : Int)) S := by simp [den, dens, biO, lenO, seqO]
  have d2 : den G cal (.bi .min [.cI c, .bi .len [.nm 0]]) (some (.scr (ns.map .int)) :: τ) S = .ok (.int (if (ns.length : Int) < c then (ns.length : Int) else c)) S := (bi2 (a := .cI c) rfl d1).trans rfl
  have hm : (if (if (ns.length : Int) < c then (ns.length : Int) else c) > 1 then (if (ns.length : Int) < c then (ns.length : Int) else c) else 1) = ((max 1 (min c ns.length) : Nat) : Int) := by split <;> split <;> omega
  have d3 : den G cal (.bi .max [.cI 1, .bi .min [.cI c, .bi .len [.nm 0]]]) (some (.scr (ns.map .int)) :: τ) S = .ok (.int ((max 1 (min c ns.length) : Nat) : Int)) S := by rw [← hm]; exact (bi2 (a := .cI 1) rfl d2).trans rfl
  exact iD_rng d3 (by omega)
/-- range(max(1, min(len(script), c))) -/
theorem rng_script' (G : Gt) (cal : Cal) (ns : List Int) (c : Nat) (hc : c ≤ 1000) (τ : Tau) (S : List O) : iD G cal .rng [.bi .max [.cI 1, .bi .min [.bi .len [.nm 0], .cI c]]] (some (.scr (ns.map .int)) :: τ) S = .ok (rngA 0 (max 1 (min c ns.length)), []) S := by
  have d1 : den G cal (.bi .len [.nm 0]) (some (.scr (ns.map .int)) :: τ) S = .ok (.int (ns.length : Int)) S := by simp [den, dens, biO, lenO, seqO]
  have d2 : den G cal (.bi .min [.bi .len [.nm 0], .cI c]) (some (.scr (ns.map .int)) :: τ) S = .ok (.int (if (c : Int) < (ns.length : Int) then (c : Int) else (ns.length : Int))) S := (bi2 (b := .cI c) d1 rfl).trans rfl
  have hm : (if (if (c : Int) < (ns.length : Int) then (c : Int) else (ns.length : Int)) > 1 then (if (c : Int) < (ns.length : Int) then (c : Int) else (ns.length : Int)) else 1) = ((max 1 (min c ns.length) : Nat) : Int) := by split <;> split <;> omega
  have d3 : den G cal (.bi .max [.cI 1, .bi .min [.bi .len [.nm 0], .cI c]]) (some (.scr (ns.map .int)) :: τ) S = .ok (.int ((max 1 (min c ns.length) : Nat) : Int)) S := by rw [← hm]; exact (bi2 (a := .cI 1) rfl d2).trans rfl
  exact iD_rng d3 (by omega)
end Lt
/-! what an answer must be, read from behind -/
namespace Lt
open PySem L2
@[irreducible] def okk {α : Type} (r : R α) (P : α → List O → Prop) : Prop := ∃ a S, r = .ok a S ∧ P a S
@[irreducible] def oks (r : SR) (P : SR → Prop) : Prop := P r
/-- what follows a statement -/
def nxt (f : Tau → List O → Prop) (P : SR → Prop) : SR → Prop
  | .nx τ S => f τ S
  | r => P r
theorem okk.iff {α : Type} {r : R α} {P : α → List O → Prop} : okk r P ↔ ∃ a S, r = .ok a S ∧ P a S := by unfold okk; exact Iff.rfl
theorem oks.iff {r : SR} {P : SR → Prop} : oks r P ↔ P r := by unfold oks; exact Iff.rfl
theorem okk.of {α : Type} {r : R α} {a : α} {S : List O} {P : α → List O → Prop} (h : r = .ok a S) (k : P a S) : okk r P := okk.iff.mpr ⟨a, S, h, k⟩
theorem okk.ok {α : Type} {a : α} {S : List O} {P : α → List O → Prop} (k : P a S) : okk (.ok a S) P := okk.iff.mpr ⟨a, S, rfl, k⟩
theorem okk.imp {α : Type} {r : R α} {P Q : α → List O → Prop} (h : okk r P) (k : ∀ a S, P a S → Q a S) : okk r Q := by
  obtain ⟨a, S, e, p⟩ := okk.iff.mp h
  exact .of e (k a S p)
theorem okk.bind {α β : Type} {r : R α} {f : α → List O → R β} {P : β → List O → Prop} (h : okk r fun a S => okk (f a S) P) : okk (r.bind f) P := by
  obtain ⟨a, S, e, h⟩ := okk.iff.mp h
  obtain ⟨b, S1, e1, p⟩ := okk.iff.mp h
  exact .of (a := b) (S := S1) (by rw [e]; exact e1) p
theorem okk.rof {α : Type} {o : Option α} {a : α} {S : List O} {P : α → List O → Prop} (h : o = some a) (k : P a S) : okk (R.of o S) P := .of (a := a) (S := S) (by rw [h]; rfl) k
theorem okk.go {α : Type} {r : R α} {τ : Tau} {f : α → List O → SR} {P : SR → Prop} (h : okk r fun a S => oks (f a S) P) : oks (r.go τ f) P := by
  obtain ⟨a, S, e, p⟩ := okk.iff.mp h
  rw [e]; exact p
section
variable {G : Gt} {cal : Cal} {τ : Tau} {S : List O} {P : A → List O → Prop} {B : Bool → List O → Prop} {L : List A → List O → Prop} {Z : SR → Prop}
theorem w_nm {i : Nat} {a : A} (h : τ[i]? = some (some a)) (k : P a S) : okk (den G cal (.nm i) τ S) P := .of (a := a) (S := S) (by simp only [den, h]) k
theorem w_cN (k : P .non S) : okk (den G cal .cN τ S) P := .ok k
theorem w_cB {b : Bool} (k : P (.bl b) S) : okk (den G cal (.cB b) τ S) P := .ok k
theorem w_cI {i : Int} (k : P (.int i) S) : okk (den G cal (.cI i) τ S) P := .ok k
theorem w_cS {x : List Nat} (k : P (.str x) S) : okk (den G cal (.cS x) τ S) P := .ok k
theorem w_gl {x : Str} {a : A} (h : G.consts.lookup x = some a) (k : P a S) : okk (den G cal (.gl x) τ S) P := .rof h k
theorem w_bin {op : Operator} {fl : Bool} {a b : E} (h : okk (den G cal a τ S) fun x S1 => okk (den G cal b τ S1) fun y S2 => okk (binO op fl x y S2) P) : okk (den G cal (.bin op fl a b) τ S) P := .bind (h.imp fun _ _ q => .bind q)
theorem w_neg {a : E} (h : okk (den G cal a τ S) fun x S1 => ∃ i, x = .int i ∧ P (.int (-i)) S1) : okk (den G cal (.neg a) τ S) P := .bind (h.imp fun x S1 ⟨i, e, q⟩ => by subst e; exact .ok q)
theorem w_no {a : E} (h : okk (tst G cal a τ S) fun b S1 => P (.bl (!b)) S1) : okk (den G cal (.no_ a) τ S) P := by
  obtain ⟨b, S1, e, q⟩ := okk.iff.mp h
  refine .of (S := S1) ?_ q
  have e : (den G cal a τ S).bind (fun x S1 => R.of (truO S1 x) S1) = .ok b S1 := e
  show (den G cal a τ S).bind (fun x S1 => R.of ((truO S1 x).map fun k => A.bl (!k)) S1) = _
  cases hd : den G cal a τ S with
  | ok x S2 =>
    rw [hd, R.bind_ok] at e
    rw [R.bind_ok]
    cases ht : truO S2 x with
    | none => rw [ht] at e; cases e
    | some c => rw [ht] at e; cases e; rfl
  | ex c fs S => rw [hd] at e; cases e
  | no => rw [hd] at e; cases e
theorem w_cmp {op : CmpOp} {a b : E} (h : okk (den G cal a τ S) fun x S1 => okk (den G cal b τ S1) fun y S2 => ∃ c, cmpO op x y S2 = some c ∧ P (.bl c) S2) : okk (den G cal (.cmp op a b) τ S) P :=
  .bind (h.imp fun x S1 q => .bind (q.imp fun y S2 ⟨c, e, q⟩ => .rof (a := .bl c) (by rw [e]; rfl) q))
theorem w_tup {es : List E} (h : okk (dens G cal es τ S) fun xs S1 => P (.tup xs) S1) : okk (den G cal (.tup es) τ S) P := .bind (h.imp fun _ _ q => .ok q)
theorem w_lst {es : List E} (h : okk (dens G cal es τ S) fun xs S1 => P (.lst xs) S1) : okk (den G cal (.lst false es) τ S) P := .bind (h.imp fun _ _ q => .ok q)
theorem w_lstT {es : List E} (h : okk (dens G cal es τ S) fun xs S1 => P (.ref S1.length) (S1 ++ [.lst xs])) : okk (den G cal (.lst true es) τ S) P := .bind (h.imp fun _ _ q => .ok q)
theorem w_dic0 {t : Bool} (k : P (.ref S.length) (S ++ [.dic t []])) : okk (den G cal (.dic t [] []) τ S) P := .ok k
theorem w_call {d : Nat} {es : List E} (h : okk (dens G cal es τ S) fun xs S1 => okk (cal d xs S1) P) : okk (den G cal (.call d es) τ S) P := .bind h
theorem w_pcall {d : Nat} {es : List E} (h : okk (dens G cal es τ S) fun xs S1 => A.pures xs = true ∧ ∃ v T, cal d xs [] = .ok v T ∧ v.pure = true ∧ P v S1) : okk (den G cal (.pcall d es) τ S) P :=
  .bind (h.imp fun xs S1 ⟨hp, v, T, e, hv, q⟩ => .of (by unfold pcal; rw [if_pos hp, e]; show (if v.pure = true then _ else _) = _; rw [if_pos hv]) q)
theorem w_bi {b : Bi} {es : List E} (h : okk (dens G cal es τ S) fun xs S1 => okk (biO b xs S1) P) : okk (den G cal (.bi b es) τ S) P := .bind h
theorem w_idx {a b : E} (h : okk (den G cal a τ S) fun x S1 => okk (den G cal b τ S1) fun y S2 => ∃ v, idxO S2 x y = some v ∧ P v S2) : okk (den G cal (.idx a b) τ S) P :=
  .bind (h.imp fun x S1 q => .bind (q.imp fun y S2 ⟨v, e, q⟩ => .rof e q))
theorem w_bm {m : Bm} {o : E} {es : List E} (h : okk (den G cal o τ S) fun x S1 => bmFit m S1 x = true ∧ okk (dens G cal es τ S1) fun xs S2 => okk (bmO m x xs S2) P) : okk (den G cal (.bm m o es) τ S) P :=
  .bind (h.imp fun x S1 ⟨e, q⟩ => by rw [if_pos e]; exact .bind q)
theorem w_isi {e : E} {t : Ty} (h : okk (den G cal e τ S) fun x S1 => ∃ c, tyO G.clss.length S1 x t = some c ∧ P (.bl c) S1) : okk (den G cal (.isi e t) τ S) P :=
  .bind (h.imp fun x S1 ⟨c, e, q⟩ => .rof (a := .bl c) (by rw [e]; rfl) q)
theorem w_frz {e : E} (h : okk (den G cal e τ S) fun x S1 => ∃ n xs, x = .ref n ∧ S1[n]? = some (.lst xs) ∧ P (.lst xs) (S1.set n .dead)) : okk (den G cal (.frz e) τ S) P :=
  .bind (h.imp fun x S1 ⟨n, xs, e, e1, q⟩ => by subst e; exact .of (by simp only [e1]) q)
theorem w_ifx {t a b : E} (h : okk (tst G cal t τ S) fun c S1 => (c = true → okk (den G cal a τ S1) P) ∧ (c = false → okk (den G cal b τ S1) P)) : okk (den G cal (.ifx t a b) τ S) P := by
  rw [den_ifx]
  refine .bind (h.imp fun c S1 q => ?_)
  cases c with
  | true => exact q.1 rfl
  | false => exact q.2 rfl
theorem w_nil (k : L [] S) : okk (dens G cal [] τ S) L := .ok k
theorem w_cons {e : E} {es : List E} (h : okk (den G cal e τ S) fun x S1 => okk (dens G cal es τ S1) fun xs S2 => L (x :: xs) S2) : okk (dens G cal (e :: es) τ S) L := .bind (h.imp fun _ _ q => .bind (q.imp fun _ _ z => .ok z))
theorem t_of {e : E} (h : okk (den G cal e τ S) fun x S1 => ∃ c, truO S1 x = some c ∧ B c S1) : okk (tst G cal e τ S) B := .bind (h.imp fun x S1 ⟨c, e, q⟩ => .rof e q)
theorem t_cmp {op : CmpOp} {a b : E} (h : okk (den G cal a τ S) fun x S1 => okk (den G cal b τ S1) fun y S2 => ∃ c, cmpO op x y S2 = some c ∧ B c S2) : okk (tst G cal (.cmp op a b) τ S) B :=
  t_of (w_cmp (h.imp fun _ _ q => q.imp fun _ _ ⟨c, e, z⟩ => ⟨c, e, c, rfl, z⟩))
theorem t_and {a b : E} (h : okk (tst G cal a τ S) fun c S1 => (c = true → okk (tst G cal b τ S1) B) ∧ (c = false → B false S1)) : okk (tst G cal (.and_ a b) τ S) B := by
  rw [tst_and]
  refine .bind (h.imp fun c S1 q => ?_)
  cases c with
  | true => exact q.1 rfl
  | false => exact .ok (q.2 rfl)
theorem t_or {a b : E} (h : okk (tst G cal a τ S) fun c S1 => (c = true → B true S1) ∧ (c = false → okk (tst G cal b τ S1) B)) : okk (tst G cal (.or_ a b) τ S) B := by
  rw [tst_or]
  refine .bind (h.imp fun c S1 q => ?_)
  cases c with
  | true => exact .ok (q.1 rfl)
  | false => exact q.2 rfl
theorem t_not {a : E} (h : okk (tst G cal a τ S) fun c S1 => B (!c) S1) : okk (tst G cal (.no_ a) τ S) B := by
  rw [tst_not]
  exact .bind (h.imp fun c S1 q => .ok q)
/-! ### statements -/
theorem s_nil (k : Z (.nx τ S)) : oks (denSs G cal [] τ S) Z := oks.iff.mpr k
theorem s_cons {s : Sm} {ss : List Sm} (h : oks (denS G cal s τ S) (nxt (fun τ1 S1 => oks (denSs G cal ss τ1 S1) Z) Z)) : oks (denSs G cal (s :: ss) τ S) Z := by
  refine oks.iff.mpr ?_
  show Z ((denS G cal s τ S).seq fun τ1 S1 => denSs G cal ss τ1 S1)
  have h : nxt (fun τ1 S1 => oks (denSs G cal ss τ1 S1) Z) Z (denS G cal s τ S) := oks.iff.mp h
  cases hd : denS G cal s τ S with
  | nx τ1 S1 => rw [hd] at h; exact oks.iff.mp h
  | _ => rw [hd] at h; exact h
theorem s_asg {t : T} {e : E} (h : okk (den G cal e τ S) fun a S1 => ∃ τ1, T.asg t a τ = some τ1 ∧ Z (.nx τ1 S1)) : oks (denS G cal (.asg (.t t) e) τ S) Z :=
  okk.go (h.imp fun a S1 ⟨τ1, e, q⟩ => oks.iff.mpr (by show Z _; rw [e]; exact q))
theorem s_sub {o i e : E} (h : okk (den G cal e τ S) fun a S1 => okk (den G cal o τ S1) fun x S2 => okk (den G cal i τ S2) fun y S3 => ∃ S4, setO x y a S3 = some S4 ∧ Z (.nx τ S4)) : oks (denS G cal (.asg (.sub o i) e) τ S) Z :=
  okk.go (h.imp fun a S1 q => okk.go (q.imp fun x S2 q => okk.go (q.imp fun y S3 ⟨S4, e, q⟩ => oks.iff.mpr (by show Z _; rw [e]; exact q))))
theorem s_ex {e : E} (h : okk (den G cal e τ S) fun _ S1 => Z (.nx τ S1)) : oks (denS G cal (.ex e) τ S) Z := okk.go (h.imp fun _ _ q => oks.iff.mpr q)
theorem s_ret {e : E} (h : okk (den G cal e τ S) fun a S1 => Z (.rt a S1)) : oks (denS G cal (.ret e) τ S) Z := okk.go (h.imp fun _ _ q => oks.iff.mpr q)
theorem s_ifs {c : E} {a b : List Sm} (h : okk (tst G cal c τ S) fun k S1 => (k = true → oks (denSs G cal a τ S1) Z) ∧ (k = false → oks (denSs G cal b τ S1) Z)) : oks (denS G cal (.ifs c a b) τ S) Z :=
  okk.go (h.imp fun k S1 q => by
    cases k with
    | true => exact q.1 rfl
    | false => exact q.2 rfl)
/-- what a turn of a loop must end by -/
def turn (inv : Tau → List O → Prop) (Z : SR → Prop) : SR → Prop
  | .nx τ S => inv τ S
  | .ct τ S => inv τ S
  | .bk τ S => Z (.nx τ S)
  | .rt a S => Z (.rt a S)
  | _ => False
theorem forD_ok {g : Gd} {asg : A → Tau → Option Tau} {body : Tau → List O → SR} (inv : Nat → Tau → List O → Prop) : ∀ (xs : List A) (j : Nat) (τ : Tau) (S : List O), inv j τ S →
    (∀ i x τ S, xs[i]? = some x → inv (j + i) τ S → g.ok S ∧ ∃ τ1, asg x τ = some τ1 ∧ oks (body τ1 S) (turn (inv (j + i + 1)) Z)) → (∀ τ S, inv (j + xs.length) τ S → g.ok S ∧ Z (.nx τ S)) → oks (forD g asg body xs τ S) Z
  | [], j, τ, S, h0, _, he => by
    obtain ⟨a, b⟩ := he τ S h0
    refine oks.iff.mpr ?_
    simp only [forD]; rw [if_pos a]; exact b
  | x :: xs, j, τ, S, h0, hs, he => by
    obtain ⟨gk, τ1, e1, e2⟩ := hs 0 x τ S rfl h0
    have q1 : ∀ i, j + 1 + i = j + (i + 1) := fun i => by omega
    have q2 : j + 1 + xs.length = j + (x :: xs).length := by simp; omega
    have e2 : turn (inv (j + 0 + 1)) Z (body τ1 S) := oks.iff.mp e2
    have ih := fun τ S (h : inv (j + 1) τ S) => forD_ok (g := g) (asg := asg) (body := body) inv xs (j + 1) τ S h (fun i y τ S hy hp => by
      rw [q1] at hp
      have := hs (i + 1) y τ S (by simpa using hy) hp
      rw [← q1] at this; exact this) (fun τ S hp => he τ S (by rw [← q2]; exact hp))
    refine oks.iff.mpr ?_
    simp only [forD]
    rw [if_pos gk, e1]
    dsimp only
    cases hb : body τ1 S with
    | nx τ2 S2 => rw [hb] at e2; exact oks.iff.mp (ih τ2 S2 e2)
    | ct τ2 S2 => rw [hb] at e2; exact oks.iff.mp (ih τ2 S2 e2)
    | bk τ2 S2 => rw [hb] at e2; exact e2
    | rt a S2 => rw [hb] at e2; exact e2
    | ex c fs τ2 S2 => rw [hb] at e2; exact e2.elim
    | no => rw [hb] at e2; exact e2.elim
theorem s_loop {t : T} {kk : IK} {src : List E} {b : List Sm} (inv : List A → Nat → Tau → List O → Prop) (h : okk (iD G cal kk src τ S) fun xg S1 => inv xg.1 0 τ S1 ∧
    (∀ i x τ S, xg.1[i]? = some x → inv xg.1 i τ S → xg.2.ok S ∧ ∃ τ1, T.asg t x τ = some τ1 ∧ oks (denSs G cal b τ1 S) (turn (inv xg.1 (i + 1)) Z)) ∧ (∀ τ S, inv xg.1 xg.1.length τ S → xg.2.ok S ∧ Z (.nx τ S))) : oks (denS G cal (.forr t kk src b) τ S) Z := by
  rw [denS_for]
  refine okk.go (h.imp ?_)
  rintro ⟨xs, g⟩ S1 ⟨h0, hs, he⟩
  refine forD_ok (inv xs) xs 0 _ S1 h0 (fun i x τ S hx hp => ?_) (fun τ S hp => ?_)
  · rw [Nat.zero_add] at hp ⊢; exact hs i x τ S hx hp
  · rw [Nat.zero_add] at hp; exact he τ S hp
theorem lcD_ok {g : Gd} {asg : A → Tau → Option Tau} {cond : Tau → List O → R Bool} {elt : Tau → List O → R A} {τ : Tau} (inv : Nat → List A → List O → Prop) : ∀ (xs : List A) (j : Nat) (acc : List A) (S : List O), inv j acc S →
    (∀ i x acc S, xs[i]? = some x → inv (j + i) acc S → g.ok S ∧ ∃ τ1, asg x τ = some τ1 ∧ okk (cond τ1 S) fun b S1 => (b = true → okk (elt τ1 S1) fun y S2 => inv (j + i + 1) (acc ++ [y]) S2) ∧ (b = false → inv (j + i + 1) acc S1)) →
    (∀ acc S, inv (j + xs.length) acc S → g.ok S ∧ L acc S) → okk (lcD g asg cond elt τ acc xs S) L
  | [], j, acc, S, h0, _, he => by
    obtain ⟨a, b⟩ := he acc S h0
    exact .of (a := acc) (S := S) (by simp only [lcD]; rw [if_pos a]) b
  | x :: xs, j, acc, S, h0, hs, he => by
    obtain ⟨gk, τ1, e1, hc⟩ := hs 0 x acc S rfl h0
    obtain ⟨b, S1, e2, hb⟩ := okk.iff.mp hc
    have q1 : ∀ i, j + 1 + i = j + (i + 1) := fun i => by omega
    have q2 : j + 1 + xs.length = j + (x :: xs).length := by simp; omega
    have ih := fun acc S (h : inv (j + 1) acc S) => lcD_ok (g := g) (asg := asg) (cond := cond) (elt := elt) (τ := τ) inv xs (j + 1) acc S h (fun i y acc S hy hp => by
      rw [q1] at hp
      have := hs (i + 1) y acc S (by simpa using hy) hp
      rw [← q1] at this; exact this) (fun acc S hp => he acc S (by rw [← q2]; exact hp))
    cases b with
    | true =>
      obtain ⟨y, S2, e3, h3⟩ := okk.iff.mp (hb.1 rfl)
      obtain ⟨a, S3, e4, h4⟩ := okk.iff.mp (ih _ _ h3)
      refine .of (a := a) (S := S3) ?_ h4
      simp only [lcD]; rw [if_pos gk, e1]; simp only [e2, e3]; exact e4
    | false =>
      obtain ⟨a, S3, e4, h4⟩ := okk.iff.mp (ih _ _ (hb.2 rfl))
      refine .of (a := a) (S := S3) ?_ h4
      simp only [lcD]; rw [if_pos gk, e1]; simp only [e2]; exact e4
theorem w_lc {fl : Bool} {elt : E} {t : T} {kk : IK} {src ifs : List E} {own : List (Str × Nat)} (inv : List A → Nat → List A → List O → Prop) (h : okk (iD G cal kk src τ S) fun xg S1 => xg.1.length ≤ sizeLine ∧ inv xg.1 0 [] S1 ∧
    (∀ i x acc S, xg.1[i]? = some x → inv xg.1 i acc S → xg.2.ok S ∧ ∃ τ1, T.asg t x (wipeT τ (own.map (·.2))) = some τ1 ∧ okk (condD G cal ifs τ1 S) fun b S1 => (b = true → okk (den G cal elt τ1 S1) fun y S2 => inv xg.1 (i + 1) (acc ++ [y]) S2) ∧ (b = false → inv xg.1 (i + 1) acc S1)) ∧
    (∀ acc S, inv xg.1 xg.1.length acc S → xg.2.ok S ∧ okk (mkL fl acc S) P)) : okk (den G cal (.lc fl elt t kk src ifs own) τ S) P := by
  rw [den_lc]
  refine .bind (h.imp ?_)
  rintro ⟨xs, g⟩ S1 ⟨hl, h0, hs, he⟩
  dsimp only at hl ⊢
  rw [if_pos hl]
  refine .bind (lcD_ok (inv xs) xs 0 [] S1 h0 (fun i x acc S hx hp => ?_) (fun acc S hp => ?_))
  · rw [Nat.zero_add] at hp ⊢; exact hs i x acc S hx hp
  · rw [Nat.zero_add] at hp; exact he acc S hp
theorem i_seq {e : E} {X : List A × Gd → List O → Prop} (h : okk (den G cal e τ S) fun a S1 => ∃ xs, seqO S1 a = some xs ∧ X (xs, gdA a xs) S1) : okk (iD G cal .seq [e] τ S) X := by
  rw [iD_one]
  refine .bind (h.imp fun a S1 ⟨xs, e, q⟩ => .rof ?_ q)
  simp only [srcO, e, Option.map_some]
theorem i_rng {e : E} {X : List A × Gd → List O → Prop} (h : okk (den G cal e τ S) fun a S1 => ∃ n : Nat, a = .int (n : Int) ∧ n ≤ 1000000 ∧ X (rngA 0 n, []) S1) : okk (iD G cal .rng [e] τ S) X := by
  rw [iD_one]
  refine .bind (h.imp fun a S1 ⟨n, e, hn, q⟩ => .rof ?_ q)
  subst e
  exact srcO_rng hn S1
theorem c_nil (k : B true S) : okk (condD G cal [] τ S) B := .ok k
theorem c_one {e : E} (h : okk (tst G cal e τ S) B) : okk (condD G cal [e] τ S) B := by
  rw [condD_one]; exact h
theorem run_ok {fd : Fd} {as : List A} (hl : as.length = fd.np) (h : oks (denSs G cal fd.body (as.map some ++ List.replicate (fd.nl - fd.np) none) S) fun r => match r with | .rt a S1 => P a S1 | .nx _ S1 => P .non S1 | _ => False) : okk (runF G cal fd as S) P := by
  have h : (fun r : SR => match r with | .rt a S1 => P a S1 | .nx _ S1 => P .non S1 | _ => False) (denSs G cal fd.body (as.map some ++ List.replicate (fd.nl - fd.np) none) S) := oks.iff.mp h
  unfold runF
  rw [if_pos hl]
  revert h
  cases denSs G cal fd.body (as.map some ++ List.replicate (fd.nl - fd.np) none) S with
  | rt a S1 => exact fun h => .ok h
  | nx τ S1 => exact fun h => .ok h
  | _ => exact fun h => h.elim
end
theorem beq_dec {α : Type} [BEq α] [LawfulBEq α] [DecidableEq α] (a b : α) : (a == b) = decide (a = b) := by
  by_cases h : a = b
  · subst h; simp
  · rw [decide_eq_false h]; exact beq_eq_false_iff_ne.mpr h
theorem eqO_int {a b : Int} {S : List O} : eqO S (.int a) (.int b) = some (decide (a = b)) := by
  rw [← beq_dec]
  simp only [eqO, fitsEq, der, A.pure, A.depth, A.eqv]; rfl
theorem eqO_str {a b : List Nat} {S : List O} : eqO S (.str a) (.str b) = some (decide (a = b)) := by
  rw [← beq_dec]
  simp only [eqO, fitsEq, der, A.pure, A.depth, A.eqv]; rfl
theorem eq_int {a b : Int} {S : List O} : cmpO .Eq (.int a) (.int b) S = some (decide (a = b)) := eqO_int
theorem eq_str {a b : List Nat} {S : List O} : cmpO .Eq (.str a) (.str b) S = some (decide (a = b)) := eqO_str
theorem ne_int {a b : Int} {S : List O} : cmpO .NotEq (.int a) (.int b) S = some (!decide (a = b)) := by
  simp only [cmpO, eqO_int, Option.map_some]
theorem ne_str {a b : List Nat} {S : List O} : cmpO .NotEq (.str a) (.str b) S = some (!decide (a = b)) := by
  simp only [cmpO, eqO_str, Option.map_some]
theorem w_dic {t : Bool} {k0 : E} {ks vs : List E} {G : Gt} {cal : Cal} {τ : Tau} {S : List O} {P : A → List O → Prop} (h : okk (dens G cal vs τ S) fun xs S1 => ∃ keys, keysC (k0 :: ks) = some keys ∧ keys.length ≤ 15 ∧ keys.length = xs.length ∧ P (.ref S1.length) (S1 ++ [.dic false (mergeO (keys.zip xs))])) : okk (den G cal (.dic t (k0 :: ks) vs) τ S) P :=
  .bind (h.imp fun xs S1 ⟨keys, e, h1, h2, q⟩ => by rw [e]; dsimp only; rw [if_pos ⟨h1, h2⟩]; exact .ok q)
theorem pool_app {S : List O} {n : Nat} (h : Pool S n) (T : List O) : Pool (S ++ T) n := by
  obtain ⟨a, b, h, h'⟩ := h
  exact ⟨a, b, by rw [List.getElem?_append_left (List.getElem?_eq_some_iff.mp h).1]; exact h, h'⟩
theorem ext_app (n : Nat) (S T : List O) : Ext n S (S ++ T) := ⟨by simp, fun j _ hl => List.getElem?_append_left hl⟩
theorem and_ff {X Y : Prop} (h : Y) : (false = true → X) ∧ (false = false → Y) := ⟨fun z => (by cases z), fun _ => h⟩
theorem and_tt {X Y : Prop} (h : X) : (true = true → X) ∧ (true = false → Y) := ⟨fun _ => h, fun z => (by cases z)⟩
theorem at_mem {α : Type} (l : List α) (d : Int) (h0 : 0 ≤ d) (h1 : d < l.length) : ∃ c, atI l d = some c ∧ c ∈ l := by
  unfold atI ixN
  rw [if_pos h0, if_pos h1]
  exact ⟨_, List.getElem?_eq_getElem (by omega : d.toNat < l.length), List.getElem_mem _⟩
/-- one of a list's -/
theorem pick {xs : List A} {d : Int} {S : List O} {Q : A → Prop} (h0 : 0 ≤ d) (h1 : d < xs.length) (h : ∀ v, v ∈ xs → Q v) : ∃ v, idxO S (.lst xs) (.int d) = some v ∧ Q v := by
  obtain ⟨c, e, m⟩ := at_mem xs d h0 h1
  exact ⟨c, by simpa [idxO, seqO] using e, h c m⟩
theorem w_nmE {i : Nat} {G : Gt} {cal : Cal} {τ : Tau} {S : List O} {P : A → List O → Prop} (h : ∃ a, τ[i]? = some (some a) ∧ P a S) : okk (den G cal (.nm i) τ S) P := by
  obtain ⟨a, e, q⟩ := h
  exact w_nm e q
theorem p_bi {b : Bi} {xs : List A} {S : List O} {P : A → List O → Prop} (h : ∃ a S', biO b xs S = .ok a S' ∧ P a S') : okk (biO b xs S) P := okk.iff.mpr h
theorem p_bin {op : Operator} {fl : Bool} {x y : A} {S : List O} {P : A → List O → Prop} (h : ∃ a S', binO op fl x y S = .ok a S' ∧ P a S') : okk (binO op fl x y S) P := okk.iff.mpr h
theorem p_bm {m : Bm} {x : A} {xs : List A} {S : List O} {P : A → List O → Prop} (h : ∃ a S', bmO m x xs S = .ok a S' ∧ P a S') : okk (bmO m x xs S) P := okk.iff.mpr h
theorem p_mk {fl : Bool} {xs : List A} {S : List O} {P : A → List O → Prop} (h : ∃ a S', mkL fl xs S = .ok a S' ∧ P a S') : okk (mkL fl xs S) P := okk.iff.mpr h
end Lt
namespace Lt
open PySem L2
section
variable {G : Gt} {cal : Cal} {τ : Tau} {S : List O} {Z : SR → Prop}
theorem whl_ok {c : Tau → List O → R Bool} {body : Tau → List O → SR} (inv : Nat → Tau → List O → Prop) (hs : ∀ r τ S, inv r τ S → okk (c τ S) fun b S1 => (b = true → ∃ r', r' < r ∧ oks (body τ S1) (turn (inv r') Z)) ∧ (b = false → Z (.nx τ S1))) :
    ∀ (n r : Nat) (τ : Tau) (S : List O), r < n → inv r τ S → oks (whlD c body n τ S) Z
  | 0, r, τ, S, h, _ => by omega
  | n + 1, r, τ, S, h, hi => by
    unfold whlD
    refine okk.go ((hs r τ S hi).imp fun b S1 q => ?_)
    cases b with
    | false => exact (by unfold oks; exact q.2 rfl)
    | true =>
      obtain ⟨r', hr, h2⟩ := q.1 rfl
      have ih := fun τ S (h : inv r' τ S) => whl_ok inv hs n r' τ S (by omega) h
      unfold oks at h2 ih ⊢
      rw [if_pos rfl]
      cases hb : body τ S1 with
      | nx τ2 S2 => rw [hb] at h2; exact ih τ2 S2 h2
      | ct τ2 S2 => rw [hb] at h2; exact ih τ2 S2 h2
      | bk τ2 S2 => rw [hb] at h2; exact h2
      | rt a S2 => rw [hb] at h2; exact h2
      | ex c fs τ2 S2 => rw [hb] at h2; exact h2.elim
      | no => rw [hb] at h2; exact h2.elim
theorem s_while {n : Nat} {c : E} {b : List Sm} (inv : Nat → Tau → List O → Prop) (r : Nat) (h : r < n) (h0 : inv r τ S) (hs : ∀ r τ S, inv r τ S → okk (tst G cal c τ S) fun k S1 => (k = true → ∃ r', r' < r ∧ oks (denSs G cal b τ S1) (turn (inv r') Z)) ∧ (k = false → Z (.nx τ S1))) : oks (denS G cal (.whl n c b) τ S) Z := whl_ok inv hs n r τ S h h0
end
end Lt
/-! more rules, read from behind -/
namespace Lt
open PySem L2
section
variable {G : Gt} {cal : Cal} {τ : Tau} {S : List O} {P : A → List O → Prop} {B : Bool → List O → Prop} {L : List A → List O → Prop} {Z : SR → Prop}
theorem w_sl {fl : Bool} {a : E} {lo hi : List E} (h : okk (den G cal a τ S) fun x S1 => okk (dens G cal lo τ S1) fun ls S2 => ∃ l, partO ls = some l ∧ okk (dens G cal hi τ S2) fun hs S3 => ∃ r, partO hs = some r ∧ okk (slO fl x l r S3) P) : okk (den G cal (.sl fl a lo hi) τ S) P :=
  .bind (h.imp fun x S1 q => .bind (q.imp fun ls S2 ⟨l, e, q⟩ => by
    rw [e]; exact .bind (q.imp fun hs S3 ⟨r, e, q⟩ => by rw [e]; exact q)))
theorem p_sl {fl : Bool} {a : A} {lo hi : Option Int} (h : ∃ x S', slO fl a lo hi S = .ok x S' ∧ P x S') : okk (slO fl a lo hi S) P := by
  obtain ⟨x, S', e, q⟩ := h
  exact .of e q
theorem w_and {a b : E} (h : okk (den G cal a τ S) fun x S1 => ∃ c, truO S1 x = some c ∧ (c = true → okk (den G cal b τ S1) P) ∧ (c = false → P x S1)) : okk (den G cal (.and_ a b) τ S) P :=
  .bind (h.imp fun x S1 ⟨c, e, q⟩ => by
    rw [e]
    cases c with
    | true => exact q.1 rfl
    | false => exact .ok (q.2 rfl))
theorem w_or {a b : E} (h : okk (den G cal a τ S) fun x S1 => ∃ c, truO S1 x = some c ∧ (c = true → P x S1) ∧ (c = false → okk (den G cal b τ S1) P)) : okk (den G cal (.or_ a b) τ S) P :=
  .bind (h.imp fun x S1 ⟨c, e, q⟩ => by
    rw [e]
    cases c with
    | true => exact .ok (q.1 rfl)
    | false => exact q.2 rfl)
theorem w_kcall {n : Nat} {es ws : List E} {kc : Kc} (e : G.kwc[n]? = some kc) (h : okk (dens G cal es τ S) fun xs S1 => okk (dens G cal ws τ S1) fun zs S2 => okk (cal kc.d (kc.fill .non xs zs) S2) P) : okk (den G cal (.kcall n es ws) τ S) P :=
  .bind (h.imp fun xs S1 q => .bind (q.imp fun zs S2 q => by rw [e]; exact q))
theorem s_retN (k : Z (.rt .non S)) : oks (denS G cal .retN τ S) Z := by unfold oks; simpa only [denS] using k
theorem s_pass (k : Z (.nx τ S)) : oks (denS G cal .pass τ S) Z := by unfold oks; simpa only [denS] using k
theorem s_brk (k : Z (.bk τ S)) : oks (denS G cal .brk τ S) Z := by unfold oks; simpa only [denS] using k
theorem s_cont (k : Z (.ct τ S)) : oks (denS G cal .cont τ S) Z := by unfold oks; simpa only [denS] using k
end
end Lt
/-! iterations over texts, zip, enumerate; dict comprehensions; module dicts, read from behind -/
namespace Lt
open PySem L2
section
variable {G : Gt} {cal : Cal} {τ : Tau} {S : List O} {P : A → List O → Prop}
theorem i_many {kk : IK} {es : List E} {X : List A × Gd → List O → Prop} (h : okk (dens G cal es τ S) fun vs S1 => ∃ xg, srcO kk vs S1 = some xg ∧ X xg S1) : okk (iD G cal kk es τ S) X :=
  .bind (h.imp fun vs S1 ⟨xg, e, q⟩ => .rof e q)
theorem i_sgn {e : E} {X : List A × Gd → List O → Prop} (h : okk (den G cal e τ S) fun a S1 => ∃ x, a = .str x ∧ X (x.map fun c => .str [c], []) S1) : okk (iD G cal .sgn [e] τ S) X :=
  i_many (w_cons (h.imp fun a S1 ⟨x, e, q⟩ => w_nil ⟨_, by rw [e]; rfl, q⟩))
theorem i_enum {e : E} {X : List A × Gd → List O → Prop} (h : okk (den G cal e τ S) fun a S1 => ∃ xs, zipO S1 a = some xs ∧ X (enumA 0 xs, gdA a xs) S1) : okk (iD G cal .enum [e] τ S) X :=
  i_many (w_cons (h.imp fun a S1 ⟨x, e, q⟩ => w_nil ⟨_, by simp only [srcO, e, Option.map_some], q⟩))
theorem i_zip {a b : E} {X : List A × Gd → List O → Prop} (h : okk (den G cal a τ S) fun x S1 => okk (den G cal b τ S1) fun y S2 => ∃ xs ys, zipO S2 x = some xs ∧ zipO S2 y = some ys ∧ X (zipA xs ys, gdA x xs ++ gdA y ys) S2) : okk (iD G cal .zip [a, b] τ S) X :=
  i_many (w_cons (h.imp fun x S1 q => w_cons (q.imp fun y S2 ⟨xs, ys, e1, e2, q⟩ => w_nil ⟨_, by simp only [srcO, e1, e2], q⟩)))
theorem w_tab {x : Str} {e : E} (h : okk (den G cal e τ S) fun a S1 => ∃ z v, a = .str z ∧ ((G.tabs.lookup x).bind fun kvs => kvs.lookup z) = some v ∧ P v S1) : okk (den G cal (.tab x e) τ S) P :=
  .bind (h.imp fun a S1 ⟨z, v, e, e1, q⟩ => by subst e; exact .rof e1 q)
theorem w_tabIn {neg : Bool} {x : Str} {e : E} (h : okk (den G cal e τ S) fun a S1 => ∃ z kvs, a = .str z ∧ G.tabs.lookup x = some kvs ∧ P (.bl (neg != (kvs.lookup z).isSome)) S1) : okk (den G cal (.tabIn neg x e) τ S) P :=
  .bind (h.imp fun a S1 ⟨z, kvs, e, e1, q⟩ => by subst e; exact .rof (by rw [e1]; rfl) q)
theorem kvD_ok {ke ve : E} {Q : A × A → List O → Prop} (h : okk (den G cal ke τ S) fun a S1 => okk (den G cal ve τ S1) fun b S2 => Q (a, b) S2) : okk (kvD G cal ke ve τ S) Q :=
  .bind (h.imp fun a S1 q => .bind (q.imp fun b S2 q => .ok q))
theorem dcD_ok {g : Gd} {asg : A → Tau → Option Tau} {cond : Tau → List O → R Bool} {elt : Tau → List O → R (A × A)} {L : List (A × A) → List O → Prop} (inv : Nat → List (A × A) → List O → Prop) : ∀ (xs : List A) (j : Nat) (acc : List (A × A)) (S : List O), inv j acc S →
    (∀ i x acc S, xs[i]? = some x → inv (j + i) acc S → g.ok S ∧ ∃ τ1, asg x τ = some τ1 ∧ okk (cond τ1 S) fun b S1 => (b = true → okk (elt τ1 S1) fun y S2 => (keyOf y.1).isSome = true ∧ inv (j + i + 1) (putO acc y.1 y.2) S2) ∧ (b = false → inv (j + i + 1) acc S1)) →
    (∀ acc S, inv (j + xs.length) acc S → g.ok S ∧ L acc S) → okk (dcD g asg cond elt τ acc xs S) L
  | [], j, acc, S, h0, _, he => by
    obtain ⟨a, b⟩ := he acc S h0
    exact .of (a := acc) (S := S) (by simp only [dcD]; rw [if_pos a]) b
  | x :: xs, j, acc, S, h0, hs, he => by
    obtain ⟨gk, τ1, e1, hc⟩ := hs 0 x acc S rfl h0
    obtain ⟨b, S1, e2, hb⟩ := okk.iff.mp hc
    have q1 : ∀ i, j + 1 + i = j + (i + 1) := fun i => by omega
    have q2 : j + 1 + xs.length = j + (x :: xs).length := by simp; omega
    have ih := fun acc S (h : inv (j + 1) acc S) => dcD_ok (g := g) (asg := asg) (cond := cond) (elt := elt) inv xs (j + 1) acc S h (fun i y acc S hy hp => by
      rw [q1] at hp
      have := hs (i + 1) y acc S (by simpa using hy) hp
      rw [← q1] at this; exact this) (fun acc S hp => he acc S (by rw [← q2]; exact hp))
    cases b with
    | true =>
      obtain ⟨y, S2, e3, hk, h3⟩ := okk.iff.mp (hb.1 rfl)
      obtain ⟨a, S3, e4, h4⟩ := okk.iff.mp (ih _ _ h3)
      refine .of (a := a) (S := S3) ?_ h4
      simp only [dcD]; rw [if_pos gk, e1]; simp only [e2, e3]; rw [if_pos hk]; exact e4
    | false =>
      obtain ⟨a, S3, e4, h4⟩ := okk.iff.mp (ih _ _ (hb.2 rfl))
      refine .of (a := a) (S := S3) ?_ h4
      simp only [dcD]; rw [if_pos gk, e1]; simp only [e2]; exact e4
theorem w_dc {ke ve : E} {t : T} {kk : IK} {src ifs : List E} {own : List (Str × Nat)} (inv : List A → Nat → List (A × A) → List O → Prop) (h : okk (iD G cal kk src τ S) fun xg S1 => xg.1.length ≤ 1000000 ∧ inv xg.1 0 [] S1 ∧
    (∀ i x acc S, xg.1[i]? = some x → inv xg.1 i acc S → xg.2.ok S ∧ ∃ τ1, T.asg t x (wipeT τ (own.map (·.2))) = some τ1 ∧ okk (condD G cal ifs τ1 S) fun b S1 => (b = true → okk (den G cal ke τ1 S1) fun a S2 => okk (den G cal ve τ1 S2) fun v S3 => (keyOf a).isSome = true ∧ inv xg.1 (i + 1) (putO acc a v) S3) ∧ (b = false → inv xg.1 (i + 1) acc S1)) ∧
    (∀ acc S, inv xg.1 xg.1.length acc S → xg.2.ok S ∧ P (.ref S.length) (S ++ [.dic false acc]))) : okk (den G cal (.dc ke ve t kk src ifs own) τ S) P := by
  rw [den_dc]
  refine .bind (h.imp ?_)
  rintro ⟨xs, g⟩ S1 ⟨hl, h0, hs, he⟩
  dsimp only at hl ⊢
  rw [if_pos hl]
  refine .bind (dcD_ok (inv xs) xs 0 [] S1 h0 (fun i x acc S hx hp => ?_) (fun acc S hp => ?_))
  · rw [Nat.zero_add] at hp ⊢
    obtain ⟨a, τ1, b, c⟩ := hs i x acc S hx hp
    exact ⟨a, τ1, b, c.imp fun b S1 q => ⟨fun hb => kvD_ok (q.1 hb), q.2⟩⟩
  · rw [Nat.zero_add] at hp
    obtain ⟨a, b⟩ := he acc S hp
    exact ⟨a, .ok b⟩
end
end Lt
/-! walked dicts, len of own instances, values, read from behind -/
namespace Lt
open PySem L2
section
variable {G : Gt} {cal : Cal} {τ : Tau} {S : List O} {P : A → List O → Prop}
theorem w_lk {o e : E} (h : okk (den G cal o τ S) fun x _ => ∃ n t kvs, x = .ref n ∧ S[n]? = some (.dic t kvs) ∧ okk (den G cal e τ (S.set n (.fdic t kvs))) fun a S2 => ∃ t' kvs', S2[n]? = some (.fdic t' kvs') ∧ P a (S2.set n (.dic t' kvs'))) : okk (den G cal (.lk o e) τ S) P := by
  obtain ⟨x, S1, e1, n, t, kvs, rfl, hS, h⟩ := okk.iff.mp h
  obtain ⟨a, S2, e2, t', kvs', h2, p⟩ := okk.iff.mp h
  exact .of (a := a) (by simp only [den, lkO, e1, hS, e2, R.unlk, unlk, h2]) p
theorem s_lk {o : E} {s : Sm} {Z : SR → Prop} (h : okk (den G cal o τ S) fun x _ => ∃ n t kvs, x = .ref n ∧ S[n]? = some (.dic t kvs) ∧ oks (denS G cal s τ (S.set n (.fdic t kvs))) fun r => Z (r.unlk n)) : oks (denS G cal (.lk o s) τ S) Z := by
  obtain ⟨x, S1, e1, n, t, kvs, rfl, hS, h⟩ := okk.iff.mp h
  refine oks.iff.mpr ?_
  have := oks.iff.mp h
  simp only [denS, lkO, e1, hS]
  exact this
theorem w_lenO {o : E} (h : okk (den G cal o τ S) fun x S1 => ∃ n c fs ci d, x = .ref n ∧ S1[n]? = some (.ins c fs) ∧ fs.lookup ("__len__" : Str) = none ∧ G.cls c = some ci ∧ ci.meths.lookup ("__len__" : Str) = some d ∧
    okk (cal d [.ref n] S1) fun v S2 => ∃ i : Int, v = .int i ∧ 0 ≤ i ∧ i < 2 ^ 63 ∧ P (.int i) S2) : okk (den G cal (.lenO o) τ S) P := by
  obtain ⟨x, S1, e1, n, c, fs, ci, d, rfl, h1, h2, h3, h4, h⟩ := okk.iff.mp h
  obtain ⟨v, S2, e2, i, rfl, k1, k2, p⟩ := okk.iff.mp h
  refine .of (a := .int i) (S := S2) ?_ p
  simp only [den, e1, R.bind_ok, h1, h2, h3, h4, e2, lenChk, if_true, if_pos (And.intro k1 k2)]
theorem w_lsv {fl : Bool} {o : E} (h : okk (den G cal o τ S) fun x S1 => ∃ kvs, dicO S1 x = some (false, kvs) ∧ okk (mkL fl (kvs.map (·.2)) S1) P) : okk (den G cal (.lsv fl o) τ S) P :=
  .bind (h.imp fun x S1 ⟨kvs, e, q⟩ => by rw [e]; exact q)
theorem w_lsi {o : E} (h : okk (den G cal o τ S) fun x S1 => ∃ kvs, dicO S1 x = some (false, kvs) ∧ P (.lst (kvs.map fun p => .tup [p.1, p.2])) S1) : okk (den G cal (.lsi o) τ S) P :=
  .bind (h.imp fun x S1 ⟨kvs, e, q⟩ => by rw [e]; exact .ok q)
theorem w_tabGet {y : Str} {e d : E} (h : okk (den G cal e τ S) fun x S1 => okk (den G cal d τ S1) fun z S2 => ∃ k kvs, x = .str k ∧ G.tabs.lookup y = some kvs ∧ P ((kvs.lookup k).getD z) S2) : okk (den G cal (.tabGet y e d) τ S) P :=
  .bind (h.imp fun x S1 q => .bind (q.imp fun z S2 ⟨k, kvs, e, e1, q2⟩ => by
    subst e
    show okk (R.of ((G.tabs.lookup y).map fun kvs => (kvs.lookup k).getD z) S2) P
    rw [e1]
    exact .ok q2))
theorem i_dic {kk : IK} {e : E} {X : List A × Gd → List O → Prop} (f : List (A × A) → List A) (hf : ∀ (a : A) (S : List O), srcO kk [a] S = (fdicO S a).map fun kvs => (f kvs, [])) (h : okk (den G cal e τ S) fun a S1 => ∃ kvs, fdicO S1 a = some kvs ∧ X (f kvs, []) S1) : okk (iD G cal kk [e] τ S) X :=
  i_many (w_cons (h.imp fun a S1 ⟨x, e, q⟩ => w_nil ⟨_, by rw [hf, e]; rfl, q⟩))
theorem i_keys {e : E} {X : List A × Gd → List O → Prop} (h : okk (den G cal e τ S) fun a S1 => ∃ kvs, fdicO S1 a = some kvs ∧ X (kvs.map (·.1), []) S1) : okk (iD G cal .keys [e] τ S) X := i_dic _ (fun _ _ => rfl) h
theorem i_vals {e : E} {X : List A × Gd → List O → Prop} (h : okk (den G cal e τ S) fun a S1 => ∃ kvs, fdicO S1 a = some kvs ∧ X (kvs.map (·.2), []) S1) : okk (iD G cal .vals [e] τ S) X := i_dic _ (fun _ _ => rfl) h
theorem i_items {e : E} {X : List A × Gd → List O → Prop} (h : okk (den G cal e τ S) fun a S1 => ∃ kvs, fdicO S1 a = some kvs ∧ X (kvs.map fun p => .tup [p.1, p.2], []) S1) : okk (iD G cal .items [e] τ S) X := i_dic _ (fun _ _ => rfl) h
end
end Lt
/-! own classes, read from behind -/
namespace Lt
open PySem L2
section
variable {G : Gt} {cal : Cal} {τ : Tau} {S : List O} {P : A → List O → Prop}
theorem w_fld {o : E} {f : Str} (h : okk (den G cal o τ S) fun x S1 => ∃ n c fs ci v, x = .ref n ∧ S1[n]? = some (.ins c fs) ∧ G.cls c = some ci ∧ ci.fields.contains f = true ∧ fs.lookup f = some v ∧ P v S1) : okk (den G cal (.fld o f) τ S) P := by
  obtain ⟨x, S1, e1, n, c, fs, ci, v, rfl, h1, h2, h3, h4, p⟩ := okk.iff.mp h
  refine .of (a := v) (S := S1) ?_ p
  simp only [den, e1, R.bind_ok, h1, h2, h3, h4, if_true, R.of_some]
theorem w_mth {o : E} {m : Str} {es : List E} (h : okk (den G cal o τ S) fun x S1 => ∃ n c fs ci d, x = .ref n ∧ S1[n]? = some (.ins c fs) ∧ fs.lookup m = none ∧ G.cls c = some ci ∧ ci.meths.lookup m = some d ∧
    okk (dens G cal es τ S1) fun xs S2 => okk (cal d (.ref n :: xs) S2) P) : okk (den G cal (.mth m o es) τ S) P := by
  obtain ⟨x, S1, e1, n, c, fs, ci, d, rfl, h1, h2, h3, h4, h⟩ := okk.iff.mp h
  obtain ⟨xs, S2, e2, h⟩ := okk.iff.mp h
  obtain ⟨v, S3, e3, p⟩ := okk.iff.mp h
  refine .of (a := v) (S := S3) ?_ p
  simp only [den, e1, R.bind_ok, h1, h2, h3, h4, if_true, e2, e3]
theorem w_mk {c : Nat} {es : List E} (h : okk (dens G cal es τ S) fun xs S1 => ∃ nm d ms fl, G.cls c = some ⟨nm, some d, ms, fl⟩ ∧ okk (cal d (.ref S1.length :: xs) (S1 ++ [.ins c []])) fun v S2 => v = .non ∧ P (.ref S1.length) S2) : okk (den G cal (.mk c es) τ S) P := by
  obtain ⟨xs, S1, e1, nm, d, ms, fl, h2, h⟩ := okk.iff.mp h
  obtain ⟨v, S2, e3, rfl, p⟩ := okk.iff.mp h
  refine .of (a := .ref S1.length) (S := S2) ?_ p
  simp only [den, e1, R.bind_ok, h2, e3]
theorem s_fld {o e : E} {f : Str} {Z : SR → Prop} (h : okk (den G cal e τ S) fun a S1 => okk (den G cal o τ S1) fun x S2 => ∃ S3, fldO G x f a S2 = some S3 ∧ Z (.nx τ S3)) : oks (denS G cal (.asg (.fld o f) e) τ S) Z :=
  okk.go (h.imp fun a S1 q => okk.go (q.imp fun x S2 ⟨S3, e, q⟩ => oks.iff.mpr (by show Z _; rw [e]; exact q)))
theorem fldO_at {n c : Nat} {fs : List (Str × A)} {ci : Ci} {f : Str} {v : A} (h1 : S[n]? = some (.ins c fs)) (h2 : G.cls c = some ci) (h3 : ci.fields.contains f = true) (h4 : fs.length < 1000) : fldO G (.ref n) f v S = some (S.set n (.ins c (putF f v fs))) := by
  simp only [fldO, h1, h2, h3, h4, true_and, if_true]
/-- a call that answers so -/
theorem ok_at {α : Type} {r : R α} {a : α} {S : List O} {P : α → List O → Prop} (h : r = .ok a S) (k : P a S) : okk r P := .of h k
theorem idx_dic {n : Nat} {kvs : List (A × A)} {k v : A} (h : S[n]? = some (.dic false kvs)) (hk : (keyOf k).isSome = true) (e : valO kvs k = some v) : idxO S (.ref n) k = some v := by
  unfold idxO
  cases k <;> simp [seqO, h, dicR, fitKey, hk, e]
theorem idx_lst {n : Nat} {xs : List A} {i : Nat} {v : A} (h : S[n]? = some (.lst xs)) (e : xs[i]? = some v) : idxO S (.ref n) (.int (i : Int)) = some v := by
  rw [idx_ref h]
  have hq := (List.getElem?_eq_some_iff.mp e).1
  unfold atI ixN
  rw [if_pos (by omega), if_pos (by omega)]
  simpa using e
theorem idx_tup {xs : List A} {i : Nat} {v : A} (e : xs[i]? = some v) : idxO S (.tup xs) (.int (i : Int)) = some v := by
  have hq := (List.getElem?_eq_some_iff.mp e).1
  have : atI xs (i : Int) = some v := by
    unfold atI ixN
    rw [if_pos (by omega), if_pos (by omega)]
    simpa using e
  unfold idxO
  simp only [seqO]
  exact this
theorem idx_val {xs : List A} {i : Nat} {v : A} (e : xs[i]? = some v) : idxO S (.lst xs) (.int (i : Int)) = some v := by
  have hq := (List.getElem?_eq_some_iff.mp e).1
  have : atI xs (i : Int) = some v := by
    unfold atI ixN
    rw [if_pos (by omega), if_pos (by omega)]
    simpa using e
  unfold idxO
  simp only [seqO]
  exact this
theorem len_ref {n : Nat} {xs : List A} (h : S[n]? = some (.lst xs)) : lenO S (.ref n) = some xs.length := by
  simp [lenO, seqO, h]
end
end Lt
/-! own ==, repr, bool; insert, extend: steps -/
namespace Lt
open PySem L2
section
variable {G : Gt} {cal : Cal} {τ : Tau} {S : List O} {P : A → List O → Prop}
theorem w_rpI {o : E} (h : okk (den G cal o τ S) fun x S1 => ∃ n c fs ci d, x = .ref n ∧ S1[n]? = some (.ins c fs) ∧ fs.lookup ("__repr__" : Str) = none ∧ G.cls c = some ci ∧ ci.meths.lookup ("__repr__" : Str) = some d ∧
    okk (cal d [.ref n] S1) fun v S2 => ∃ y, v = .str y ∧ P (.str y) S2) : okk (den G cal (.rpI o) τ S) P := by
  obtain ⟨x, S1, e1, n, c, fs, ci, d, rfl, h1, h2, h3, h4, h⟩ := okk.iff.mp h
  obtain ⟨v, S2, e2, y, rfl, p⟩ := okk.iff.mp h
  refine .of (a := .str y) (S := S2) ?_ p
  simp only [den, e1, R.bind_ok, h1, h2, h3, h4, e2, rpChk, if_true]
theorem w_boI {o : E} (h : okk (den G cal o τ S) fun x S1 => ∃ n c fs ci d, x = .ref n ∧ S1[n]? = some (.ins c fs) ∧ fs.lookup ("__len__" : Str) = none ∧ G.cls c = some ci ∧ ci.meths.lookup ("__len__" : Str) = some d ∧
    okk (cal d [.ref n] S1) fun v S2 => ∃ i : Int, v = .int i ∧ 0 ≤ i ∧ i < 2 ^ 63 ∧ P (.bl (i != 0)) S2) : okk (den G cal (.boI o) τ S) P := by
  obtain ⟨x, S1, e1, n, c, fs, ci, d, rfl, h1, h2, h3, h4, h⟩ := okk.iff.mp h
  obtain ⟨v, S2, e2, i, rfl, k1, k2, p⟩ := okk.iff.mp h
  refine .of (a := .bl (i != 0)) (S := S2) ?_ p
  simp only [den, e1, R.bind_ok, h1, h2, h3, h4, e2, boChk, if_true, if_pos (And.intro k1 k2)]
theorem w_cmpI {neg : Bool} {a b : E} (h : okk (den G cal a τ S) fun x S1 => okk (den G cal b τ S1) fun y S2 => ∃ n c fs ci d, x = .ref n ∧ S2[n]? = some (.ins c fs) ∧ nfO neg S2 c y = true ∧ G.cls c = some ci ∧ ci.meths.lookup ("__eq__" : Str) = some d ∧
    okk (cal d [.ref n, y] S2) fun v S3 => ∃ k, v = .bl k ∧ P (.bl (neg != k)) S3) : okk (den G cal (.cmpI neg a b) τ S) P := by
  obtain ⟨x, S1, e1, h⟩ := okk.iff.mp h
  obtain ⟨y, S2, e2, n, c, fs, ci, d, rfl, h1, h2, h3, h4, h⟩ := okk.iff.mp h
  obtain ⟨v, S3, e3, k, rfl, p⟩ := okk.iff.mp h
  refine .of (a := .bl (neg != k)) (S := S3) ?_ p
  simp only [den, e1, e2, R.bind_ok, h1, h2, h3, h4, e3, blChk, if_true]
theorem w_strL {o : E} (h : okk (den G cal o τ S) fun x S1 => ∃ n c fs ci d, x = .ref n ∧ S1[n]? = some (.ins c fs) ∧ fs.lookup ("__repr__" : Str) = none ∧ G.cls c = some ci ∧ ci.meths.lookup ("__repr__" : Str) = some d ∧
    okk (cal d [.ref n] S1) fun v S2 => ∃ y, v = .str y ∧ y.length + 2 ≤ sizeLine ∧ P (.str ([91] ++ y ++ [93])) S2) : okk (den G cal (.strL o) τ S) P := by
  obtain ⟨x, S1, e1, n, c, fs, ci, d, rfl, h1, h2, h3, h4, h⟩ := okk.iff.mp h
  obtain ⟨v, S2, e2, y, rfl, hz, p⟩ := okk.iff.mp h
  refine .of (a := .str ([91] ++ y ++ [93])) (S := S2) ?_ p
  simp only [den, e1, R.bind_ok, h1, h2, h3, h4, e2, stChk, if_true, if_pos hz]
theorem w_rev {fl : Bool} {a : E} (h : okk (den G cal a τ S) fun x S1 => ∃ xs, der S1 x = .lst xs ∧ okk (mkL fl xs.reverse S1) P) : okk (den G cal (.rev fl a) τ S) P :=
  .bind (h.imp fun x S1 ⟨xs, e, q⟩ => by rw [e]; exact q)
theorem w_revT {fl : Bool} {a : E} (h : okk (den G cal a τ S) fun x S1 => ∃ xs, der S1 x = .tup xs ∧ P (.tup xs.reverse) S1) : okk (den G cal (.rev fl a) τ S) P :=
  .bind (h.imp fun x S1 ⟨xs, e, q⟩ => by rw [e]; exact .ok q)
theorem w_fmt {r : Bool} {e : E} (h : okk (den G cal e τ S) fun x S1 => ∃ y, fmtS S1 r x = some y ∧ P (.str y) S1) : okk (den G cal (.fmt r e) τ S) P :=
  .bind (h.imp fun x S1 ⟨y, e, q⟩ => by rw [e]; exact .ok q)
theorem w_denf_nil {acc : List Nat} (h : P (.str acc) S) : okk (denf G cal [] acc τ S) P := .ok h
theorem w_denf_cons {e : E} {es : List E} {acc : List Nat} (h : okk (den G cal e τ S) fun x S1 => ∃ y, x = .str y ∧ (acc ++ y).length ≤ sizeLine ∧ okk (denf G cal es (acc ++ y) τ S1) P) : okk (denf G cal (e :: es) acc τ S) P := by
  refine .bind (h.imp fun x S1 ⟨y, e, hz, q⟩ => ?_)
  subst e
  show okk (if (acc ++ y).length ≤ sizeLine then denf G cal es (acc ++ y) τ S1 else .no) P
  rw [if_pos hz]
  exact q
theorem w_fs {es : List E} (h : okk (denf G cal es [] τ S) P) : okk (den G cal (.fs es) τ S) P := h
theorem w_kmk {c i : Nat} {es ws : List E} (h : okk (dens G cal es τ S) fun xs S1 => okk (dens G cal ws τ S1) fun zs S2 => ∃ kc, G.kwc[i]? = some kc ∧ okk (cal kc.d (kc.fill .non (.ref S2.length :: xs) zs) (S2 ++ [.ins c []])) fun v S3 => v = .non ∧ P (.ref S2.length) S3) : okk (den G cal (.kmk c i es ws) τ S) P :=
  .bind (h.imp fun xs S1 q => .bind (q.imp fun zs S2 ⟨kc, ek, q2⟩ => by
    rw [ek]
    exact .bind (q2.imp fun v S3 ⟨e, p⟩ => by subst e; exact .ok p)))
theorem w_mk2 {c i : Nat} {es : List E} (h : okk (dens G cal es τ S) fun xs S1 => ∃ p, G.dft[i]? = some p ∧ xs.length + 1 = p.np ∧ okk (cal p.d ((.ref S1.length :: xs) ++ p.vals) (S1 ++ [.ins c []])) fun v S2 => v = .non ∧ P (.ref S1.length) S2) : okk (den G cal (.mk2 c i es) τ S) P :=
  .bind (h.imp fun xs S1 ⟨p, ek, hn, q⟩ => by
    rw [ek]
    show okk (if xs.length + 1 = p.np then _ else _) P
    rw [if_pos hn]
    exact .bind (q.imp fun v S3 ⟨e, z⟩ => by subst e; exact .ok z))
end
end Lt
/-! rules for what may raise; for += , two sources, sorted sets -/
namespace Lt
open PySem L2
@[irreducible] def okx {α : Type} (r : R α) (P : α → List O → Prop) (E : Nat → List A → List O → Prop) : Prop := match r with
  | .ok a S => P a S
  | .ex c fs S => E c fs S
  | .no => False
theorem okx.ok {α : Type} {a : α} {S : List O} {P : α → List O → Prop} {E : Nat → List A → List O → Prop} (k : P a S) : okx (.ok a S) P E := by unfold okx; exact k
theorem okx.ex {α : Type} {c : Nat} {fs : List A} {S : List O} {P : α → List O → Prop} {E : Nat → List A → List O → Prop} (k : E c fs S) : okx (.ex c fs S : R α) P E := by unfold okx; exact k
theorem okx.ok_iff {α : Type} {a : α} {S : List O} {P : α → List O → Prop} {E : Nat → List A → List O → Prop} : okx (.ok a S) P E ↔ P a S := by unfold okx; exact Iff.rfl
theorem okx.ex_iff {α : Type} {c : Nat} {fs : List A} {S : List O} {P : α → List O → Prop} {E : Nat → List A → List O → Prop} : okx (.ex c fs S : R α) P E ↔ E c fs S := by unfold okx; exact Iff.rfl
theorem okk.okx {α : Type} {r : R α} {P : α → List O → Prop} {E : Nat → List A → List O → Prop} (h : okk r P) : okx r P E := by
  obtain ⟨a, S, e, p⟩ := okk.iff.mp h
  rw [e]; exact .ok p
theorem okx.bind {α β : Type} {r : R α} {f : α → List O → R β} {P : β → List O → Prop} {E : Nat → List A → List O → Prop} (h : okx r (fun a S => okx (f a S) P E) E) : okx (r.bind f) P E := by
  cases r with
  | ok a S => exact okx.ok_iff.mp h
  | ex c fs S => exact .ex (okx.ex_iff.mp h)
  | no => unfold okx at h; exact h.elim
theorem okx.go {α : Type} {r : R α} {τ : Tau} {f : α → List O → SR} {Z : SR → Prop} (h : okx r (fun a S => oks (f a S) Z) (fun c fs S => Z (.ex c fs τ S))) : oks (r.go τ f) Z := by
  cases r with
  | ok a S => exact okx.ok_iff.mp h
  | ex c fs S => exact oks.iff.mpr (okx.ex_iff.mp h)
  | no => unfold okx at h; exact h.elim
section
variable {G : Gt} {cal : Cal} {τ : Tau} {S : List O} {P : A → List O → Prop} {B : Bool → List O → Prop} {L : List A → List O → Prop} {Z : SR → Prop} {E : Nat → List A → List O → Prop}
theorem s_exX {e : Lt.E} (h : okx (den G cal e τ S) (fun _ S1 => Z (.nx τ S1)) (fun c fs S1 => Z (.ex c fs τ S1))) : oks (denS G cal (.ex e) τ S) Z := by
  refine okx.go ?_
  revert h
  cases den G cal e τ S with
  | ok a S => intro h; exact okx.ok_iff.mpr (oks.iff.mpr (okx.ok_iff.mp h))
  | ex c fs S => intro h; exact okx.ex_iff.mpr (okx.ex_iff.mp h)
  | no => intro h; unfold okx at h; exact h.elim
theorem s_asgX {t : T} {e : Lt.E} (h : okx (den G cal e τ S) (fun a S1 => ∃ τ1, T.asg t a τ = some τ1 ∧ Z (.nx τ1 S1)) (fun c fs S1 => Z (.ex c fs τ S1))) : oks (denS G cal (.asg (.t t) e) τ S) Z := by
  refine okx.go ?_
  revert h
  cases den G cal e τ S with
  | ok a S =>
    intro h
    obtain ⟨τ1, e, q⟩ := okx.ok_iff.mp h
    exact okx.ok_iff.mpr (oks.iff.mpr (by show Z _; rw [e]; exact q))
  | ex c fs S => intro h; exact okx.ex_iff.mpr (okx.ex_iff.mp h)
  | no => intro h; unfold okx at h; exact h.elim
theorem s_retX {e : Lt.E} (h : okx (den G cal e τ S) (fun a S1 => Z (.rt a S1)) (fun c fs S1 => Z (.ex c fs τ S1))) : oks (denS G cal (.ret e) τ S) Z := by
  refine okx.go ?_
  revert h
  cases den G cal e τ S with
  | ok a S => intro h; exact okx.ok_iff.mpr (oks.iff.mpr (okx.ok_iff.mp h))
  | ex c fs S => intro h; exact okx.ex_iff.mpr (okx.ex_iff.mp h)
  | no => intro h; unfold okx at h; exact h.elim
theorem x_call {d : Nat} {es : List Lt.E} (h : okk (dens G cal es τ S) fun xs S1 => okx (cal d xs S1) P E) : okx (den G cal (.call d es) τ S) P E := okx.bind (okk.okx h)
theorem run_okX {fd : Fd} {as : List A} (hl : as.length = fd.np) (h : oks (denSs G cal fd.body (as.map some ++ List.replicate (fd.nl - fd.np) none) S) fun r => match r with | .rt a S1 => P a S1 | .nx _ S1 => P .non S1 | .ex c fs _ S1 => E c fs S1 | _ => False) : okx (runF G cal fd as S) P E := by
  have h : (fun r : SR => match r with | .rt a S1 => P a S1 | .nx _ S1 => P .non S1 | .ex c fs _ S1 => E c fs S1 | _ => False) (denSs G cal fd.body (as.map some ++ List.replicate (fd.nl - fd.np) none) S) := oks.iff.mp h
  unfold runF
  rw [if_pos hl]
  revert h
  cases denSs G cal fd.body (as.map some ++ List.replicate (fd.nl - fd.np) none) S with
  | rt a S1 => exact fun h => .ok h
  | nx τ S1 => exact fun h => .ok h
  | ex c fs τ S1 => exact fun h => .ex h
  | _ => exact fun h => h.elim
theorem s_raise {c : Nat} {es : List Lt.E} {p : Str × List Str} (hp : G.xcs[c]? = some p) (h : okk (dens G cal es τ S) fun xs S1 => xs.length = p.2.length ∧ Z (.ex c xs τ S1)) : oks (denS G cal (.raise c es) τ S) Z :=
  okk.go (h.imp fun xs S1 ⟨hl, q⟩ => oks.iff.mpr (by rw [hp]; show Z (if xs.length = p.2.length then _ else _); rw [if_pos hl]; exact q))
theorem s_blk {ss : List Sm} (h : oks (denSs G cal ss τ S) Z) : oks (denS G cal (.blk ss) τ S) Z := h
theorem s_try {b : List Sm} {cs : List (Nat × Option Nat)} {ss : List Sm} (h : oks (denSs G cal b τ S) fun r => match r with | .ex c fs τ1 S1 => oks (denCs G cal cs ss c fs τ1 S1) Z | r => Z r) : oks (denS G cal (.tryk b cs ss) τ S) Z := by
  have h := oks.iff.mp h
  refine oks.iff.mpr ?_
  show Z (match denSs G cal b τ S with | .ex c fs τ1 S1 => denCs G cal cs ss c fs τ1 S1 | r => r)
  revert h
  cases denSs G cal b τ S with
  | ex c fs τ1 S1 => exact fun h => oks.iff.mp h
  | _ => exact fun h => h
theorem c_hit {c : Nat} {oi : Option Nat} {cs : List (Nat × Option Nat)} {s : Sm} {ss : List Sm} {fs : List A} {p : Str × List Str} (hp : G.xcs[c]? = some p)
    (h : oks (denS G cal s (putX oi τ (.ref S.length)) (S ++ [.exc c (p.2.zip fs).reverse])) fun r => Z (r.clr oi)) : oks (denCs G cal ((c, oi) :: cs) (s :: ss) c fs τ S) Z := by
  have h := oks.iff.mp h
  refine oks.iff.mpr ?_
  show Z (if c = c then _ else _)
  rw [if_pos rfl, hp]
  exact h
theorem c_miss {c d : Nat} {oi : Option Nat} {cs : List (Nat × Option Nat)} {s : Sm} {ss : List Sm} {fs : List A} (hn : c ≠ d) (h : oks (denCs G cal cs ss c fs τ S) Z) : oks (denCs G cal ((d, oi) :: cs) (s :: ss) c fs τ S) Z := by
  have h := oks.iff.mp h
  refine oks.iff.mpr ?_
  show Z (if c = d then _ else _)
  rw [if_neg hn]
  exact h
theorem c_none {c : Nat} {fs : List A} (h : Z (.ex c fs τ S)) : oks (denCs G cal [] [] c fs τ S) Z := oks.iff.mpr h
theorem w_xf {o : Lt.E} {f : Str} (h : okk (den G cal o τ S) fun x S1 => ∃ n c fs p v, x = .ref n ∧ S1[n]? = some (.exc c fs) ∧ G.xcs[c]? = some p ∧ p.2.contains f = true ∧ fs.lookup f = some v ∧ P v S1) : okk (den G cal (.xf o f) τ S) P :=
  .bind (h.imp fun x S1 ⟨n, c, fs, p, v, e, e1, e2, e3, e4, q⟩ => by subst e; exact .of (by simp only [e1, e2, e3, e4, if_true]; rfl) q)
theorem w_xis {o : Lt.E} {cs : List Xc} {tp : Bool} (h : okk (den G cal o τ S) fun x S1 => ∃ n c fs b, x = .ref n ∧ S1[n]? = some (.exc c fs) ∧ c < G.xcs.length ∧ anyX G.xo G.xcs.length c cs = some b ∧ P (.bl b) S1) : okk (den G cal (.xis o cs tp) τ S) P :=
  .bind (h.imp fun x S1 ⟨n, c, fs, b, e, e1, e2, e3, q⟩ => by subst e; exact .of (by simp only [e1, if_pos e2, e3]; rfl) q)
theorem s_augA {i : Nat} {e : Lt.E} {x : Int} (hx : τ[i]? = some (some (.int x))) (h : okk (den G cal e τ S) fun b S1 => ∃ y, b = .int y ∧ Z (.nx (τ.set i (some (.int (x + y)))) S1)) : oks (denS G cal (.aug i .Add e) τ S) Z := by
  refine oks.iff.mpr ?_
  show Z (match τ[i]? with | some (some (.int x)) => _ | _ => _)
  rw [hx]
  exact oks.iff.mp (okk.go (h.imp fun b S1 ⟨y, e, q⟩ => by subst e; exact oks.iff.mpr q))
/-! ### two sources -/
theorem ocD_ok {g : Gd} {asg : A → Tau → Option Tau} {inner : Tau → List A → List O → R (List A)} {τ : Tau} (inv : Nat → List A → List O → Prop) : ∀ (xs : List A) (j : Nat) (acc : List A) (S : List O), inv j acc S →
    (∀ i x acc S, xs[i]? = some x → inv (j + i) acc S → g.ok S ∧ ∃ τ1, asg x τ = some τ1 ∧ okk (inner τ1 acc S) fun a S1 => inv (j + i + 1) a S1) →
    (∀ acc S, inv (j + xs.length) acc S → g.ok S ∧ L acc S) → okk (ocD g asg inner τ acc xs S) L
  | [], j, acc, S, h0, _, he => by
    obtain ⟨a, b⟩ := he acc S h0
    exact .of (a := acc) (S := S) (by simp only [ocD]; rw [if_pos a]) b
  | x :: xs, j, acc, S, h0, hs, he => by
    obtain ⟨gk, τ1, e1, hc⟩ := hs 0 x acc S rfl h0
    obtain ⟨a1, S1, e2, hb⟩ := okk.iff.mp hc
    have q1 : ∀ i, j + 1 + i = j + (i + 1) := fun i => by omega
    have q2 : j + 1 + xs.length = j + (x :: xs).length := by simp; omega
    have ih := ocD_ok (g := g) (asg := asg) (inner := inner) (τ := τ) inv xs (j + 1) a1 S1 hb (fun i y acc S hy hp => by
      rw [q1] at hp
      have := hs (i + 1) y acc S (by simpa using hy) hp
      rw [← q1] at this; exact this) (fun acc S hp => he acc S (by rw [← q2]; exact hp))
    obtain ⟨a, S3, e4, h4⟩ := okk.iff.mp ih
    refine .of (a := a) (S := S3) ?_ h4
    simp only [ocD]; rw [if_pos gk, e1]; simp only [e2]; exact e4
theorem in_ok {elt : Lt.E} {t2 : T} {k2 : IK} {src2 : List Lt.E} {vs1 : List Nat} {acc : List A} (inv : List A → Nat → List A → List O → Prop) (h : okk (iD G cal k2 src2 τ S) fun yg S1 => acc.length + yg.1.length ≤ sizeLine ∧ inv yg.1 0 acc S1 ∧
    (∀ i x a S, yg.1[i]? = some x → inv yg.1 i a S → yg.2.ok S ∧ ∃ τ1, T.asg t2 x (wipeT τ vs1) = some τ1 ∧ okk (den G cal elt τ1 S) fun y S2 => inv yg.1 (i + 1) (a ++ [y]) S2) ∧
    (∀ a S, inv yg.1 yg.1.length a S → yg.2.ok S ∧ L a S)) : okk (inD G cal elt t2 k2 src2 vs1 τ acc S) L := by
  unfold inD
  refine .bind (h.imp ?_)
  rintro ⟨ys, g⟩ S1 ⟨hl, h0, hs, he⟩
  dsimp only at hl ⊢
  rw [if_pos hl]
  refine lcD_ok (inv ys) ys 0 acc S1 h0 (fun i x a S hx hp => ?_) (fun a S hp => ?_)
  · rw [Nat.zero_add] at hp ⊢
    obtain ⟨g1, τ1, e, q⟩ := hs i x a S hx hp
    exact ⟨g1, τ1, e, .ok ⟨fun _ => q, fun z => by cases z⟩⟩
  · rw [Nat.zero_add] at hp; exact he a S hp
theorem w_lc2 {fl : Bool} {elt : Lt.E} {t : T} {k : IK} {src : List Lt.E} {t2 : T} {k2 : IK} {src2 : List Lt.E} {own : List (Str × Nat)} {vs1 : List Nat} (inv : List A → Nat → List A → List O → Prop)
    (h : okk (iD G cal k src τ S) fun xg S1 => xg.1.length ≤ sizeLine ∧ inv xg.1 0 [] S1 ∧
      (∀ i x a S, xg.1[i]? = some x → inv xg.1 i a S → xg.2.ok S ∧ ∃ τ1, T.asg t x (wipeT τ (own.map (·.2))) = some τ1 ∧ okk (inD G cal elt t2 k2 src2 vs1 τ1 a S) fun a S1 => inv xg.1 (i + 1) a S1) ∧
      (∀ a S, inv xg.1 xg.1.length a S → xg.2.ok S ∧ okk (mkL fl a S) P)) : okk (den G cal (.lc2 fl elt t k src t2 k2 src2 own vs1) τ S) P := by
  rw [den_lc2]
  refine .bind (h.imp ?_)
  rintro ⟨xs, g⟩ S1 ⟨hl, h0, hs, he⟩
  dsimp only at hl ⊢
  rw [if_pos hl]
  refine .bind (ocD_ok (inv xs) xs 0 [] S1 h0 (fun i x a S hx hp => ?_) (fun a S hp => ?_))
  · rw [Nat.zero_add] at hp ⊢; exact hs i x a S hx hp
  · rw [Nat.zero_add] at hp; exact he a S hp
/-! ### sorted sets -/
theorem siD_ok {g : Gd} {asg : A → Tau → Option Tau} {cond : Tau → List O → R Bool} {elt : Tau → List O → R A} {τ : Tau} {L : List Int → List O → Prop} (inv : Nat → List Int → List O → Prop) : ∀ (xs : List A) (j : Nat) (acc : List Int) (S : List O), inv j acc S →
    (∀ i x acc S, xs[i]? = some x → inv (j + i) acc S → g.ok S ∧ ∃ τ1, asg x τ = some τ1 ∧ okk (cond τ1 S) fun b S1 => (b = true → okk (elt τ1 S1) fun y S2 => ∃ v, y = .int v ∧ inv (j + i + 1) (if v ∈ acc then acc else acc ++ [v]) S2) ∧ (b = false → inv (j + i + 1) acc S1)) →
    (∀ acc S, inv (j + xs.length) acc S → g.ok S ∧ L acc S) → okk (siD g asg cond elt τ acc xs S) L
  | [], j, acc, S, h0, _, he => by
    obtain ⟨a, b⟩ := he acc S h0
    exact .of (a := acc) (S := S) (by simp only [siD]; rw [if_pos a]) b
  | x :: xs, j, acc, S, h0, hs, he => by
    obtain ⟨gk, τ1, e1, hc⟩ := hs 0 x acc S rfl h0
    obtain ⟨b, S1, e2, hb⟩ := okk.iff.mp hc
    have q1 : ∀ i, j + 1 + i = j + (i + 1) := fun i => by omega
    have q2 : j + 1 + xs.length = j + (x :: xs).length := by simp; omega
    have ih := fun acc S (h : inv (j + 1) acc S) => siD_ok (g := g) (asg := asg) (cond := cond) (elt := elt) (τ := τ) inv xs (j + 1) acc S h (fun i y acc S hy hp => by
      rw [q1] at hp
      have := hs (i + 1) y acc S (by simpa using hy) hp
      rw [← q1] at this; exact this) (fun acc S hp => he acc S (by rw [← q2]; exact hp))
    cases b with
    | true =>
      obtain ⟨y, S2, e3, v, rfl, h3⟩ := okk.iff.mp (hb.1 rfl)
      obtain ⟨a, S3, e4, h4⟩ := okk.iff.mp (ih _ _ h3)
      refine .of (a := a) (S := S3) ?_ h4
      simp only [siD]; rw [if_pos gk, e1]; simp only [e2, e3]; exact e4
    | false =>
      obtain ⟨a, S3, e4, h4⟩ := okk.iff.mp (ih _ _ (hb.2 rfl))
      refine .of (a := a) (S := S3) ?_ h4
      simp only [siD]; rw [if_pos gk, e1]; simp only [e2]; exact e4
theorem w_srtSet {fl : Bool} {elt : Lt.E} {t : T} {k : IK} {src ifs : List Lt.E} {own : List (Str × Nat)} (inv : List A → Nat → List Int → List O → Prop) (h : okk (iD G cal k src τ S) fun xg S1 => xg.1.length ≤ 3000 ∧ inv xg.1 0 [] S1 ∧
    (∀ i x acc S, xg.1[i]? = some x → inv xg.1 i acc S → xg.2.ok S ∧ ∃ τ1, T.asg t x (wipeT τ (own.map (·.2))) = some τ1 ∧ okk (condD G cal ifs τ1 S) fun b S1 => (b = true → okk (den G cal elt τ1 S1) fun y S2 => ∃ v, y = .int v ∧ inv xg.1 (i + 1) (if v ∈ acc then acc else acc ++ [v]) S2) ∧ (b = false → inv xg.1 (i + 1) acc S1)) ∧
    (∀ acc S, inv xg.1 xg.1.length acc S → xg.2.ok S ∧ acc.length < 64 ∧ okk (mkL fl ((srtI acc).map A.int) S) P)) : okk (den G cal (.srtSet fl elt t k src ifs own) τ S) P := by
  rw [den_srtSet]
  refine .bind (h.imp ?_)
  rintro ⟨xs, g⟩ S1 ⟨hl, h0, hs, he⟩
  dsimp only at hl ⊢
  rw [if_pos hl]
  refine .bind (siD_ok (inv xs) xs 0 [] S1 h0 (fun i x acc S hx hp => ?_) (fun acc S hp => ?_))
  · rw [Nat.zero_add] at hp ⊢; exact hs i x acc S hx hp
  · rw [Nat.zero_add] at hp
    obtain ⟨a, b, c⟩ := he acc S hp
    exact ⟨a, by rw [if_pos b]; exact c⟩
end
end Lt
/-! repr of values that are small -/
namespace Lt
open PySem L2
def vC (x : Str) : Prop := ∀ c ∈ x.cps.toList, c < 0x110000
theorem vC.app {x y : Str} (h : vC x) (k : vC y) : vC (x ++ y) := by
  intro c hc
  have e : (x ++ y).cps = x.cps ++ y.cps := rfl
  rw [e, Array.toList_append] at hc
  rcases List.mem_append.mp hc with z | z
  · exact h c z
  · exact k c z
theorem char_lt (c : Char) : c.toNat < 0x110000 := by
  have := c.valid
  rcases this with h | ⟨_, h⟩
  · have : c.toNat < 0xd800 := h
    omega
  · exact h
theorem vC.of (s : String) : vC (Str.ofString s) := by
  intro c hc
  rw [Str.ofString_eq_toList] at hc
  have hc : c ∈ s.toList.map Char.toNat := by simpa using hc
  obtain ⟨d, _, rfl⟩ := List.mem_map.mp hc
  exact char_lt d
theorem vC_char {q c : Nat} (hq : q < 0x110000) (hc : c < 0x110000) : ∀ y ∈ Builtin.Str.reprChar q c, y < 0x110000 := by
  intro y hy
  unfold Builtin.Str.reprChar at hy
  dsimp only at hy
  have hd : ∀ n k : Nat, ∀ z ∈ List.replicate k 48 ++ (Nat.toDigits 16 n).map Char.toNat, z < 0x110000 := by
    intro n k z hz
    rcases List.mem_append.mp hz with h | h
    · have := (List.mem_replicate.mp h).2
      omega
    · obtain ⟨d, _, rfl⟩ := List.mem_map.mp h
      exact char_lt d
  repeat' split at hy
  all_goals first
    | (simp only [List.mem_cons, List.not_mem_nil, or_false] at hy; omega)
    | (rcases List.mem_append.mp hy with h | h
       · simp only [List.mem_cons, List.not_mem_nil, or_false] at h; omega
       · exact hd _ _ y h)
theorem vC_fold {q : Nat} (hq : q < 0x110000) : ∀ (l : List Nat) (acc : Array Nat), (∀ c ∈ l, c < 0x110000) → (∀ c ∈ acc.toList, c < 0x110000) → ∀ c ∈ (l.foldl (fun out c => out ++ (Builtin.Str.reprChar q c).toArray) acc).toList, c < 0x110000
  | [], acc, _, h => h
  | x :: r, acc, h1, h2 => by
    rw [List.foldl_cons]
    refine vC_fold hq r _ (fun c hc => h1 c (List.mem_cons_of_mem _ hc)) fun c hc => ?_
    rw [Array.toList_append] at hc
    rcases List.mem_append.mp hc with z | z
    · exact h2 c z
    · exact vC_char hq (h1 x List.mem_cons_self) c (by simpa using z)
theorem vC.repr {x : Str} (h : vC x) : vC (reprText x) := by
  have hq : reprQuote x < 0x110000 := by unfold reprQuote; split <;> omega
  intro c hc
  unfold reprText at hc
  rw [Array.toList_push] at hc
  rcases List.mem_append.mp hc with z | z
  · rw [← Array.foldl_toList] at z
    exact vC_fold hq _ _ h (fun y hy => by
      have : y = reprQuote x := by simpa using hy
      omega) c z
  · have : c = reprQuote x := by simpa using z
    omega
theorem vC.from : ∀ (ts : List Str) (k : Nat) (acc : Str), vC acc → (∀ t ∈ ts, vC t) → vC (textFrom k acc ts)
  | [], k, acc, h, _ => h
  | t :: r, k, acc, h, h2 => by
    show vC (textFrom (k + 1) (acc ++ (if k > 0 then ", " else "" : String) ++ t) r)
    refine vC.from r _ _ ((h.app ?_).app (h2 t List.mem_cons_self)) fun u hu => h2 u (List.mem_cons_of_mem _ hu)
    exact vC.of _
theorem vC.join : ∀ (ts : List Str), (∀ t ∈ ts, vC t) → vC (Str.join ", " ts)
  | [], _ => fun c hc => by cases hc
  | [x], h => h x List.mem_cons_self
  | x :: y :: r, h => by
    show vC (x ++ ", " ++ Str.join ", " (y :: r))
    exact ((h x List.mem_cons_self).app (vC.of ", ")).app (vC.join (y :: r) fun t ht => h t (List.mem_cons_of_mem _ ht))
theorem vC.list {ts : List Str} (h : ∀ t ∈ ts, vC t) : vC (listText ts) := (vC.from ts 0 "[" (vC.of _) h).app (vC.of _)
theorem vC.tuple {ts : List Str} (h : ∀ t ∈ ts, vC t) : vC (tupleText ts) := ((vC.of _).app (vC.join ts h)).app (vC.of _)
/-! ### small values -/
mutual
def A.nice : A → Bool
  | .non => true
  | .bl _ => true
  | .int i => decide (i.natAbs < 10 ^ 19)
  | .str x => x.all fun c => decide (c < 0x110000)
  | .tup xs => A.nices xs
  | .lst xs => A.nices xs
  | .ref _ => false
  | .scr _ => false
  | .ktup _ => false
def A.nices : List A → Bool
  | [] => true
  | x :: xs => A.nice x && A.nices xs
end
mutual
def A.wt : A → Nat
  | .int _ => 64
  | .str x => x.length
  | .tup xs => A.wts xs
  | .lst xs => A.wts xs
  | _ => 0
def A.wts : List A → Nat
  | [] => 0
  | x :: xs => A.wt x + 1 + A.wts xs
end
mutual
theorem A.nice_ok : ∀ v : A, v.nice = true → v.pure = true ∧ v.dat.showable = true ∧ v.dat.leavesShort 20 = true ∧ v.dat.weight ≤ v.wt ∧ v.dat.depth ≤ v.depth ∧ vC v.dat.shown
  | .non, _ => ⟨rfl, rfl, rfl, Nat.le_refl _, Nat.le_refl _, vC.of _⟩
  | .bl b, _ => ⟨rfl, rfl, rfl, Nat.le_refl _, Nat.le_refl _, by
      show vC (if b then ("True" : Str) else "False")
      split <;> exact vC.of _⟩
  | .int i, h => by
    have h1 : i.natAbs < 10 ^ 19 := by simpa [A.nice] using h
    have hl : i.natAbs.log2 < 64 := by
      by_cases z : i.natAbs = 0
      · rw [z]; decide
      · exact (Nat.log2_lt z).mpr (Nat.lt_of_lt_of_le h1 (by decide))
    refine ⟨rfl, ?_, ?_, ?_, Nat.le_refl _, vC.of _⟩
    · show decide (i.natAbs.log2 < 1920) = true
      simp; omega
    · show decide ((PyData.shown (.int i)).length ≤ 20) = true
      have e := int_text_length_le10 (k := 19) (by decide) h1
      have : (PyData.shown (.int i)).length ≤ 20 := by
        show (Str.ofString (toString i)).length ≤ 20
        rw [ofString_length]; exact e
      simpa using this
    · show (if i == 0 then 0 else i.natAbs.log2 + 1) ≤ 64
      split <;> omega
  | .str x, h => by
    have h1 : ∀ c ∈ x, c < 0x110000 := by simpa [A.nice] using h
    refine ⟨rfl, rfl, ?_, ?_, Nat.le_refl _, ?_⟩
    · show ((mkS x).cps.toList.all fun c => decide (c < 16 ^ 8)) = true
      rw [List.all_eq_true]
      intro c hc
      have := h1 c (by simpa [mkS] using hc)
      simp; omega
    · show (mkS x).cps.size ≤ x.length
      simp [mkS]
    · exact vC.repr fun c hc => h1 c (by simpa [mkS] using hc)
  | .tup xs, h => by
    have h1 : A.nices xs = true := by simpa [A.nice] using h
    obtain ⟨q1, q2, q3, q4, q5, q6⟩ := A.nices_ok xs h1
    exact ⟨q1, q2, q3, q4, Nat.succ_le_succ q5, vC.tuple q6⟩
  | .lst xs, h => by
    have h1 : A.nices xs = true := by simpa [A.nice] using h
    obtain ⟨q1, q2, q3, q4, q5, q6⟩ := A.nices_ok xs h1
    exact ⟨q1, q2, q3, q4, Nat.succ_le_succ q5, vC.list q6⟩
  | .ref _, h => by cases h
  | .scr _, h => by cases h
  | .ktup _, h => by cases h
theorem A.nices_ok : ∀ vs : List A, A.nices vs = true → A.pures vs = true ∧ PyData.showableAll (A.dats vs) = true ∧ PyData.leavesShortAll 20 (A.dats vs) = true ∧ PyData.weightAll (A.dats vs) ≤ A.wts vs ∧ PyData.depthAll (A.dats vs) ≤ A.depths vs ∧ ∀ t ∈ PyData.shownAll (A.dats vs), vC t
  | [], _ => ⟨rfl, rfl, rfl, Nat.le_refl _, Nat.le_refl _, fun t h => by cases h⟩
  | v :: vs, h => by
    have h1 : v.nice = true ∧ A.nices vs = true := by simpa [A.nices] using h
    obtain ⟨p1, p2, p3, p4, p5, p6⟩ := A.nice_ok v h1.1
    obtain ⟨q1, q2, q3, q4, q5, q6⟩ := A.nices_ok vs h1.2
    refine ⟨?_, ?_, ?_, ?_, ?_, fun t ht => ?_⟩
    · simp [A.pures, p1, q1]
    · simp [A.dats, PyData.showableAll, p2, q2]
    · simp [A.dats, PyData.leavesShortAll, p3, q3]
    · simp only [A.dats, PyData.weightAll, A.wts]; omega
    · simp only [A.dats, PyData.depthAll, A.depths]; omega
    · rcases List.mem_cons.mp (show t ∈ v.dat.shown :: PyData.shownAll (A.dats vs) from ht) with rfl | ht
      · exact p6
      · exact q6 t ht
end
/-- the text of a value -/
def A.txt (v : A) : List Nat := v.dat.shown.cps.toList
theorem map_pures {f : A → A} (ih : ∀ v : A, v.pure = true → f v = v) : ∀ vs : List A, A.pures vs = true → vs.map f = vs
  | [], _ => rfl
  | v :: vs, h => by
    simp only [A.pures, Bool.and_eq_true] at h
    rw [List.map_cons, ih v h.1, map_pures ih vs h.2]
theorem derD_pure (S : List O) : ∀ (n : Nat) (v : A), v.pure = true → derD S n v = v
  | 0, v, _ => rfl
  | n + 1, v, h => by
    cases v with
    | tup xs => simp only [derD, map_pures (derD_pure S n) xs (by simpa [A.pure] using h)]
    | lst xs => simp only [derD, map_pures (derD_pure S n) xs (by simpa [A.pure] using h)]
    | ref m => simp [A.pure] at h
    | ktup m => simp [A.pure] at h
    | _ => rfl
theorem repr_deep {S : List O} {a v : A} (hd : derD S 6 a = v) (hn : v.nice = true) (hw : v.wt ≤ 500000) (hp : v.depth ≤ 60) : reprO S a = some v.txt := by
  obtain ⟨h1, h2, h3, h4, h5, h6⟩ := A.nice_ok v hn
  have h7 := PyData.shown_le 20 (by decide) v.dat h3
  have sz : sizeLine = 16777216 := by decide
  have hed : ¬ isEd S a = true := by
    intro z
    cases a <;> first | (cases z; done) | skip
    rename_i n
    simp only [isEd] at z
    split at z
    · rename_i kvs hS
      have : derD S 6 (.ref n) = .ref n := by simp only [derD, hS]
      rw [this] at hd
      subst hd
      simp [A.nice] at hn
    · cases z
  unfold reprO
  rw [if_neg hed, hd]
  have c5 : v.dat.depth ≤ 60 := Nat.le_trans h5 hp
  have c7 : v.dat.shown.length ≤ sizeLine := by rw [sz]; omega
  have c8 : (v.dat.shown.cps.toList.all fun c => decide (c < 0x110000)) = true := by
    rw [List.all_eq_true]
    intro c hc
    simpa using h6 c hc
  rw [h1, h2, decide_eq_true c5, decide_eq_true c7, c8]
  rfl
theorem derD_ref {S : List O} {m n : Nat} {xs : List A} (e : S[m]? = some (.lst xs)) : derD S (n + 1) (.ref m) = .lst (xs.map (derD S n)) := by simp only [derD, e]
theorem derD_tup {S : List O} {n : Nat} {xs : List A} : derD S (n + 1) (.tup xs) = .tup (xs.map (derD S n)) := by simp only [derD]
theorem derD_der {S : List O} {a v : A} (hd : der S a = v) (hn : v.pure = true) : derD S 6 a = v := by
  cases a with
  | ref m =>
    cases e : S[m]? with
    | none =>
      simp only [der, e] at hd
      subst hd; simp [A.pure] at hn
    | some o =>
      cases o with
      | lst xs =>
        simp only [der, e] at hd
        subst hd
        show derD S (5 + 1) (.ref m) = _
        rw [derD_ref e, map_pures (derD_pure S 5) xs (by simpa [A.pure] using hn)]
      | _ =>
        simp only [der, e] at hd
        subst hd; simp [A.pure] at hn
  | _ => subst hd; exact derD_pure S 6 _ hn
theorem repr_nice {S : List O} {a v : A} (hd : der S a = v) (hn : v.nice = true) (hw : v.wt ≤ 500000) (hp : v.depth ≤ 60) : reprO S a = some v.txt := repr_deep (derD_der hd (A.nice_ok v hn).1) hn hw hp
theorem bi_reprD {S : List O} {a v : A} (hd : derD S 6 a = v) (hn : v.nice = true) (hw : v.wt ≤ 500000) (hp : v.depth ≤ 60) : biO .repr [a] S = .ok (.str v.txt) S := by
  show R.of ((reprO S a).map A.str) S = _
  rw [repr_deep hd hn hw hp]; rfl
theorem bi_repr {S : List O} {a v : A} (hd : der S a = v) (hn : v.nice = true) (hw : v.wt ≤ 500000) (hp : v.depth ≤ 60) : biO .repr [a] S = .ok (.str v.txt) S := by
  show R.of ((reprO S a).map A.str) S = _
  rw [repr_nice hd hn hw hp]; rfl
theorem bi_reprE {S : List O} {n : Nat} (h : S[n]? = some (.dic false [])) : biO .repr [.ref n] S = .ok (.str [123, 125]) S := by
  have : isEd S (.ref n) = true := by simp only [isEd, h]; rfl
  show R.of ((reprO S (.ref n)).map A.str) S = _
  unfold reprO
  rw [if_pos this]; rfl
end Lt
namespace K23
open PySem L2 Lt
local macro_rules | `(tactic| wtm_at "wp1") => `(tactic| with_reducible first
  | refine s_cons ?_ | (refine s_nil ?_; try dsimp only [nxt, turn]) | refine s_asg ?_ | refine s_ret ?_ | refine s_ifs ?_ | refine s_ex ?_ | refine s_sub ?_
  | refine w_nil ?_ | refine w_cons ?_
  | refine w_cI ?_ | refine w_cS ?_ | refine w_cN ?_ | refine w_cB ?_
  | refine w_idx ?_ | refine w_call ?_ | refine w_bi ?_ | refine w_tup ?_ | refine w_lst ?_ | refine w_lstT ?_ | refine w_bin ?_ | refine w_neg ?_ | refine w_no ?_ | refine w_cmp ?_
  | refine w_dic0 ?_ | refine w_dic ?_ | refine w_bm ?_ | refine w_isi ?_ | refine w_frz ?_ | refine w_ifx ?_
  | refine t_cmp ?_ | refine t_and ?_ | refine t_or ?_ | refine t_not ?_ | refine t_of ?_
  | refine c_nil ?_ | refine c_one ?_ | refine i_seq ?_ | refine i_rng ?_)
local macro_rules | `(tactic| wtm_at "wp2") => `(tactic| first
  | (with_reducible refine w_nmE ?_; refine ⟨_, rfl, ?_⟩)
  | refine ⟨_, eq_int, ?_⟩ | refine ⟨_, eq_str, ?_⟩ | refine ⟨_, ne_int, ?_⟩ | refine ⟨_, ne_str, ?_⟩
  | ((with_reducible first | refine p_bi ?_ | refine p_bin ?_ | refine p_bm ?_ | refine p_mk ?_); refine ⟨_, _, rfl, ?_⟩)
  | refine ⟨_, rfl, ?_⟩ | refine and_ff ?_ | refine and_tt ?_)
local macro_rules | `(tactic| wtm_at "wp") => `(tactic| repeat (first | wtm_at "wp1" | (wtm_at "wp2"; try dsimp only [nxt, turn, List.set])))
local macro_rules | `(tactic| wtm_at "wp1") => `(tactic| with_reducible first | refine w_sl ?_ | refine w_and ?_ | refine w_or ?_ | refine s_retN ?_ | refine s_pass ?_ | refine s_brk ?_ | refine s_cont ?_)
local macro_rules | `(tactic| wtm_at "wp1") => `(tactic| with_reducible first | refine i_sgn ?_ | refine i_enum ?_ | refine i_zip ?_ | refine w_tab ?_ | refine w_tabIn ?_)
local macro_rules | `(tactic| wtm_at "wp1") => `(tactic| with_reducible first | refine w_lk ?_ | refine s_lk ?_ | refine w_lenO ?_ | refine w_lsv ?_ | refine w_lsi ?_ | refine w_tabGet ?_ | refine i_keys ?_ | refine i_vals ?_ | refine i_items ?_)
local macro_rules | `(tactic| wtm_at "wp1") => `(tactic| with_reducible first | refine w_fld ?_ | refine w_mth ?_ | refine w_mk ?_ | refine s_fld ?_)
local macro_rules | `(tactic| wtm_at "wp1") => `(tactic| with_reducible first | refine w_rpI ?_ | refine w_strL ?_ | refine w_boI ?_ | refine w_cmpI ?_ | refine w_rev ?_ | refine w_fmt ?_ | refine w_fs ?_ | refine w_denf_cons ?_ | refine w_denf_nil ?_ | refine w_kmk ?_ | refine w_mk2 ?_)
def top (i : Nat) : Stmt := PySem.Challenge.pw_unmadethings_k23_frames_told.main.body.getD i (.Pass ⟨0, 0, 0, 0⟩)
def consts : List (Str × A) := []
def tabs : List (Str × List (List Nat × A)) := []
/-- _law_draw -/
abbrev N0 : List Str := ["pool", "many", "found"]
abbrev s0 : Stmt := top 3
abbrev q0 : He.DefD := ⟨("_law_draw", none), "_law_draw", "_law_draw", defArgs s0, defBody s0, defScope s0, [], []⟩
def b0 : List Sm := [.ifs (.cmp .Gt (.idx (.nm 0) (.cI 0)) (.cI 0)) [.asg (.t (.nm 2)) (.bin .Mod false (.idx (.nm 0) (.cI 0)) (.nm 1)), .asg (.sub (.nm 0) (.cI 0)) (.bin .FloorDiv false (.idx (.nm 0) (.cI 0)) (.nm 1)), .ret (.nm 2)] [],
  .asg (.sub (.nm 0) (.cI 1)) (.bin .Mod false (.bin .Add false (.bin .Mult false (.idx (.nm 0) (.cI 1)) (.cI 69621)) (.cI 7)) (.cI 2147483647)),
  .ret (.bin .Mod false (.bin .FloorDiv false (.bin .Mod false (.bin .Mult false (.idx (.nm 0) (.cI 1)) (.idx (.nm 0) (.cI 1))) (.cI 2147483629)) (.cI 32)) (.nm 1))]
def f0 : Fd := ⟨2, 3, b0⟩
/-- _law_pool -/
abbrev N1 : List Str := ["script", "k", "cell", "size", "mixed"]
abbrev s1 : Stmt := top 4
abbrev q1 : He.DefD := ⟨("_law_pool", none), "_law_pool", "_law_pool", defArgs s1, defBody s1, defScope s1, [], []⟩
def b1 : List Sm := [.asg (.t (.nm 2)) (.cI 0),
  .ifs (.cmp .Lt (.nm 1) (.bi .len [(.nm 0)])) [.asg (.t (.nm 2)) (.idx (.nm 0) (.nm 1))] [],
  .asg (.t (.nm 3)) (.bi .max [(.nm 2), (.bin .Sub true (.neg (.cI 1)) (.nm 2))]),
  .asg (.t (.nm 4)) (.bin .Mod true (.bin .Mult true (.bin .Add true (.bin .Add true (.bin .Add true (.bin .Mod true (.nm 3) (.cI 2147483629)) (.bin .Mult true (.bin .Mult true (.cI 7919) (.nm 1)) (.nm 1))) (.bin .Mult true (.cI 31) (.nm 1))) (.cI 17)) (.cI 48271)) (.cI 2147483647)),
  .ret (.lst true [(.bin .Mult true (.nm 3) (.bi .int [(.cmp .GtE (.nm 3) (.bin .Pow true (.cI 10) (.cI 18)))])), (.nm 4)])]
def f1 : Fd := ⟨2, 5, b1⟩
/-- _law_made -/
abbrev N2 : List Str := ["pool", "some", "worths", "turn"]
abbrev s2 : Stmt := top 5
abbrev q2 : He.DefD := ⟨("_law_made", none), "_law_made", "_law_made", defArgs s2, defBody s2, defScope s2, [], []⟩
def e2_0 : E := .lc false (.idx (.nm 1) (.call 0 [(.nm 0), (.cI 7)])) (.nm 3) .rng [(.call 0 [(.nm 0), (.cI 8)])] [] [("turn", 3)]
def b2 : List Sm := [.asg (.t (.nm 1)) (.lst false [(.cI 0), (.cI 1), (.neg (.cI 5)), .cN, (.tup [(.cS [116, 104, 105, 110, 103]), (.cI 0)]), (.tup [(.cS [116, 104, 105, 110, 103]), (.cI 3)]), (.bin .Pow false (.cI 10) (.cI 18))]),
  .asg (.t (.nm 2)) e2_0,
  .ret (.tup [(.idx (.lst false [(.cS [109, 97, 105, 110]), (.cS [102]), (.cS [97, 98, 99, 100, 101, 102, 103, 104])]) (.call 0 [(.nm 0), (.cI 3)])), (.call 0 [(.nm 0), (.cI 40)]), (.nm 2)])]
def f2 : Fd := ⟨1, 4, b2⟩
/-- _law_bent -/
abbrev N3 : List Str := ["pool", "one", "title", "at", "worths", "way"]
abbrev s3 : Stmt := top 6
abbrev q3 : He.DefD := ⟨("_law_bent", none), "_law_bent", "_law_bent", defArgs s3, defBody s3, defScope s3, [], []⟩
def b3 : List Sm := [.asg (.t (.tup [(.nm 2), (.nm 3), (.nm 4)])) (.nm 1),
  .asg (.t (.nm 5)) (.call 0 [(.nm 0), (.cI 4)]),
  .ifs (.cmp .Eq (.nm 5) (.cI 0)) [.ret (.tup [(.bin .Add false (.idx (.lst false [(.cS [122]), (.cS [121])]) (.bi .int [(.cmp .Eq (.sl false (.nm 2) [] [(.cI 1)]) (.cS [122]))])) (.sl false (.nm 2) [(.cI 1)] [])), (.nm 3), (.nm 4)])] [],
  .ifs (.cmp .Eq (.nm 5) (.cI 1)) [.ret (.tup [(.nm 2), (.bin .Mod false (.bin .Add false (.nm 3) (.cI 1)) (.cI 40)), (.nm 4)])] [],
  .ifs (.cmp .Eq (.nm 5) (.cI 2)) [.ret (.tup [(.nm 2), (.nm 3), (.bin .Add false (.nm 4) (.lst false [(.cI 0)]))])] [],
  .ret (.tup [(.nm 2), (.nm 3), (.bin .Add false (.lst false [.cN]) (.sl false (.nm 4) [(.cI 1)] []))])]
def f3 : Fd := ⟨2, 6, b3⟩
/-- _law_right -/
abbrev N4 : List Str := ["one", "title", "at", "worths", "handed", "frame", "text", "turn"]
abbrev s4 : Stmt := top 7
abbrev q4 : He.DefD := ⟨("_law_right", none), "_law_right", "_law_right", defArgs s4, defBody s4, defScope s4, [], []⟩
def u4_0 : List Sm := [.ifs (.or_ (.cmp .NotEq (.tup [(.mth "function" (.nm 5) []), (.mth "stands" (.nm 5) []), (.mth "worths" (.nm 5) [])]) (.nm 0)) (.cmp .NotEq (.lenO (.nm 5)) (.bi .len [(.nm 3)]))) [.ret (.cB false)] [], .ifs (.or_ (.cmp .NotEq (.rpI (.nm 5)) (.nm 6)) (.or_ (.cmp .NotEq (.strL (.nm 5)) (.bin .Add false (.bin .Add false (.cS [91]) (.nm 6)) (.cS [93]))) (.cmp .NotEq (.boI (.nm 5)) (.cmp .NotEq (.nm 3) (.lst false []))))) [.ret (.cB false)] [], .ex (.bm .append (.mth "worths" (.nm 5) []) [(.cI 7)]), .ex (.bm .append (.nm 4) [.cN])]
def w4_0 : Sm := .forr (.nm 7) .rng [(.cI 2)] u4_0
def b4 : List Sm := [.asg (.t (.tup [(.nm 1), (.nm 2), (.nm 3)])) (.nm 0),
  .asg (.t (.nm 4)) (.bi (.list true) [(.nm 3)]),
  .asg (.t (.nm 5)) (.mk 0 [(.nm 1), (.nm 2), (.nm 4)]),
  .asg (.t (.nm 6)) (.bin .Add false (.bin .Add false (.bin .Add false (.bin .Add false (.bin .Add false (.bin .Add false (.cS [70, 114, 97, 109, 101, 40]) (.bi .repr [(.nm 1)])) (.cS [44, 32])) (.bi .str [(.nm 2)])) (.cS [44, 32])) (.bi .repr [(.nm 3)])) (.cS [41])),
  w4_0,
  .ret (.cB true)]
def f4 : Fd := ⟨1, 8, b4⟩
/-- law -/
abbrev N5 : List Str := ["script", "k", "pool", "one", "other", "here", "there", "found", "thing"]
abbrev s5 : Stmt := top 8
abbrev q5 : He.DefD := ⟨("law", none), "law", "law", defArgs s5, defBody s5, defScope s5, [], []⟩
def u5_0 : List Sm := [.ifs (.or_ (.no_ (.isi (.nm 7) .bool)) (.cmp .NotEq (.nm 7) (.cmp .Eq (.nm 3) (.nm 4)))) [.ret (.cB false)] []]
def w5_0 : Sm := .forr (.nm 7) .seq [(.lst false [(.cmpI false (.nm 5) (.nm 6)), (.cmpI false (.nm 6) (.nm 5))])] u5_0
def e5_0 : E := .lc false (.nm 8) (.nm 8) .seq [(.lst false [(.nm 3), (.idx (.nm 3) (.cI 2)), .cN, (.cI 0)])] [(.cmpI false (.nm 5) (.nm 8))] [("thing", 8)]
def u5_1 : List Sm := [.asg (.t (.nm 2)) (.call 1 [(.nm 0), (.nm 1)]), .asg (.t (.nm 3)) (.call 2 [(.nm 2)]), .asg (.t (.nm 4)) (.call 3 [(.nm 2), (.nm 3)]), .asg (.t (.nm 5)) (.mk 0 [(.idx (.nm 3) (.cI 0)), (.idx (.nm 3) (.cI 1)), (.idx (.nm 3) (.cI 2))]), .asg (.t (.nm 6)) (.kmk 0 0 [] [(.idx (.nm 4) (.cI 2)), (.idx (.nm 4) (.cI 1)), (.idx (.nm 4) (.cI 0))]), .ifs (.or_ (.no_ (.call 4 [(.nm 3)])) (.no_ (.call 4 [(.nm 4)]))) [.ret (.cB false)] [], w5_0, .ifs (.cmpI true (.nm 5) (.mk 0 [(.idx (.nm 3) (.cI 0)), (.idx (.nm 3) (.cI 1)), (.bi (.list false) [(.idx (.nm 3) (.cI 2))])])) [.ret (.cB false)] [], .ifs (.cmp .NotEq e5_0 (.lst false [])) [.ret (.cB false)] []]
def w5_1 : Sm := .forr (.nm 1) .rng [(.bi .max [(.cI 1), (.bi .min [(.bi .len [(.nm 0)]), (.cI 40)])])] u5_1
def b5 : List Sm := [w5_1,
  .ret (.cB true)]
def f5 : Fd := ⟨1, 9, b5⟩
/-- __init__ -/
abbrev N6 : List Str := ["self", "name", "row", "values"]
abbrev s6 : Stmt := clsAt (top 1) 0
abbrev q6 : He.DefD := ⟨("Frame", some "__init__"), "__init__", "Frame.__init__", defArgs s6, defBody s6, defScope s6, [], []⟩
def b6 : List Sm := [.asg (.fld (.nm 0) "own_name") (.nm 1),
  .asg (.fld (.nm 0) "own_row") (.nm 2),
  .asg (.fld (.nm 0) "own_worths") (.bi (.list true) [(.nm 3)])]
def f6 : Fd := ⟨4, 4, b6⟩
/-- __len__ -/
abbrev N7 : List Str := ["self"]
abbrev s7 : Stmt := clsAt (top 1) 1
abbrev q7 : He.DefD := ⟨("Frame", some "__len__"), "__len__", "Frame.__len__", defArgs s7, defBody s7, defScope s7, [], []⟩
def b7 : List Sm := [.ret (.bi .len [(.fld (.nm 0) "own_worths")])]
def f7 : Fd := ⟨1, 1, b7⟩
/-- __eq__ -/
abbrev N8 : List Str := ["self", "other"]
abbrev s8 : Stmt := clsAt (top 1) 2
abbrev q8 : He.DefD := ⟨("Frame", some "__eq__"), "__eq__", "Frame.__eq__", defArgs s8, defBody s8, defScope s8, [], []⟩
def b8 : List Sm := [.ifs (.no_ (.isi (.nm 1) (.own 0))) [.ret (.cB false)] [],
  .ifs (.cmp .NotEq (.tup [(.fld (.nm 0) "own_name"), (.fld (.nm 0) "own_row")]) (.tup [(.fld (.nm 1) "own_name"), (.fld (.nm 1) "own_row")])) [.ret (.cB false)] [],
  .ret (.cmp .Eq (.fld (.nm 0) "own_worths") (.fld (.nm 1) "own_worths"))]
def f8 : Fd := ⟨2, 2, b8⟩
/-- __repr__ -/
abbrev N9 : List Str := ["self"]
abbrev s9 : Stmt := clsAt (top 1) 3
abbrev q9 : He.DefD := ⟨("Frame", some "__repr__"), "__repr__", "Frame.__repr__", defArgs s9, defBody s9, defScope s9, [], []⟩
def b9 : List Sm := [.ret (.fs [(.cS [70, 114, 97, 109, 101, 40]), (.fmt true (.fld (.nm 0) "own_name")), (.cS [44, 32]), (.fmt false (.fld (.nm 0) "own_row")), (.cS [44, 32]), (.fmt true (.fld (.nm 0) "own_worths")), (.cS [41])])]
def f9 : Fd := ⟨1, 1, b9⟩
/-- function -/
abbrev N10 : List Str := ["self"]
abbrev s10 : Stmt := clsAt (top 1) 4
abbrev q10 : He.DefD := ⟨("Frame", some "function"), "function", "Frame.function", defArgs s10, defBody s10, defScope s10, [], []⟩
def b10 : List Sm := [.ret (.fld (.nm 0) "own_name")]
def f10 : Fd := ⟨1, 1, b10⟩
/-- stands -/
abbrev N11 : List Str := ["self"]
abbrev s11 : Stmt := clsAt (top 1) 5
abbrev q11 : He.DefD := ⟨("Frame", some "stands"), "stands", "Frame.stands", defArgs s11, defBody s11, defScope s11, [], []⟩
def b11 : List Sm := [.ret (.fld (.nm 0) "own_row")]
def f11 : Fd := ⟨1, 1, b11⟩
/-- worths -/
abbrev N12 : List Str := ["self"]
abbrev s12 : Stmt := clsAt (top 1) 6
abbrev q12 : He.DefD := ⟨("Frame", some "worths"), "worths", "Frame.worths", defArgs s12, defBody s12, defScope s12, [], []⟩
def b12 : List Sm := [.ret (.bi (.list true) [(.fld (.nm 0) "own_worths")])]
def f12 : Fd := ⟨1, 1, b12⟩
def fn : List He.DefD := [q0, q1, q2, q3, q4, q5, q6, q7, q8, q9, q10, q11, q12]
def ds : List (Option Fd) := [some f0, some f1, some f2, some f3, some f4, some f5, some f6, some f7, some f8, some f9, some f10, some f11, some f12]
def dnames : List (Option Str) := [some ("_law_draw" : Str), some ("_law_pool" : Str), some ("_law_made" : Str), some ("_law_bent" : Str), some ("_law_right" : Str), some ("law" : Str), none, none, none, none, none, none, none]
def clss : List Ci := [⟨"Frame", (some 6), [("__len__", 7), ("__eq__", 8), ("__repr__", 9), ("function", 10), ("stands", 11), ("worths", 12)], ["own_name", "own_row", "own_worths"]⟩]
def xcs : List (Str × List Str) := []
def xo : List Str := []
def dft : List Dq := []
def kwc : List Kc := [⟨6, 1, ["values", "row", "name"], [0, 3, 2, 1]⟩]
def G : Gt := ⟨consts, clss, xcs, dnames, kwc, tabs, dft, xo⟩
theorem o0 : DOk G q0 N0 f0 := ⟨⟨⟨rfl, rfl, rfl, by decide +kernel, rfl, by decide +kernel, by decide +kernel⟩, by decide, rfl, by decide +kernel⟩, rfl, fun _ _ _ _ _ _ us hl => match us, hl with | [_, _], _ => rfl⟩
theorem o1 : DOk G q1 N1 f1 := ⟨⟨⟨rfl, rfl, rfl, by decide +kernel, rfl, by decide +kernel, by decide +kernel⟩, by decide, rfl, by decide +kernel⟩, rfl, fun _ _ _ _ _ _ us hl => match us, hl with | [_, _], _ => rfl⟩
theorem o2 : DOk G q2 N2 f2 := ⟨⟨⟨rfl, rfl, rfl, by decide +kernel, rfl, by decide +kernel, by decide +kernel⟩, by decide, rfl, by decide +kernel⟩, rfl, fun _ _ _ _ _ _ us hl => match us, hl with | [_], _ => rfl⟩
theorem o3 : DOk G q3 N3 f3 := ⟨⟨⟨rfl, rfl, rfl, by decide +kernel, rfl, by decide +kernel, by decide +kernel⟩, by decide, rfl, by decide +kernel⟩, rfl, fun _ _ _ _ _ _ us hl => match us, hl with | [_, _], _ => rfl⟩
theorem o4 : DOk G q4 N4 f4 := ⟨⟨⟨rfl, rfl, rfl, by decide +kernel, rfl, by decide +kernel, by decide +kernel⟩, by decide, rfl, by decide +kernel⟩, rfl, fun _ _ _ _ _ _ us hl => match us, hl with | [_], _ => rfl⟩
theorem o5 : DOk G q5 N5 f5 := ⟨⟨⟨rfl, rfl, rfl, by decide +kernel, rfl, by decide +kernel, by decide +kernel⟩, by decide, rfl, by decide +kernel⟩, rfl, fun _ _ _ _ _ _ us hl => match us, hl with | [_], _ => rfl⟩
theorem o6 : DOk G q6 N6 f6 := ⟨⟨⟨rfl, rfl, rfl, by decide +kernel, rfl, by decide +kernel, by decide +kernel⟩, by decide, rfl, by decide +kernel⟩, rfl, fun _ _ _ _ _ _ us hl => match us, hl with | [_, _, _, _], _ => rfl⟩
theorem o7 : DOk G q7 N7 f7 := ⟨⟨⟨rfl, rfl, rfl, by decide +kernel, rfl, by decide +kernel, by decide +kernel⟩, by decide, rfl, by decide +kernel⟩, rfl, fun _ _ _ _ _ _ us hl => match us, hl with | [_], _ => rfl⟩
theorem o8 : DOk G q8 N8 f8 := ⟨⟨⟨rfl, rfl, rfl, by decide +kernel, rfl, by decide +kernel, by decide +kernel⟩, by decide, rfl, by decide +kernel⟩, rfl, fun _ _ _ _ _ _ us hl => match us, hl with | [_, _], _ => rfl⟩
theorem o9 : DOk G q9 N9 f9 := ⟨⟨⟨rfl, rfl, rfl, by decide +kernel, rfl, by decide +kernel, by decide +kernel⟩, by decide, rfl, by decide +kernel⟩, rfl, fun _ _ _ _ _ _ us hl => match us, hl with | [_], _ => rfl⟩
theorem o10 : DOk G q10 N10 f10 := ⟨⟨⟨rfl, rfl, rfl, by decide +kernel, rfl, by decide +kernel, by decide +kernel⟩, by decide, rfl, by decide +kernel⟩, rfl, fun _ _ _ _ _ _ us hl => match us, hl with | [_], _ => rfl⟩
theorem o11 : DOk G q11 N11 f11 := ⟨⟨⟨rfl, rfl, rfl, by decide +kernel, rfl, by decide +kernel, by decide +kernel⟩, by decide, rfl, by decide +kernel⟩, rfl, fun _ _ _ _ _ _ us hl => match us, hl with | [_], _ => rfl⟩
theorem o12 : DOk G q12 N12 f12 := ⟨⟨⟨rfl, rfl, rfl, by decide +kernel, rfl, by decide +kernel, by decide +kernel⟩, by decide, rfl, by decide +kernel⟩, rfl, fun _ _ _ _ _ _ us hl => match us, hl with | [_], _ => rfl⟩
theorem ok : ∀ (d : Nat) (fd : Fd), ds[d]? = some (some fd) → ∃ dd N, fn[d]? = some dd ∧ DAny G dd N fd := by
  intro d fd h
  match d, h with
  | 0, h => cases h; exact ⟨_, _, rfl, .inl o0⟩
  | 1, h => cases h; exact ⟨_, _, rfl, .inl o1⟩
  | 2, h => cases h; exact ⟨_, _, rfl, .inl o2⟩
  | 3, h => cases h; exact ⟨_, _, rfl, .inl o3⟩
  | 4, h => cases h; exact ⟨_, _, rfl, .inl o4⟩
  | 5, h => cases h; exact ⟨_, _, rfl, .inl o5⟩
  | 6, h => cases h; exact ⟨_, _, rfl, .inl o6⟩
  | 7, h => cases h; exact ⟨_, _, rfl, .inl o7⟩
  | 8, h => cases h; exact ⟨_, _, rfl, .inl o8⟩
  | 9, h => cases h; exact ⟨_, _, rfl, .inl o9⟩
  | 10, h => cases h; exact ⟨_, _, rfl, .inl o10⟩
  | 11, h => cases h; exact ⟨_, _, rfl, .inl o11⟩
  | 12, h => cases h; exact ⟨_, _, rfl, .inl o12⟩
  | _ + 13, h => simp [ds] at h
theorem xi : XiAll G fn := by
  exact xi_none rfl
theorem dfa : DftAll G fn ds := by
  exact dft_none rfl
theorem kw : KwAll G fn ds := by
  intro i kc e
  match i, e with
  | 0, e => cases e; exact ⟨q6, N6, f6, rfl, rfl, o6, by decide, by decide, fun _ _ _ _ _ _ us ws h1 h2 => match us, ws, h1, h2 with | [_], [_, _, _], _, _ => rfl⟩
  | _ + 1, e => simp [G, kwc] at e
end K23
namespace K23
open PySem PySem.Spec PyProof.Rows L2 Lt
abbrev fa : List He.Fa := faOf G (G.clss.flatMap ciFa ++ (xcFa G ++ []))
abbrev RR : PySem.W.OpenRow := PySem.W.OpenLaw.row PySem.Challenge.rw_unmadethings_k23_frames_told
def ex (K : PySem.W.Frag) : Bool := exOf tabs K && (clsB (G.clss.map (·.name)) K && (G.consts.all (ktB K) && (dftB G fn K && xcsB G K)))
def asL : List Addr := [3, 6, 4, 73, 84, 91, 96, 103, 110, 115, 0, 72, 83, 90, 95, 102, 109, 114, 28, 35, 42, 49, 56, 63, 70, 71, 74, 75, 78, 79, 80, 81, 82, 85, 86, 87, 88, 89, 92, 93, 94, 97, 98, 99, 100, 101, 104, 105, 106, 107, 108, 111, 112, 113, 27, 34, 41, 48, 55, 62, 69]
abbrev hk : PySem.W.Hook := hookY asL fa fn (tsOf tabs) ex
def ob (s : PySem.W.SharedT) : He.AlX := obY asL fa fn (tsOf tabs) ex (HandSHeadRun.getT s)
theorem ob_eq (s : PySem.W.SharedT) : ob s = hk.obs s.abs := obY_eq (HandSHeadRun.getT_eq s)
def loose : List Str := (["Frame", "_law_draw", "_law_pool", "_law_made", "_law_bent", "_law_right"] : List Str)
theorem run_f (w : World) : HandSHeadRun.RunEq RR (PySem.W.view RR.prog [8]) hk ob 8000 loose (setFT w false) := by
  intro os
  kernel_rfl
theorem run_t (w : World) : HandSHeadRun.RunEq RR (PySem.W.view RR.prog [8]) hk ob 8000 loose (setFT w true) := by
  intro os
  kernel_rfl
theorem run_at (w : World) (b : Bool) : HandSHeadRun.RunEq RR (PySem.W.view RR.prog [8]) hk ob 8000 loose (setFT w b) := by
  cases b
  · exact run_f w
  · exact run_t w
theorem run (w : World) : HandSHeadRun.RunEq RR (PySem.W.view RR.prog [8]) hk ob 8000 loose w := by
  rw [setFT_eq w]
  exact run_at w _
end K23
namespace K23
open PySem L2 Lt
local macro_rules | `(tactic| wtm_at "wp1") => `(tactic| with_reducible first
  | refine s_cons ?_ | (refine s_nil ?_; try dsimp only [nxt, turn]) | refine s_asg ?_ | refine s_ret ?_ | refine s_ifs ?_ | refine s_ex ?_ | refine s_sub ?_
  | refine w_nil ?_ | refine w_cons ?_
  | refine w_cI ?_ | refine w_cS ?_ | refine w_cN ?_ | refine w_cB ?_
  | refine w_idx ?_ | refine w_call ?_ | refine w_bi ?_ | refine w_tup ?_ | refine w_lst ?_ | refine w_lstT ?_ | refine w_bin ?_ | refine w_neg ?_ | refine w_no ?_ | refine w_cmp ?_
  | refine w_dic0 ?_ | refine w_dic ?_ | refine w_bm ?_ | refine w_isi ?_ | refine w_frz ?_ | refine w_ifx ?_
  | refine t_cmp ?_ | refine t_and ?_ | refine t_or ?_ | refine t_not ?_ | refine t_of ?_
  | refine c_nil ?_ | refine c_one ?_ | refine i_seq ?_ | refine i_rng ?_)
local macro_rules | `(tactic| wtm_at "wp2") => `(tactic| first
  | (with_reducible refine w_nmE ?_; refine ⟨_, rfl, ?_⟩)
  | refine ⟨_, eq_int, ?_⟩ | refine ⟨_, eq_str, ?_⟩ | refine ⟨_, ne_int, ?_⟩ | refine ⟨_, ne_str, ?_⟩
  | ((with_reducible first | refine p_bi ?_ | refine p_bin ?_ | refine p_bm ?_ | refine p_mk ?_); refine ⟨_, _, rfl, ?_⟩)
  | refine ⟨_, rfl, ?_⟩ | refine and_ff ?_ | refine and_tt ?_)
local macro_rules | `(tactic| wtm_at "wp") => `(tactic| repeat (first | wtm_at "wp1" | (wtm_at "wp2"; try dsimp only [nxt, turn, List.set])))
local macro_rules | `(tactic| wtm_at "wp1") => `(tactic| with_reducible first | refine w_sl ?_ | refine w_and ?_ | refine w_or ?_ | refine s_retN ?_ | refine s_pass ?_ | refine s_brk ?_ | refine s_cont ?_)
local macro_rules | `(tactic| wtm_at "wp1") => `(tactic| with_reducible first | refine i_sgn ?_ | refine i_enum ?_ | refine i_zip ?_ | refine w_tab ?_ | refine w_tabIn ?_)
local macro_rules | `(tactic| wtm_at "wp1") => `(tactic| with_reducible first | refine w_lk ?_ | refine s_lk ?_ | refine w_lenO ?_ | refine w_lsv ?_ | refine w_lsi ?_ | refine w_tabGet ?_ | refine i_keys ?_ | refine i_vals ?_ | refine i_items ?_)
local macro_rules | `(tactic| wtm_at "wp1") => `(tactic| with_reducible first | refine w_fld ?_ | refine w_mth ?_ | refine w_mk ?_ | refine s_fld ?_)
local macro_rules | `(tactic| wtm_at "wp1") => `(tactic| with_reducible first | refine w_rpI ?_ | refine w_strL ?_ | refine w_boI ?_ | refine w_cmpI ?_ | refine w_rev ?_ | refine w_fmt ?_ | refine w_fs ?_ | refine w_denf_cons ?_ | refine w_denf_nil ?_ | refine w_kmk ?_ | refine w_mk2 ?_)
/-! ### values -/
theorem beq_sym {α : Type} [BEq α] [LawfulBEq α] (a b : α) : (a == b) = (b == a) := by
  rw [Bool.eq_iff_iff]
  simp only [beq_iff_eq]
  exact eq_comm
mutual
theorem eqv_comm : ∀ (a b : A), A.eqv a b = A.eqv b a
  | .non, b => by cases b <;> simp [A.eqv]
  | .bl x, b => by cases b <;> simp only [A.eqv] <;> exact beq_sym _ _
  | .int x, b => by cases b <;> simp only [A.eqv] <;> exact beq_sym _ _
  | .str x, b => by cases b <;> simp only [A.eqv] <;> exact beq_sym _ _
  | .ref n, b => by cases b <;> simp [A.eqv]
  | .scr n, b => by cases b <;> simp [A.eqv]
  | .ktup n, b => by cases b <;> simp [A.eqv]
  | .tup xs, b => by cases b <;> simp only [A.eqv] <;> exact eqvs_comm _ _
  | .lst xs, b => by cases b <;> simp only [A.eqv] <;> exact eqvs_comm _ _
theorem eqvs_comm : ∀ (a b : List A), A.eqvs a b = A.eqvs b a
  | [], [] => rfl
  | [], _ :: _ => by simp [A.eqvs]
  | _ :: _, [] => by simp [A.eqvs]
  | x :: xs, y :: ys => by simp only [A.eqvs, eqv_comm x y, eqvs_comm xs ys]
end
mutual
theorem eqv_refl : ∀ (a : A), a.pure = true → A.eqv a a = true
  | .non, _ => rfl
  | .bl x, _ => by simp [A.eqv]
  | .int x, _ => by simp [A.eqv]
  | .str x, _ => by simp [A.eqv]
  | .ref n, h => by cases h
  | .scr n, h => by cases h
  | .ktup n, h => by cases h
  | .tup xs, h => by simp only [A.eqv]; exact eqvs_refl xs h
  | .lst xs, h => by simp only [A.eqv]; exact eqvs_refl xs h
theorem eqvs_refl : ∀ (a : List A), A.pures a = true → A.eqvs a a = true
  | [], _ => rfl
  | x :: xs, h => by
    simp only [A.pures, Bool.and_eq_true] at h
    simp only [A.eqvs, eqv_refl x h.1, eqvs_refl xs h.2, Bool.and_self]
end
/-- a frame's values -/
def menuL : List A := [.int 0, .int 1, .int (-5), .non, .tup [.str [116, 104, 105, 110, 103], .int 0], .tup [.str [116, 104, 105, 110, 103], .int 3], .int 1000000000000000000]
structure WsV (ws : List A) : Prop where
  pu : A.pures ws = true
  dp : A.depths ws ≤ 2
  ni : A.nices ws = true
  wt : A.wts ws ≤ 100 * ws.length
theorem menu_ok : ∀ v ∈ menuL, v.pure = true ∧ v.depth ≤ 2 ∧ v.nice = true ∧ v.wt ≤ 90 := by
  intro v hv
  simp only [menuL, List.mem_cons, List.not_mem_nil, or_false] at hv
  rcases hv with rfl | rfl | rfl | rfl | rfl | rfl | rfl <;> exact ⟨by decide, by decide, by decide, by decide⟩
theorem WsV.nil : WsV [] := ⟨rfl, by decide, rfl, by decide⟩
theorem WsV.cons {v : A} {ws : List A} (hv : v ∈ menuL) (h : WsV ws) : WsV (v :: ws) := by
  obtain ⟨a, b, c, d⟩ := menu_ok v hv
  exact ⟨by simp [A.pures, a, h.pu], by simp only [A.depths]; have := h.dp; omega, by simp [A.nices, c, h.ni], by simp only [A.wts, List.length_cons]; have := h.wt; omega⟩
theorem wsv_of : ∀ {ws : List A}, (∀ v ∈ ws, v ∈ menuL) → WsV ws
  | [], _ => .nil
  | v :: ws, h => .cons (h v List.mem_cons_self) (wsv_of fun u hu => h u (List.mem_cons_of_mem _ hu))
/-- a name, a row, values -/
structure Tr where
  t : List Nat
  at_ : Int
  ws : List A
def Tr.v (o : Tr) : A := .tup [.str o.t, .int o.at_, .lst o.ws]
structure Ok (o : Tr) : Prop where
  t1 : o.t.length ≤ 9
  t2 : ∀ c ∈ o.t, c < 0x110000
  a0 : 0 ≤ o.at_
  a1 : o.at_ < 40
  ws : ∀ v ∈ o.ws, v ∈ menuL
  l : o.ws.length ≤ 8
theorem Ok.wv {o : Tr} (h : Ok o) : WsV o.ws := wsv_of h.ws
theorem Ok.nice {o : Tr} (h : Ok o) : o.v.nice = true := by
  have a := h.a0
  have b := h.a1
  have : o.at_.natAbs < 10 ^ 19 := by omega
  simp only [Tr.v, A.nice, A.nices, h.wv.ni, this, decide_true, Bool.and_true]
  rw [List.all_eq_true]
  intro c hc
  simpa using h.t2 c hc
theorem Ok.pure {o : Tr} (h : Ok o) : o.v.pure = true := by simp [Tr.v, A.pure, A.pures, h.wv.pu]
theorem Ok.dep {o : Tr} (h : Ok o) : o.v.depth ≤ 5 := by
  have := h.wv.dp
  simp only [Tr.v, A.depth, A.depths]; omega
/-! ### equality -/
theorem eq_pure {S : List O} {a b : A} (ha : (der S a).pure = true) (hb : (der S b).pure = true) (hd : (der S a).depth ≤ 60) : eqO S a b = some ((der S a).eqv (der S b)) := by
  unfold eqO
  have : fitsEq (der S a) (der S b) = true := by
    simp only [fitsEq, ha, hb, Bool.true_and, decide_eq_true_eq]
    exact Nat.le_trans (Nat.min_le_left _ _) (by omega)
  rw [if_pos this]
theorem eq_deep {S : List O} {a b x y : A} (hx : derD S 6 a = x) (hy : derD S 6 b = y) (hn : fitsEq (der S a) (der S b) = false ∨ (der S a = x ∧ der S b = y)) (ha : x.pure = true) (hb : y.pure = true) (hd : x.depth ≤ 60) : eqO S a b = some (x.eqv y) := by
  have f : fitsEq x y = true := by
    simp only [fitsEq, ha, hb, Bool.true_and, decide_eq_true_eq]
    exact Nat.le_trans (Nat.min_le_left _ _) (by omega)
  unfold eqO
  rcases hn with hn | ⟨h1, h2⟩
  · rw [if_neg (by rw [hn]; decide), hx, hy, if_pos f]
  · rw [h1, h2, if_pos f]
/-! ### pools -/
theorem d_draw {k : Nat} {S : List O} {n : Nat} {m : Int} {P : A → List O → Prop} (hS : Pool S n) (hm : 0 < m) (hm2 : m < 1073741824)
    (h : ∀ z S', 0 ≤ z → z < m → Pool S' n → Oth n S S' → P (.int z) S') : okk (I G ds (k + 1) 0 [.ref n, .int m] S) P := by
  rw [I_succ G (fd := f0) (by rfl)]
  obtain ⟨z, S', e, h1, h2, h3, h4⟩ := draw_pool G (I G ds k) hS hm hm2
  exact .of (show runF G (I G ds k) drawF _ _ = _ from e) (h z S' h1 h2 h3 h4)
theorem d_pool {k : Nat} {S : List O} {ns : List Int} {j : Nat} {P : A → List O → Prop} (hj : j < 1000) (h : ∀ T, Pool (S ++ [T]) S.length → P (.ref S.length) (S ++ [T])) : okk (I G ds (k + 1) 1 [.scr (ns.map .int), .int (j : Int)] S) P := by
  rw [I_succ G (fd := f1) (by rfl)]
  obtain ⟨a, b, e, h1, h2, h3⟩ := pool_spec G (I G ds k) S ns j hj
  exact .of (show runF G (I G ds k) poolF _ _ = _ from e) (h _ (pool_new h1 h2 h3))
/-- what is drawn -/
theorem i_made {k : Nat} {S : List O} {n : Nat} {P : A → List O → Prop} (hS : Pool S n) (h : ∀ (o : Tr) S', Ok o → o.t.length ≤ 8 → o.ws.length ≤ 7 → Pool S' n → Oth n S S' → P o.v S') : okk (I G ds (k + 2) 2 [.ref n] S) P := by
  have z : (1000 : Nat) ≤ sizeLine := by decide
  rw [I_succ G (fd := f2) (by rfl)]
  refine run_ok rfl ?_
  show oks (denSs G (I G ds (k + 1)) b2 [some (.ref n), none, none, none] S) _
  rw [b2]
  wtm_at "wp"
  rw [e2_0]
  refine w_lc (fun zs i acc S5 => (∀ v ∈ acc, v ∈ menuL) ∧ acc.length = i ∧ Pool S5 n ∧ Oth n S S5) ?_
  wtm_at "wp"
  refine d_draw hS (by omega) (by omega) fun z1 S2 a1 a2 h2 o2 => ?_
  refine ⟨z1.toNat, by simp; omega, by omega, ?_⟩
  refine ⟨by rw [rngA_len]; exact Nat.le_trans (by omega) z, ⟨by simp, rfl, h2, o2⟩, ?_, ?_⟩
  · rintro i x acc U hx ⟨g1, g2, g3, g4⟩
    refine ⟨gd_nil _, _, rfl, ?_⟩
    wtm_at "wp"
    refine d_draw g3 (by omega) (by omega) fun z2 S3 b1 b2 h3 o3 => ?_
    refine pick b1 (by simpa using b2) fun v hv => ?_
    refine ⟨fun u hu => ?_, by simp [g2], h3, g4.trans o3⟩
    rcases List.mem_append.mp hu with hu | hu
    · exact g1 u hu
    · rw [List.mem_singleton.mp hu]
      exact hv
  rintro ws S3 ⟨v1, ln, h3, o3⟩
  rw [rngA_len] at ln
  refine ⟨gd_nil _, .ok ?_⟩
  wtm_at "wp"
  refine d_draw h3 (by omega) (by omega) fun z2 S4 b1 b2 h4 o4 => ?_
  refine pick b1 (by simpa using b2) fun v hv => ?_
  wtm_at "wp"
  refine d_draw h4 (by omega) (by omega) fun z3 S5 c1 c2 h5 o5 => ?_
  wtm_at "wp"
  obtain ⟨t, rfl, ht1, ht2⟩ : ∃ t : List Nat, v = .str t ∧ t.length ≤ 8 ∧ ∀ c ∈ t, c < 0x110000 := by
    simp only [List.mem_cons, List.not_mem_nil, or_false] at hv
    rcases hv with rfl | rfl | rfl
    · exact ⟨_, rfl, by decide, by decide⟩
    · exact ⟨_, rfl, by decide, by decide⟩
    · exact ⟨_, rfl, by decide, by decide⟩
  exact h ⟨t, z3, ws⟩ S5 ⟨by show t.length ≤ 9; omega, ht2, c1, c2, v1, by show ws.length ≤ 8; omega⟩ ht1 (by show ws.length ≤ 7; omega) h5 (o3.trans (o4.trans o5))
end K23
namespace K23
open PySem L2 Lt
local macro_rules | `(tactic| wtm_at "wp1") => `(tactic| with_reducible first
  | refine s_cons ?_ | (refine s_nil ?_; try dsimp only [nxt, turn]) | refine s_asg ?_ | refine s_ret ?_ | refine s_ifs ?_ | refine s_ex ?_ | refine s_sub ?_
  | refine w_nil ?_ | refine w_cons ?_
  | refine w_cI ?_ | refine w_cS ?_ | refine w_cN ?_ | refine w_cB ?_
  | refine w_idx ?_ | refine w_call ?_ | refine w_bi ?_ | refine w_tup ?_ | refine w_lst ?_ | refine w_lstT ?_ | refine w_bin ?_ | refine w_neg ?_ | refine w_no ?_ | refine w_cmp ?_
  | refine w_dic0 ?_ | refine w_dic ?_ | refine w_bm ?_ | refine w_isi ?_ | refine w_frz ?_ | refine w_ifx ?_
  | refine t_cmp ?_ | refine t_and ?_ | refine t_or ?_ | refine t_not ?_ | refine t_of ?_
  | refine c_nil ?_ | refine c_one ?_ | refine i_seq ?_ | refine i_rng ?_)
local macro_rules | `(tactic| wtm_at "wp2") => `(tactic| first
  | (with_reducible refine w_nmE ?_; refine ⟨_, rfl, ?_⟩)
  | refine ⟨_, eq_int, ?_⟩ | refine ⟨_, eq_str, ?_⟩ | refine ⟨_, ne_int, ?_⟩ | refine ⟨_, ne_str, ?_⟩
  | ((with_reducible first | refine p_bi ?_ | refine p_bin ?_ | refine p_bm ?_ | refine p_mk ?_); refine ⟨_, _, rfl, ?_⟩)
  | refine ⟨_, rfl, ?_⟩ | refine and_ff ?_ | refine and_tt ?_)
local macro_rules | `(tactic| wtm_at "wp") => `(tactic| repeat (first | wtm_at "wp1" | (wtm_at "wp2"; try dsimp only [nxt, turn, List.set])))
local macro_rules | `(tactic| wtm_at "wp1") => `(tactic| with_reducible first | refine w_sl ?_ | refine w_and ?_ | refine w_or ?_ | refine s_retN ?_ | refine s_pass ?_ | refine s_brk ?_ | refine s_cont ?_)
local macro_rules | `(tactic| wtm_at "wp1") => `(tactic| with_reducible first | refine i_sgn ?_ | refine i_enum ?_ | refine i_zip ?_ | refine w_tab ?_ | refine w_tabIn ?_)
local macro_rules | `(tactic| wtm_at "wp1") => `(tactic| with_reducible first | refine w_lk ?_ | refine s_lk ?_ | refine w_lenO ?_ | refine w_lsv ?_ | refine w_lsi ?_ | refine w_tabGet ?_ | refine i_keys ?_ | refine i_vals ?_ | refine i_items ?_)
local macro_rules | `(tactic| wtm_at "wp1") => `(tactic| with_reducible first | refine w_fld ?_ | refine w_mth ?_ | refine w_mk ?_ | refine s_fld ?_)
local macro_rules | `(tactic| wtm_at "wp1") => `(tactic| with_reducible first | refine w_rpI ?_ | refine w_strL ?_ | refine w_boI ?_ | refine w_cmpI ?_ | refine w_rev ?_ | refine w_fmt ?_ | refine w_fs ?_ | refine w_denf_cons ?_ | refine w_denf_nil ?_ | refine w_kmk ?_ | refine w_mk2 ?_)
theorem bi_list {fl : Bool} {S : List O} {x : A} {xs : List A} (h : seqO S x = some xs) : biO (.list fl) [x] S = mkL fl xs S := by
  cases x <;> first | (cases h; done) | (simp only [biO, h])
theorem pre_at {S S' : List O} {j : Nat} {o : O} (k : S <+: S') (h : S[j]? = some o) : S'[j]? = some o := by
  obtain ⟨T, rfl⟩ := k
  rw [List.getElem?_append_left (List.getElem?_eq_some_iff.mp h).1]; exact h
/-- a Frame at c, its values at q -/
structure FrI (S : List O) (c q : Nat) (o : Tr) : Prop where
  cA : S[c]? = some (.ins 0 [("own_name", .str o.t), ("own_row", .int o.at_), ("own_worths", .ref q)])
  qA : S[q]? = some (.lst o.ws)
theorem FrI.ext {S S' : List O} {c q : Nat} {o : Tr} (h : FrI S c q o) (k : ∀ j, j = c ∨ j = q → S'[j]? = S[j]?) : FrI S' c q o := ⟨(k c (.inl rfl)).trans h.cA, (k q (.inr rfl)).trans h.qA⟩
theorem FrI.lt {S : List O} {c q : Nat} {o : Tr} (h : FrI S c q o) : c < S.length ∧ q < S.length := ⟨(List.getElem?_eq_some_iff.mp h.cA).1, (List.getElem?_eq_some_iff.mp h.qA).1⟩
theorem FrI.pre {S S' : List O} {c q : Nat} {o : Tr} (h : FrI S c q o) (k : S <+: S') : FrI S' c q o := ⟨pre_at k h.cA, pre_at k h.qA⟩
section
variable {S : List O} {c q : Nat} {o : Tr} {k : Nat} {P : A → List O → Prop}
theorem c_init {S0 : List O} {x : A} {P : List O → Prop} (hx : seqO (S0 ++ [O.ins 0 []]) x = some o.ws) (h : ∀ S', S0 <+: S' → S'.length = S0.length + 2 → FrI S' S0.length (S0.length + 1) o → P S') :
    okk (I G ds (k + 1) 6 [.ref S0.length, .str o.t, .int o.at_, x] (S0 ++ [O.ins 0 []])) fun v S2 => v = .non ∧ P S2 := by
  rw [I_succ G (fd := f6) (by rfl)]
  refine run_ok rfl ?_
  show oks (denSs G (I G ds k) b6 [some (.ref S0.length), some (.str o.t), some (.int o.at_), some x] (S0 ++ [O.ins 0 []])) _
  rw [b6]
  have h0 : (S0 ++ [O.ins 0 []])[S0.length]? = some (.ins 0 []) := by simp
  wtm_at "wp"
  refine ⟨_, fldO_at h0 rfl rfl (by decide), ?_⟩
  wtm_at "wp"
  have h1 : ((S0 ++ [O.ins 0 []]).set S0.length (O.ins 0 (Lt.putF "own_name" (.str o.t) []))) = S0 ++ [O.ins 0 [("own_name", .str o.t)]] := by simp; rfl
  rw [h1]
  have g0 : (S0 ++ [O.ins 0 [("own_name", .str o.t)]])[S0.length]? = some (.ins 0 [("own_name", .str o.t)]) := by simp
  refine ⟨_, fldO_at g0 rfl rfl (by simp), ?_⟩
  wtm_at "wp"
  have h1 : ((S0 ++ [O.ins 0 [("own_name", .str o.t)]]).set S0.length (O.ins 0 (Lt.putF "own_row" (.int o.at_) [("own_name", .str o.t)]))) = S0 ++ [O.ins 0 [("own_name", .str o.t), ("own_row", .int o.at_)]] := by simp; rfl
  rw [h1]
  have hx1 : seqO (S0 ++ [O.ins 0 [("own_name", .str o.t), ("own_row", .int o.at_)]]) x = some o.ws := by
    cases x <;> first | exact hx | skip
    rename_i m
    unfold seqO at hx ⊢
    simp only at hx ⊢
    by_cases hm : m < S0.length
    · rw [List.getElem?_append_left hm] at hx ⊢; exact hx
    · exfalso
      by_cases e : m = S0.length
      · subst e; rw [h0] at hx; cases hx
      · rw [List.getElem?_eq_none (by simp; omega)] at hx; cases hx
  refine ok_at (bi_list hx1) ?_
  wtm_at "wp"
  have h2 : (S0 ++ [O.ins 0 [("own_name", .str o.t), ("own_row", .int o.at_)]] ++ [O.lst o.ws])[S0.length]? = some (.ins 0 [("own_name", .str o.t), ("own_row", .int o.at_)]) := by simp
  refine ⟨_, fldO_at h2 rfl rfl (by simp), ?_⟩
  wtm_at "wp"
  have h3 : ((S0 ++ [O.ins 0 [("own_name", .str o.t), ("own_row", .int o.at_)]] ++ [O.lst o.ws]).set S0.length (O.ins 0 (Lt.putF "own_worths" (.ref (S0 ++ [O.ins 0 [("own_name", .str o.t), ("own_row", .int o.at_)]]).length) [("own_name", .str o.t), ("own_row", .int o.at_)]))) = S0 ++ [O.ins 0 [("own_name", .str o.t), ("own_row", .int o.at_), ("own_worths", .ref (S0.length + 1))], .lst o.ws] := by
    simp; rfl
  rw [h3]
  exact ⟨rfl, h _ (List.prefix_append _ _) (by simp) ⟨by simp, by simp⟩⟩
theorem m_len (h : FrI S c q o) (p : P (.int o.ws.length) S) : okk (I G ds (k + 1) 7 [.ref c] S) P := by
  rw [I_succ G (fd := f7) (by rfl)]
  refine run_ok rfl ?_
  show oks (denSs G (I G ds k) b7 [some (.ref c)] S) _
  rw [b7]
  wtm_at "wp"
  refine ⟨_, _, _, _, _, rfl, h.cA, rfl, rfl, rfl, ?_⟩
  wtm_at "wp"
  refine ok_at (a := .int o.ws.length) (S := S) (by simp [biO, len_ref h.qA]) p
theorem m_function (h : FrI S c q o) (p : P (.str o.t) S) : okk (I G ds (k + 1) 10 [.ref c] S) P := by
  rw [I_succ G (fd := f10) (by rfl)]
  refine run_ok rfl ?_
  show oks (denSs G (I G ds k) b10 [some (.ref c)] S) _
  rw [b10]
  wtm_at "wp"
  exact ⟨_, _, _, _, _, rfl, h.cA, rfl, rfl, rfl, p⟩
theorem m_stands (h : FrI S c q o) (p : P (.int o.at_) S) : okk (I G ds (k + 1) 11 [.ref c] S) P := by
  rw [I_succ G (fd := f11) (by rfl)]
  refine run_ok rfl ?_
  show oks (denSs G (I G ds k) b11 [some (.ref c)] S) _
  rw [b11]
  wtm_at "wp"
  exact ⟨_, _, _, _, _, rfl, h.cA, rfl, rfl, rfl, p⟩
theorem m_worths (h : FrI S c q o) (p : P (.ref S.length) (S ++ [.lst o.ws])) : okk (I G ds (k + 1) 12 [.ref c] S) P := by
  rw [I_succ G (fd := f12) (by rfl)]
  refine run_ok rfl ?_
  show oks (denSs G (I G ds k) b12 [some (.ref c)] S) _
  rw [b12]
  wtm_at "wp"
  refine ⟨_, _, _, _, _, rfl, h.cA, rfl, rfl, rfl, ?_⟩
  wtm_at "wp"
  exact ok_at (bi_list (by simp [seqO, h.qA])) p
theorem m_eqO {y : A} (hy : tyO G.clss.length S y (.own 0) = some false) (p : P (.bl false) S) : okk (I G ds (k + 1) 8 [.ref c, y] S) P := by
  rw [I_succ G (fd := f8) (by rfl)]
  refine run_ok rfl ?_
  show oks (denSs G (I G ds k) b8 [some (.ref c), some y] S) _
  rw [b8]
  refine s_cons (s_ifs (t_not (t_of (w_isi ?_))))
  wtm_at "wp"
  refine ⟨_, hy, ?_⟩
  wtm_at "wp"
  exact p
/-- whether all three are the same -/
def same (o p : Tr) : Bool := decide (o.t = p.t) && (decide (o.at_ = p.at_) && A.eqvs o.ws p.ws)
theorem same_v (o p : Tr) : o.v.eqv p.v = same o p := by
  simp only [Tr.v, A.eqv, A.eqvs, same, Bool.and_true, ← beq_dec]
theorem same_comm (o p : Tr) : same o p = same p o := by rw [← same_v, ← same_v, eqv_comm]
theorem same_refl {o : Tr} (h : Ok o) : same o o = true := by rw [← same_v, eqv_refl _ h.pure]
theorem tyF {c' q' : Nat} {o' : Tr} (h : FrI S c' q' o') : tyO G.clss.length S (.ref c') (.own 0) = some true := by
  show (match S[c']? with
    | some (.lst _) => _
    | some (.dic _ _) => _
    | some (.ins c _) => if c < 1 then some (match (Ty.own 0) with | .own d => c == d | _ => false) else none
    | _ => none) = _
  rw [h.cA]
  rfl
theorem m_eqC {c' q' : Nat} {o' : Tr} (h : FrI S c q o) (h' : FrI S c' q' o') (v : Ok o) (v' : Ok o') (p : P (.bl (same o o')) S) : okk (I G ds (k + 1) 8 [.ref c, .ref c'] S) P := by
  rw [I_succ G (fd := f8) (by rfl)]
  refine run_ok rfl ?_
  show oks (denSs G (I G ds k) b8 [some (.ref c), some (.ref c')] S) _
  rw [b8]
  refine s_cons (s_ifs (t_not (t_of (w_isi ?_))))
  wtm_at "wp"
  refine ⟨_, tyF h', ?_⟩
  wtm_at "wp"
  refine ⟨_, _, _, _, _, rfl, h.cA, rfl, rfl, rfl, ?_⟩
  wtm_at "wp"
  refine ⟨_, _, _, _, _, rfl, h.cA, rfl, rfl, rfl, ?_⟩
  wtm_at "wp"
  refine ⟨_, _, _, _, _, rfl, h'.cA, rfl, rfl, rfl, ?_⟩
  wtm_at "wp"
  refine ⟨_, _, _, _, _, rfl, h'.cA, rfl, rfl, rfl, ?_⟩
  wtm_at "wp"
  have e1 : (der S (A.tup [A.str o.t, A.int o.at_])).eqv (der S (A.tup [A.str o'.t, A.int o'.at_])) = (decide (o.t = o'.t) && decide (o.at_ = o'.at_)) := by
    simp only [der, A.eqv, A.eqvs, Bool.and_true, ← beq_dec]
  rw [e1]
  refine ⟨fun e => ?_, fun e => ?_⟩
  · wtm_at "wp"
    have : same o o' = false := by
      unfold same
      simp only [Bool.not_eq_true', Bool.and_eq_false_iff] at e
      rcases e with e | e <;> simp [e]
    rw [this] at p
    exact p
  · have e : decide (o.t = o'.t) = true ∧ decide (o.at_ = o'.at_) = true := by simpa [Bool.and_eq_true] using e
    wtm_at "wp"
    refine ⟨_, _, _, _, _, rfl, h.cA, rfl, rfl, rfl, ?_⟩
    wtm_at "wp"
    refine ⟨_, _, _, _, _, rfl, h'.cA, rfl, rfl, rfl, ?_⟩
    have e2 : cmpO .Eq (.ref q) (.ref q') S = some (A.eqvs o.ws o'.ws) := by
      have d1 : der S (.ref q) = .lst o.ws := by simp [der, h.qA]
      have d2 : der S (.ref q') = .lst o'.ws := by simp [der, h'.qA]
      have := v.wv.dp
      show eqO S (.ref q) (.ref q') = _
      rw [eq_pure (by rw [d1]; exact v.wv.pu) (by rw [d2]; exact v'.wv.pu) (by rw [d1]; show A.depths o.ws + 1 ≤ 60; omega), d1, d2]
      rfl
    refine ⟨_, e2, ?_⟩
    have : same o o' = A.eqvs o.ws o'.ws := by unfold same; rw [e.1, e.2]; rfl
    rw [this] at p
    exact p
/-- a frame's text -/
def frText (o : Tr) : List Nat := [70, 114, 97, 109, 101, 40] ++ reprS o.t ++ [44, 32] ++ intT o.at_ ++ [44, 32] ++ (A.lst o.ws).txt ++ [41]
theorem nice_lst (v : Ok o) : (A.lst o.ws).nice = true := by simpa [A.nice] using v.wv.ni
theorem reprS_eq (t : List Nat) : (A.str t).txt = reprS t := rfl
theorem txt_len {v : A} (h : v.nice = true) (hw : v.wt ≤ 2000) : v.txt.length ≤ 30 * 2000 + 100000 := by
  obtain ⟨_, _, h3, h4, _, _⟩ := A.nice_ok v h
  have h7 := PyData.shown_le 20 (by decide) v.dat h3
  have e : v.txt.length = v.dat.shown.length := by simp [A.txt, Str.length]
  rw [e]
  omega
theorem int_at : ∀ i : Int, 0 ≤ i → i < 40 → strI i = some (intT i) ∧ (intT i).length ≤ 2 := by
  intro i h1 h2
  have : ∀ j : Fin 40, strI (j.val : Int) = some (intT j.val) ∧ (intT (j.val : Int)).length ≤ 2 := by decide +kernel
  have := this ⟨i.toNat, by omega⟩
  rwa [show ((i.toNat : Nat) : Int) = i by omega] at this
theorem str_nice (v : Ok o) : (A.str o.t).nice = true := by
  simp only [A.nice, List.all_eq_true]
  intro c hc
  simpa using v.t2 c hc
theorem str_len (v : Ok o) : (reprS o.t).length ≤ 1000 := by
  have h3 := (A.nice_ok (A.str o.t) (str_nice v)).2.2.1
  have h4 := (A.nice_ok (A.str o.t) (str_nice v)).2.2.2.1
  have h7 := PyData.shown_le 20 (by decide) (A.str o.t).dat h3
  have e : (reprS o.t).length = (A.str o.t).dat.shown.length := by rw [← reprS_eq]; simp [A.txt, Str.length]
  have w : (A.str o.t).wt = o.t.length := rfl
  have := v.t1
  omega
theorem lst_len (v : Ok o) : (A.lst o.ws).txt.length ≤ 200000 := by
  have h3 := (A.nice_ok _ (nice_lst v)).2.2.1
  have h4 := (A.nice_ok _ (nice_lst v)).2.2.2.1
  have h7 := PyData.shown_le 20 (by decide) (A.lst o.ws).dat h3
  have e : (A.lst o.ws).txt.length = (A.lst o.ws).dat.shown.length := by simp [A.txt, Str.length]
  have w : (A.lst o.ws).wt = A.wts o.ws := rfl
  have := v.wv.wt
  have := v.l
  omega
theorem okT_txt {v : A} (h : v.nice = true) (hl : v.txt.length ≤ 200000) : okT v.txt = true := by
  obtain ⟨_, _, _, _, _, h6⟩ := A.nice_ok v h
  unfold okT
  simp only [Bool.and_eq_true, decide_eq_true_eq, List.all_eq_true]
  exact ⟨Nat.le_trans hl (by decide), fun c hc => h6 c hc⟩
theorem m_repr (h : FrI S c q o) (v : Ok o) (p : P (.str (frText o)) S) : okk (I G ds (k + 1) 9 [.ref c] S) P := by
  have z : (300000 : Nat) ≤ sizeLine := by decide
  have l1 := str_len v
  have l2 := (int_at o.at_ v.a0 v.a1).2
  have l3 := lst_len v
  rw [I_succ G (fd := f9) (by rfl)]
  refine run_ok rfl ?_
  show oks (denSs G (I G ds k) b9 [some (.ref c)] S) _
  rw [b9]
  wtm_at "wp"
  refine ⟨Nat.le_trans (by simp) z, ?_⟩
  wtm_at "wp"
  refine ⟨_, _, _, _, _, rfl, h.cA, rfl, rfl, rfl, ?_⟩
  have hf : fmtS S true (.str o.t) = some (reprS o.t) := by
    have : fmtS S true (.str o.t) = (if okT (reprS o.t) then some (reprS o.t) else none) := rfl
    rw [this, if_pos]
    exact okT_txt (v := .str o.t) (str_nice v) (by rw [reprS_eq]; omega)
  refine ⟨_, hf, ?_⟩
  wtm_at "wp"
  refine ⟨Nat.le_trans (by simp; omega) z, ?_⟩
  wtm_at "wp"
  refine ⟨Nat.le_trans (by simp; omega) z, ?_⟩
  wtm_at "wp"
  refine ⟨_, _, _, _, _, rfl, h.cA, rfl, rfl, rfl, ?_⟩
  refine ⟨_, (int_at o.at_ v.a0 v.a1).1, ?_⟩
  wtm_at "wp"
  refine ⟨Nat.le_trans (by simp; omega) z, ?_⟩
  wtm_at "wp"
  refine ⟨Nat.le_trans (by simp; omega) z, ?_⟩
  wtm_at "wp"
  refine ⟨_, _, _, _, _, rfl, h.cA, rfl, rfl, rfl, ?_⟩
  have d1 : der S (.ref q) = .lst o.ws := by simp [der, h.qA]
  have hg : fmtS S true (.ref q) = some (A.lst o.ws).txt := by
    have e1 : fmtS S true (.ref q) = reprO S (.ref q) := by
      unfold fmtS
      have : (seqO S (.ref q)).isSome = true := by simp [seqO, h.qA]
      rw [this]; rfl
    rw [e1]
    have := v.wv.dp
    have := v.wv.wt
    have := v.l
    exact repr_nice d1 (nice_lst v) (by show A.wts o.ws ≤ 500000; omega) (by show A.depths o.ws + 1 ≤ 60; omega)
  refine ⟨_, hg, ?_⟩
  wtm_at "wp"
  refine ⟨Nat.le_trans (by simp; omega) z, ?_⟩
  wtm_at "wp"
  refine ⟨Nat.le_trans (by simp; omega) z, ?_⟩
  wtm_at "wp"
  simpa [frText] using p
end
end K23
namespace K23
open PySem L2 Lt
local macro_rules | `(tactic| wtm_at "wp1") => `(tactic| with_reducible first
  | refine s_cons ?_ | (refine s_nil ?_; try dsimp only [nxt, turn]) | refine s_asg ?_ | refine s_ret ?_ | refine s_ifs ?_ | refine s_ex ?_ | refine s_sub ?_
  | refine w_nil ?_ | refine w_cons ?_
  | refine w_cI ?_ | refine w_cS ?_ | refine w_cN ?_ | refine w_cB ?_
  | refine w_idx ?_ | refine w_call ?_ | refine w_bi ?_ | refine w_tup ?_ | refine w_lst ?_ | refine w_lstT ?_ | refine w_bin ?_ | refine w_neg ?_ | refine w_no ?_ | refine w_cmp ?_
  | refine w_dic0 ?_ | refine w_dic ?_ | refine w_bm ?_ | refine w_isi ?_ | refine w_frz ?_ | refine w_ifx ?_
  | refine t_cmp ?_ | refine t_and ?_ | refine t_or ?_ | refine t_not ?_ | refine t_of ?_
  | refine c_nil ?_ | refine c_one ?_ | refine i_seq ?_ | refine i_rng ?_)
local macro_rules | `(tactic| wtm_at "wp2") => `(tactic| first
  | (with_reducible refine w_nmE ?_; refine ⟨_, rfl, ?_⟩)
  | refine ⟨_, eq_int, ?_⟩ | refine ⟨_, eq_str, ?_⟩ | refine ⟨_, ne_int, ?_⟩ | refine ⟨_, ne_str, ?_⟩
  | ((with_reducible first | refine p_bi ?_ | refine p_bin ?_ | refine p_bm ?_ | refine p_mk ?_); refine ⟨_, _, rfl, ?_⟩)
  | refine ⟨_, rfl, ?_⟩ | refine and_ff ?_ | refine and_tt ?_)
local macro_rules | `(tactic| wtm_at "wp") => `(tactic| repeat (first | wtm_at "wp1" | (wtm_at "wp2"; try dsimp only [nxt, turn, List.set])))
local macro_rules | `(tactic| wtm_at "wp1") => `(tactic| with_reducible first | refine w_sl ?_ | refine w_and ?_ | refine w_or ?_ | refine s_retN ?_ | refine s_pass ?_ | refine s_brk ?_ | refine s_cont ?_)
local macro_rules | `(tactic| wtm_at "wp1") => `(tactic| with_reducible first | refine i_sgn ?_ | refine i_enum ?_ | refine i_zip ?_ | refine w_tab ?_ | refine w_tabIn ?_)
local macro_rules | `(tactic| wtm_at "wp1") => `(tactic| with_reducible first | refine w_lk ?_ | refine s_lk ?_ | refine w_lenO ?_ | refine w_lsv ?_ | refine w_lsi ?_ | refine w_tabGet ?_ | refine i_keys ?_ | refine i_vals ?_ | refine i_items ?_)
local macro_rules | `(tactic| wtm_at "wp1") => `(tactic| with_reducible first | refine w_fld ?_ | refine w_mth ?_ | refine w_mk ?_ | refine s_fld ?_)
local macro_rules | `(tactic| wtm_at "wp1") => `(tactic| with_reducible first | refine w_rpI ?_ | refine w_strL ?_ | refine w_boI ?_ | refine w_cmpI ?_ | refine w_rev ?_ | refine w_fmt ?_ | refine w_fs ?_ | refine w_denf_cons ?_ | refine w_denf_nil ?_ | refine w_kmk ?_ | refine w_mk2 ?_)
theorem p_addS {S : List O} {fl : Bool} {x y : List Nat} {P : A → List O → Prop} (h : x.length + y.length ≤ 400000) (q : P (.str (x ++ y)) S) : okk (binO .Add fl (.str x) (.str y) S) P := .of (by
  show (if x.length + y.length ≤ sizeLine then R.ok (A.str (x ++ y)) S else .no) = _
  rw [if_pos (Nat.le_trans h (by decide))]) q
theorem p_addL {S : List O} {x y : List A} {P : A → List O → Prop} (h : x.length + y.length ≤ 400000) (q : P (.lst (x ++ y)) S) : okk (binO .Add false (.lst x) (.lst y) S) P := .of (by
  show (if x.length + y.length ≤ sizeLine then R.ok (A.lst (x ++ y)) S else .no) = _
  rw [if_pos (Nat.le_trans h (by decide))]) q
theorem i_bent {k : Nat} {S : List O} {n : Nat} {o : Tr} {P : A → List O → Prop} (hS : Pool S n) (v : Ok o) (ht : o.t.length ≤ 8) (hl : o.ws.length ≤ 7) (h : ∀ (p : Tr) S', Ok p → Pool S' n → Oth n S S' → P p.v S') : okk (I G ds (k + 2) 3 [.ref n, o.v] S) P := by
  obtain ⟨t, a, ws⟩ := o
  obtain ⟨t1, t2, a0, a1, w1, w2⟩ := v
  replace ht : t.length ≤ 8 := ht
  replace hl : ws.length ≤ 7 := hl
  rw [I_succ G (fd := f3) (by rfl)]
  refine run_ok rfl ?_
  show oks (denSs G (I G ds (k + 1)) b3 [some (.ref n), some (.tup [.str t, .int a, .lst ws]), none, none, none, none] S) _
  rw [b3]
  wtm_at "wp"
  refine d_draw hS (by omega) (by omega) fun z S1 z0 z1 h1 o1 => ?_
  wtm_at "wp"
  refine ⟨fun e => ?_, fun e => ?_⟩
  · wtm_at "wp"
    obtain ⟨c, hc, e2⟩ : ∃ c : Nat, (c = 121 ∨ c = 122) ∧ idxO S1 (.lst [.str [122], .str [121]]) (.int (if decide (cutA t none (some 1) = [122]) = true then 1 else 0)) = some (.str [c]) := by
      by_cases hc : cutA t none (some 1) = [122]
      · exact ⟨121, .inl rfl, by rw [decide_eq_true hc]; rfl⟩
      · exact ⟨122, .inr rfl, by rw [decide_eq_false hc]; rfl⟩
    refine ok_at (a := .str (cutA t none (some 1))) (S := S1) rfl ?_
    wtm_at "wp"
    refine ⟨_, e2, ?_⟩
    wtm_at "wp"
    refine ok_at (a := .str (cutA t (some 1) none)) (S := S1) rfl ?_
    wtm_at "wp"
    have hl := cutA_len t (some 1) none
    refine p_addS (by simp; omega) ?_
    wtm_at "wp"
    refine h ⟨[c] ++ cutA t (some 1) none, a, ws⟩ S1 ⟨?_, fun x hx => ?_, a0, a1, w1, w2⟩ h1 o1
    · show ([c] ++ cutA t (some 1) none).length ≤ 9
      rw [List.length_append]
      show 1 + _ ≤ 9
      omega
    · rcases List.mem_append.mp hx with hx | hx
      · rw [List.mem_singleton.mp hx]; omega
      · exact t2 x (cutA_mem hx)
  wtm_at "wp"
  refine ⟨fun e => ?_, fun e => ?_⟩
  · wtm_at "wp"
    have m0 := Int.emod_nonneg (a + 1) (show (40 : Int) ≠ 0 by omega)
    have m1 := Int.emod_lt_of_pos (a + 1) (show (0 : Int) < 40 by omega)
    exact h ⟨t, (a + 1) % 40, ws⟩ S1 ⟨t1, t2, m0, m1, w1, w2⟩ h1 o1
  wtm_at "wp"
  refine ⟨fun e => ?_, fun e => ?_⟩
  · wtm_at "wp"
    refine p_addL (by simp; omega) ?_
    wtm_at "wp"
    refine h ⟨t, a, ws ++ [.int 0]⟩ S1 ⟨t1, t2, a0, a1, fun u hu => ?_, by simp; omega⟩ h1 o1
    rcases List.mem_append.mp hu with hu | hu
    · exact w1 u hu
    · rw [List.mem_singleton.mp hu]; simp [menuL]
  wtm_at "wp"
  refine ok_at (a := .lst (cutA ws (some 1) none)) (S := S1) rfl ?_
  wtm_at "wp"
  have hl := cutA_len ws (some 1) none
  refine p_addL (by simp; omega) ?_
  wtm_at "wp"
  refine h ⟨t, a, [.non] ++ cutA ws (some 1) none⟩ S1 ⟨t1, t2, a0, a1, fun u hu => ?_, by simp; omega⟩ h1 o1
  rcases List.mem_append.mp hu with hu | hu
  · rw [List.mem_singleton.mp hu]; simp [menuL]
  · exact w1 u (cutA_mem hu)
end K23
namespace K23
open PySem L2 Lt
local macro_rules | `(tactic| wtm_at "wp1") => `(tactic| with_reducible first
  | refine s_cons ?_ | (refine s_nil ?_; try dsimp only [nxt, turn]) | refine s_asg ?_ | refine s_ret ?_ | refine s_ifs ?_ | refine s_ex ?_ | refine s_sub ?_
  | refine w_nil ?_ | refine w_cons ?_
  | refine w_cI ?_ | refine w_cS ?_ | refine w_cN ?_ | refine w_cB ?_
  | refine w_idx ?_ | refine w_call ?_ | refine w_bi ?_ | refine w_tup ?_ | refine w_lst ?_ | refine w_lstT ?_ | refine w_bin ?_ | refine w_neg ?_ | refine w_no ?_ | refine w_cmp ?_
  | refine w_dic0 ?_ | refine w_dic ?_ | refine w_bm ?_ | refine w_isi ?_ | refine w_frz ?_ | refine w_ifx ?_
  | refine t_cmp ?_ | refine t_and ?_ | refine t_or ?_ | refine t_not ?_ | refine t_of ?_
  | refine c_nil ?_ | refine c_one ?_ | refine i_seq ?_ | refine i_rng ?_)
local macro_rules | `(tactic| wtm_at "wp2") => `(tactic| first
  | (with_reducible refine w_nmE ?_; refine ⟨_, rfl, ?_⟩)
  | refine ⟨_, eq_int, ?_⟩ | refine ⟨_, eq_str, ?_⟩ | refine ⟨_, ne_int, ?_⟩ | refine ⟨_, ne_str, ?_⟩
  | ((with_reducible first | refine p_bi ?_ | refine p_bin ?_ | refine p_bm ?_ | refine p_mk ?_); refine ⟨_, _, rfl, ?_⟩)
  | refine ⟨_, rfl, ?_⟩ | refine and_ff ?_ | refine and_tt ?_)
local macro_rules | `(tactic| wtm_at "wp") => `(tactic| repeat (first | wtm_at "wp1" | (wtm_at "wp2"; try dsimp only [nxt, turn, List.set])))
local macro_rules | `(tactic| wtm_at "wp1") => `(tactic| with_reducible first | refine w_sl ?_ | refine w_and ?_ | refine w_or ?_ | refine s_retN ?_ | refine s_pass ?_ | refine s_brk ?_ | refine s_cont ?_)
local macro_rules | `(tactic| wtm_at "wp1") => `(tactic| with_reducible first | refine i_sgn ?_ | refine i_enum ?_ | refine i_zip ?_ | refine w_tab ?_ | refine w_tabIn ?_)
local macro_rules | `(tactic| wtm_at "wp1") => `(tactic| with_reducible first | refine w_lk ?_ | refine s_lk ?_ | refine w_lenO ?_ | refine w_lsv ?_ | refine w_lsi ?_ | refine w_tabGet ?_ | refine i_keys ?_ | refine i_vals ?_ | refine i_items ?_)
local macro_rules | `(tactic| wtm_at "wp1") => `(tactic| with_reducible first | refine w_fld ?_ | refine w_mth ?_ | refine w_mk ?_ | refine s_fld ?_)
local macro_rules | `(tactic| wtm_at "wp1") => `(tactic| with_reducible first | refine w_rpI ?_ | refine w_strL ?_ | refine w_boI ?_ | refine w_cmpI ?_ | refine w_rev ?_ | refine w_fmt ?_ | refine w_fs ?_ | refine w_denf_cons ?_ | refine w_denf_nil ?_ | refine w_kmk ?_ | refine w_mk2 ?_)
theorem d_tup {S : List O} {m : Nat} {o : Tr} (v : Ok o) (h : S[m]? = some (.lst o.ws)) : derD S 6 (.tup [.str o.t, .int o.at_, .ref m]) = o.v := by
  show derD S (5 + 1) _ = _
  rw [derD_tup]
  have e : derD S 5 (.ref m) = .lst o.ws := by
    show derD S (4 + 1) _ = _
    rw [derD_ref h, map_pures (derD_pure S 4) _ v.wv.pu]
  simp only [List.map_cons, List.map_nil, e, derD_pure S 5 (.str o.t) rfl, derD_pure S 5 (.int o.at_) rfl]
  rfl
theorem ne_tup {S : List O} {m : Nat} {o : Tr} (v : Ok o) (h : S[m]? = some (.lst o.ws)) : cmpO .NotEq (.tup [.str o.t, .int o.at_, .ref m]) o.v S = some false := by
  show (eqO S _ _).map not = _
  have := v.dep
  rw [eq_deep (d_tup v h) (derD_pure S 6 _ v.pure) (.inl rfl) v.pure v.pure (by omega), eqv_refl _ v.pure]
  rfl
theorem ap_ok {S : List O} {n : Nat} {xs : List A} {y : A} (h : S[n]? = some (.lst xs)) (hl : xs.length < 1000) : bmO .append (.ref n) [y] S = .ok .non (S.set n (.lst (xs ++ [y]))) := by
  have z : (1000 : Nat) ≤ sizeLine := by decide
  show (match S[n]? with
    | some (.lst xs) => if xs.length < sizeLine then R.ok A.non (S.set n (.lst (xs ++ [y]))) else .no
    | _ => .no) = _
  rw [h]
  simp only
  rw [if_pos (Nat.lt_of_lt_of_le hl z)]
/-- what stands through a turn of _law_right -/
structure RI (S0 S : List O) (h c q : Nat) (o : Tr) (n : Nat) : Prop where
  pre : S0 <+: S
  hd : ∃ hs : List A, S[h]? = some (.lst hs) ∧ hs.length ≤ n
  fr : FrI S c q o
theorem i_right {k : Nat} {S : List O} {o : Tr} {P : A → List O → Prop} (v : Ok o) (p : ∀ S', S <+: S' → P (.bl true) S') : okk (I G ds (k + 2) 4 [o.v] S) P := by
  have z : (300000 : Nat) ≤ sizeLine := by decide
  have l1 := str_len v
  have l2 := (int_at o.at_ v.a0 v.a1).2
  have l3 := lst_len v
  have wl := v.l
  rw [I_succ G (fd := f4) (by rfl)]
  refine run_ok rfl ?_
  show oks (denSs G (I G ds (k + 1)) b4 [some (.tup [.str o.t, .int o.at_, .lst o.ws]), none, none, none, none, none, none, none] S) _
  rw [b4]
  wtm_at "wp"
  refine ⟨_, _, _, _, rfl, ?_⟩
  refine c_init (k := k) (S0 := S ++ [.lst o.ws]) (o := o) (x := .ref S.length) (by simp [seqO]) fun S1 q1 n1 f1 => ?_
  have hh : S1[S.length]? = some (.lst o.ws) := pre_at q1 (by simp)
  have hc : (S ++ [O.lst o.ws]).length = S.length + 1 := by simp
  rw [hc] at f1 ⊢
  wtm_at "wp"
  refine ok_at (bi_repr (a := .str o.t) (v := .str o.t) rfl (str_nice v) (by show o.t.length ≤ 500000; have := v.t1; omega) (by show 0 ≤ 60; omega)) ?_
  wtm_at "wp"
  rw [reprS_eq]
  refine p_addS (by simp; omega) ?_
  wtm_at "wp"
  refine p_addS (by simp; omega) ?_
  wtm_at "wp"
  refine ok_at (a := .str (intT o.at_)) (S := S1) (by
    show R.of ((strI o.at_).map A.str) S1 = _
    rw [(int_at o.at_ v.a0 v.a1).1]; rfl) ?_
  wtm_at "wp"
  refine p_addS (by simp; omega) ?_
  wtm_at "wp"
  refine p_addS (by simp; omega) ?_
  wtm_at "wp"
  have := v.wv.wt
  have := v.wv.dp
  refine ok_at (bi_repr (a := .lst o.ws) (v := .lst o.ws) rfl (nice_lst v) (by show A.wts o.ws ≤ 500000; omega) (by show A.depths o.ws + 1 ≤ 60; omega)) ?_
  wtm_at "wp"
  refine p_addS (by simp; omega) ?_
  wtm_at "wp"
  refine p_addS (by simp; omega) ?_
  have et : [70, 114, 97, 109, 101, 40] ++ reprS o.t ++ [44, 32] ++ intT o.at_ ++ [44, 32] ++ (A.lst o.ws).txt ++ [41] = frText o := rfl
  rw [et]
  have lt : (frText o).length ≤ 250000 := by simp [frText]; omega
  have r1 : RI S S1 S.length (S.length + 1) (S.length + 1 + 1) o 8 := ⟨(List.prefix_append _ _).trans q1, ⟨_, hh, by omega⟩, f1⟩
  have hne : S.length ≠ S.length + 1 ∧ S.length ≠ S.length + 1 + 1 := by omega
  generalize S.length + 1 + 1 = q at r1 hne
  generalize S.length + 1 = c at r1 hne
  have hlt : S.length ≤ S.length := Nat.le_refl _
  generalize hb : S.length = h at r1 hne hlt
  clear et q1 f1 hh hc n1
  wtm_at "wp"
  rw [w4_0]
  refine s_loop (fun xs i τ S' => RI S S' h c q o (8 + i) ∧ ∃ t7, τ = [some (.tup [.str o.t, .int o.at_, .lst o.ws]), some (.str o.t), some (.int o.at_), some (.lst o.ws), some (.ref h), some (.ref c), some (.str (frText o)), t7]) ?_
  wtm_at "wp"
  refine ⟨by omega, ⟨r1, _, rfl⟩, ?_, ?_⟩
  · rintro i x τ U hx ⟨r2, t7, rfl⟩
    have hi := (List.getElem?_eq_some_iff.mp hx).1
    rw [rngA_len] at hi
    refine ⟨gd_nil _, _, rfl, ?_⟩
    dsimp only [List.set]
    rw [u4_0]
    wtm_at "wp"
    refine ⟨_, _, _, _, _, rfl, r2.fr.cA, rfl, rfl, rfl, ?_⟩
    wtm_at "wp"
    refine m_function (k := k) r2.fr ?_
    wtm_at "wp"
    refine ⟨_, _, _, _, _, rfl, r2.fr.cA, rfl, rfl, rfl, ?_⟩
    wtm_at "wp"
    refine m_stands (k := k) r2.fr ?_
    wtm_at "wp"
    refine ⟨_, _, _, _, _, rfl, r2.fr.cA, rfl, rfl, rfl, ?_⟩
    wtm_at "wp"
    refine m_worths (k := k) r2.fr ?_
    obtain ⟨pre2, ⟨hs, hd2, hl2⟩, fr2⟩ := r2
    have f3 : FrI (U ++ [O.lst o.ws]) c q o := fr2.pre (List.prefix_append _ _)
    have h3 : (U ++ [O.lst o.ws])[h]? = some (.lst hs) := pre_at (List.prefix_append _ _) hd2
    have p3 : S <+: U ++ [O.lst o.ws] := pre2.trans (List.prefix_append _ _)
    have m3 : (U ++ [O.lst o.ws])[U.length]? = some (.lst o.ws) := by simp
    have ltU := fr2.lt
    have ltH := (List.getElem?_eq_some_iff.mp hd2).1
    have n3 : U.length < (U ++ [O.lst o.ws]).length := by simp
    generalize U ++ [O.lst o.ws] = U3 at f3 h3 p3 m3 n3
    generalize U.length = m at m3 ltU ltH n3
    clear fr2 hd2 pre2
    wtm_at "wp"
    refine ⟨_, ne_tup v m3, ?_⟩
    wtm_at "wp"
    refine ⟨_, _, _, _, _, rfl, f3.cA, rfl, rfl, rfl, ?_⟩
    refine m_len (k := k) f3 ?_
    refine ⟨_, rfl, by omega, by omega, ?_⟩
    wtm_at "wp"
    refine ⟨fun e => (by simp at e), fun _ => ?_⟩
    wtm_at "wp"
    refine ⟨_, _, _, _, _, rfl, f3.cA, rfl, rfl, rfl, ?_⟩
    refine m_repr (k := k) f3 v ?_
    refine ⟨_, rfl, ?_⟩
    wtm_at "wp"
    refine ⟨fun e => (by simp at e), fun _ => ?_⟩
    wtm_at "wp"
    refine ⟨_, _, _, _, _, rfl, f3.cA, rfl, rfl, rfl, ?_⟩
    refine m_repr (k := k) f3 v ?_
    refine ⟨_, rfl, by omega, ?_⟩
    wtm_at "wp"
    refine p_addS (by simp; omega) ?_
    wtm_at "wp"
    refine p_addS (by simp; omega) ?_
    wtm_at "wp"
    refine ⟨fun e => (by simp at e), fun _ => ?_⟩
    wtm_at "wp"
    refine ⟨_, _, _, _, _, rfl, f3.cA, rfl, rfl, rfl, ?_⟩
    refine m_len (k := k) f3 ?_
    refine ⟨_, rfl, by omega, by omega, ?_⟩
    wtm_at "wp"
    have eb : cmpO .NotEq (.lst o.ws) (.lst []) U3 = some ((o.ws.length : Int) != 0) := by
      have dp := v.wv.dp
      show (eqO U3 (.lst o.ws) (.lst [])).map not = _
      rw [eq_pure (S := U3) (a := .lst o.ws) (b := .lst []) v.wv.pu rfl (by show A.depths o.ws + 1 ≤ 60; omega)]
      cases hw : o.ws with
      | nil => rfl
      | cons a r =>
        have : (((a :: r).length : Int) != 0) = true := by simp; omega
        rw [this]; rfl
    refine ⟨_, eb, ?_⟩
    have ec : cmpO .NotEq (.bl ((o.ws.length : Int) != 0)) (.bl ((o.ws.length : Int) != 0)) U3 = some false := by
      cases ((o.ws.length : Int) != 0) <;> rfl
    refine ⟨_, ec, fun e => (by cases e), fun _ => ?_⟩
    wtm_at "wp"
    refine ⟨_, _, _, _, _, rfl, f3.cA, rfl, rfl, rfl, ?_⟩
    wtm_at "wp"
    refine m_worths (k := k) f3 ?_
    refine ⟨by simp [bmFit, lstO, der], ?_⟩
    wtm_at "wp"
    refine ok_at (ap_ok (xs := o.ws) (by simp) (by omega)) ?_
    have hU : (U3 ++ [O.lst o.ws]).set U3.length (O.lst (o.ws ++ [.int 7])) = U3 ++ [O.lst (o.ws ++ [.int 7])] := by simp
    rw [hU]
    have f4 : FrI (U3 ++ [O.lst (o.ws ++ [.int 7])]) c q o := f3.pre (List.prefix_append _ _)
    have h4 : (U3 ++ [O.lst (o.ws ++ [.int 7])])[h]? = some (.lst hs) := pre_at (List.prefix_append _ _) h3
    have p4 : S <+: U3 ++ [O.lst (o.ws ++ [.int 7])] := p3.trans (List.prefix_append _ _)
    generalize U3 ++ [O.lst (o.ws ++ [.int 7])] = U4 at f4 h4 p4
    wtm_at "wp"
    refine ⟨by simp [bmFit, lstO, der, h4], ?_⟩
    wtm_at "wp"
    refine ok_at (ap_ok h4 (by omega)) ?_
    refine s_nil ?_
    refine ⟨⟨?_, ⟨hs ++ [.non], get_set h4, by simp; omega⟩, f4.ext fun j hj => List.getElem?_set_ne (by rcases hj with rfl | rfl; exact hne.1; exact hne.2)⟩, _, rfl⟩
    obtain ⟨T, rfl⟩ := p4
    refine ⟨T.set (h - S.length) (.lst (hs ++ [.non])), ?_⟩
    rw [List.set_append_right _ _ (by omega)]
  · rintro τ U ⟨r2, t7, rfl⟩
    refine ⟨gd_nil _, ?_⟩
    wtm_at "wp"
    exact p U r2.pre
end K23
namespace K23
open PySem L2 Lt
local macro_rules | `(tactic| wtm_at "wp1") => `(tactic| with_reducible first
  | refine s_cons ?_ | (refine s_nil ?_; try dsimp only [nxt, turn]) | refine s_asg ?_ | refine s_ret ?_ | refine s_ifs ?_ | refine s_ex ?_ | refine s_sub ?_
  | refine w_nil ?_ | refine w_cons ?_
  | refine w_cI ?_ | refine w_cS ?_ | refine w_cN ?_ | refine w_cB ?_
  | refine w_idx ?_ | refine w_call ?_ | refine w_bi ?_ | refine w_tup ?_ | refine w_lst ?_ | refine w_lstT ?_ | refine w_bin ?_ | refine w_neg ?_ | refine w_no ?_ | refine w_cmp ?_
  | refine w_dic0 ?_ | refine w_dic ?_ | refine w_bm ?_ | refine w_isi ?_ | refine w_frz ?_ | refine w_ifx ?_
  | refine t_cmp ?_ | refine t_and ?_ | refine t_or ?_ | refine t_not ?_ | refine t_of ?_
  | refine c_nil ?_ | refine c_one ?_ | refine i_seq ?_ | refine i_rng ?_)
local macro_rules | `(tactic| wtm_at "wp2") => `(tactic| first
  | (with_reducible refine w_nmE ?_; refine ⟨_, rfl, ?_⟩)
  | refine ⟨_, eq_int, ?_⟩ | refine ⟨_, eq_str, ?_⟩ | refine ⟨_, ne_int, ?_⟩ | refine ⟨_, ne_str, ?_⟩
  | ((with_reducible first | refine p_bi ?_ | refine p_bin ?_ | refine p_bm ?_ | refine p_mk ?_); refine ⟨_, _, rfl, ?_⟩)
  | refine ⟨_, rfl, ?_⟩ | refine and_ff ?_ | refine and_tt ?_)
local macro_rules | `(tactic| wtm_at "wp") => `(tactic| repeat (first | wtm_at "wp1" | (wtm_at "wp2"; try dsimp only [nxt, turn, List.set])))
local macro_rules | `(tactic| wtm_at "wp1") => `(tactic| with_reducible first | refine w_sl ?_ | refine w_and ?_ | refine w_or ?_ | refine s_retN ?_ | refine s_pass ?_ | refine s_brk ?_ | refine s_cont ?_)
local macro_rules | `(tactic| wtm_at "wp1") => `(tactic| with_reducible first | refine i_sgn ?_ | refine i_enum ?_ | refine i_zip ?_ | refine w_tab ?_ | refine w_tabIn ?_)
local macro_rules | `(tactic| wtm_at "wp1") => `(tactic| with_reducible first | refine w_lk ?_ | refine s_lk ?_ | refine w_lenO ?_ | refine w_lsv ?_ | refine w_lsi ?_ | refine w_tabGet ?_ | refine i_keys ?_ | refine i_vals ?_ | refine i_items ?_)
local macro_rules | `(tactic| wtm_at "wp1") => `(tactic| with_reducible first | refine w_fld ?_ | refine w_mth ?_ | refine w_mk ?_ | refine s_fld ?_)
local macro_rules | `(tactic| wtm_at "wp1") => `(tactic| with_reducible first | refine w_rpI ?_ | refine w_strL ?_ | refine w_boI ?_ | refine w_cmpI ?_ | refine w_rev ?_ | refine w_fmt ?_ | refine w_fs ?_ | refine w_denf_cons ?_ | refine w_denf_nil ?_ | refine w_kmk ?_ | refine w_mk2 ?_)
/-- two frames that stand -/
structure Two (S : List O) (c q d r : Nat) (o p : Tr) : Prop where
  a : FrI S c q o
  b : FrI S d r p
theorem Two.pre {S S' : List O} {c q d r : Nat} {o p : Tr} (h : Two S c q d r o p) (k : S <+: S') : Two S' c q d r o p := ⟨h.a.pre k, h.b.pre k⟩
theorem nf_fr {S : List O} {neg : Bool} {c q : Nat} {o : Tr} (h : FrI S c q o) : nfO neg S 0 (.ref c) = true := by
  simp [nfO, h.cA]
theorem idx3 {S : List O} {o : Tr} : idxO S o.v (.int 0) = some (.str o.t) ∧ idxO S o.v (.int 1) = some (.int o.at_) ∧ idxO S o.v (.int 2) = some (.lst o.ws) := ⟨rfl, rfl, rfl⟩
theorem eq_v {S : List O} {o p : Tr} (h : Ok o) (k : Ok p) : cmpO .Eq o.v p.v S = some (same o p) := by
  have := h.dep
  show eqO S o.v p.v = _
  rw [eq_pure (S := S) (a := o.v) (b := p.v) h.pure k.pure (by show o.v.depth ≤ 60; omega)]
  show some (o.v.eqv p.v) = _
  rw [same_v]
theorem turn_ok {ns : List Int} {j : Nat} (hj : j < 64) {S0 : List O} {c2 c3 c4 c5 c6 c7 c8 : Option A} {Z : SR → Prop}
    (hZ : ∀ c2 c3 c4 c5 c6 c7 c8 S', Z (.nx [some (.scr (ns.map .int)), some (.int j), c2, c3, c4, c5, c6, c7, c8] S')) :
    oks (denSs G (I G ds 10) u5_1 [some (.scr (ns.map .int)), some (.int j), c2, c3, c4, c5, c6, c7, c8] S0) Z := by
  rw [u5_1]
  wtm_at "wp"
  refine d_pool (k := 9) (by omega) fun T0 p0 => ?_
  wtm_at "wp"
  refine i_made (k := 8) p0 fun o S1 vo ht hl p1 o1 => ?_
  wtm_at "wp"
  refine i_bent (k := 8) p1 vo ht hl fun p S2 vp p2 o2 => ?_
  clear o1 o2 p1 p0
  wtm_at "wp"
  refine ⟨_, _, _, _, rfl, ?_⟩
  refine c_init (k := 9) (S0 := S2) (o := o) (x := .lst o.ws) rfl fun S3 q3 n3 f3 => ?_
  generalize S2.length = c at f3
  generalize c + 1 = q at f3
  wtm_at "wp"
  refine c_init (k := 9) (S0 := S3) (o := p) (x := .lst p.ws) rfl fun S4 q4 n4 f4 => ?_
  have w4 : Two S4 c q S3.length (S3.length + 1) o p := ⟨f3.pre q4, f4⟩
  generalize S3.length = d at w4
  generalize d + 1 = r at w4
  clear f3 f4 q3 q4 n3 n4
  wtm_at "wp"
  refine i_right (k := 8) vo fun S5 q5 => ?_
  have w5 := w4.pre q5
  wtm_at "wp"
  refine i_right (k := 8) vp fun S6 q6 => ?_
  have w6 := w5.pre q6
  clear w5 w4 q5 q6 p2
  wtm_at "wp"
  rw [w5_0]
  refine s_loop (fun xs i τ S' => Two S' c q d r o p ∧ xs = [.bl (same o p), .bl (same o p)] ∧ ∃ c7, τ = [some (.scr (ns.map .int)), some (.int j), some (.ref S0.length), some o.v, some p.v, some (.ref c), some (.ref d), c7, c8]) ?_
  wtm_at "wp"
  refine ⟨_, _, _, _, _, rfl, w6.a.cA, nf_fr w6.b, rfl, rfl, ?_⟩
  refine m_eqC (k := 9) w6.a w6.b vo vp ?_
  refine ⟨_, rfl, ?_⟩
  wtm_at "wp"
  refine ⟨_, _, _, _, _, rfl, w6.b.cA, nf_fr w6.a, rfl, rfl, ?_⟩
  refine m_eqC (k := 9) w6.b w6.a vp vo ?_
  refine ⟨_, rfl, ?_⟩
  wtm_at "wp"
  refine ⟨⟨w6, by rw [same_comm p o]; cases same o p <;> rfl, _, rfl⟩, ?_, ?_⟩
  · rintro i x τ U hx ⟨w7, e7, c9, rfl⟩
    rw [e7] at hx
    have hx : x = .bl (same o p) := by
      match i, hx with
      | 0, hx => cases hx; rfl
      | 1, hx => cases hx; rfl
      | _ + 2, hx => simp at hx
    subst hx
    refine ⟨gd_nil _, _, rfl, ?_⟩
    dsimp only [List.set]
    rw [u5_0]
    wtm_at "wp"
    refine ⟨_, eq_v vo vp, ?_⟩
    have ec : cmpO .NotEq (.bl (same o p)) (.bl (same o p)) U = some false := by
      cases same o p <;> rfl
    refine ⟨_, ec, fun e => (by cases e), fun _ => ?_⟩
    wtm_at "wp"
    exact ⟨w7, e7, _, rfl⟩
  rintro τ U ⟨w7, e7, c9, rfl⟩
  refine ⟨gd_nil _, ?_⟩
  clear e7 w6
  wtm_at "wp"
  refine ⟨_, _, _, _, rfl, ?_⟩
  refine c_init (k := 9) (S0 := U) (o := o) (x := .lst o.ws) rfl fun U1 q1 n1 f1 => ?_
  have w8 := w7.pre q1
  generalize U.length = e at f1
  generalize e + 1 = g at f1
  refine ⟨_, _, _, _, _, rfl, w8.a.cA, nf_fr f1, rfl, rfl, ?_⟩
  refine m_eqC (k := 9) w8.a f1 vo vo ?_
  refine ⟨_, rfl, ?_⟩
  rw [same_refl vo]
  wtm_at "wp"
  rw [e5_0]
  refine w_lc (fun zs i acc S5 => acc = [] ∧ Two S5 c q d r o p ∧ zs = [o.v, .lst o.ws, .non, .int 0]) ?_
  wtm_at "wp"
  refine ⟨by show 4 ≤ sizeLine; decide, ⟨rfl, w8, rfl⟩, ?_, ?_⟩
  · rintro i x acc V hx ⟨rfl, w9, e9⟩
    rw [e9] at hx
    refine ⟨gd_nil _, _, rfl, ?_⟩
    have hn : nfO false V 0 x = true ∧ tyO G.clss.length V x (.own 0) = some false := by
      match i, hx with
      | 0, hx => cases hx; exact ⟨rfl, rfl⟩
      | 1, hx => cases hx; exact ⟨rfl, rfl⟩
      | 2, hx => cases hx; exact ⟨rfl, rfl⟩
      | 3, hx => cases hx; exact ⟨rfl, rfl⟩
      | _ + 4, hx => simp at hx
    wtm_at "wp"
    refine ⟨_, _, _, _, _, rfl, w9.a.cA, hn.1, rfl, rfl, ?_⟩
    refine m_eqO (k := 9) hn.2 ?_
    refine ⟨_, rfl, ?_⟩
    refine ⟨_, rfl, fun e => (by cases e), fun _ => ⟨rfl, w9, e9⟩⟩
  rintro acc V ⟨rfl, w9, e9⟩
  refine ⟨gd_nil _, .ok ?_⟩
  wtm_at "wp"
  exact hZ _ _ _ _ _ _ _ _
theorem law_holds (ns : List Int) (S : List O) : okk (I G ds 11 5 [.scr (ns.map .int)] S) fun a _ => a = .bl true := by
  rw [I_succ G (fd := f5) (by rfl)]
  refine run_ok rfl ?_
  show oks (denSs G (I G ds 10) b5 [some (.scr (ns.map .int)), none, none, none, none, none, none, none, none] S) _
  rw [b5]
  refine s_cons ?_
  rw [w5_1]
  refine s_loop (fun xs i τ S' => ∃ c1 c2 c3 c4 c5 c6 c7 c8, τ = [some (.scr (ns.map .int)), c1, c2, c3, c4, c5, c6, c7, c8]) ?_
  refine okk.of (rng_script' G (I G ds 10) ns 40 (by omega) _ S) ⟨⟨_, _, _, _, _, _, _, _, rfl⟩, ?_, ?_⟩
  · rintro i x τ U hx ⟨c1, c2, c3, c4, c5, c6, c7, c8, rfl⟩
    have hi := (List.getElem?_eq_some_iff.mp hx).1
    rw [rngA_len] at hi
    obtain ⟨_, rfl⟩ := rngA_get _ 0 i x hx
    refine ⟨gd_nil _, _, rfl, ?_⟩
    dsimp only [List.set]
    rw [show (0 : Int) + (i : Nat) = ((i : Nat) : Int) by omega]
    exact turn_ok (by omega) fun c2 c3 c4 c5 c6 c7 c8 S' => ⟨_, _, _, _, _, _, _, _, rfl⟩
  · rintro τ U ⟨c1, c2, c3, c4, c5, c6, c7, c8, rfl⟩
    refine ⟨gd_nil _, ?_⟩
    dsimp only [nxt]
    wtm_at "wp"
    rfl
end K23
namespace K23
open PySem PySem.Spec PyProof.Rows L2 Lt
theorem nOk : ∀ (d : Nat) (x : Str), G.dnames[d]? = some (some x) → ∃ dd, fn[d]? = some dd ∧ dd.at_ = (x, none) := by
  intro d x h
  match d, h with
  | 0, h => cases h; exact ⟨_, rfl, rfl⟩
  | 1, h => cases h; exact ⟨_, rfl, rfl⟩
  | 2, h => cases h; exact ⟨_, rfl, rfl⟩
  | 3, h => cases h; exact ⟨_, rfl, rfl⟩
  | 4, h => cases h; exact ⟨_, rfl, rfl⟩
  | 5, h => cases h; exact ⟨_, rfl, rfl⟩
  | 6, h => cases h
  | 7, h => cases h
  | 8, h => cases h
  | 9, h => cases h
  | 10, h => cases h
  | 11, h => cases h
  | 12, h => cases h
  | _ + 13, h => simp [G, dnames] at h
theorem hdFacts {P : Program} {w : World} {K : PySem.W.Frag} {h hp : Heap} {mg : Str → Option Value} {f : Addr} (X : K.In h) (Gn : h.Ns mainGlobals mg) (hfa : mg ("law" : Str) = some (.ref f)) (c : He.SaysX fa fn (tsOf tabs) [] ex w hp K) :
    ∃ fd : FuncData, (∀ (s : Shared) (v : Value), BindsTo s fd ⟨[v], []⟩ [("script", v)]) ∧ ∀ base : Heap, K.In base → base.Ns mainGlobals mg → FnOkG P w K mg base CX0 44 f fd ["script"] (spLaw K) := by
  have hx : exOf tabs K = true ∧ clsB (G.clss.map (·.name)) K = true ∧ G.consts.all (ktB K) = true ∧ dftB G fn K = true ∧ xcsB G K = true := by
    have := c.more
    unfold ex at this
    simpa only [Bool.and_eq_true] using this
  obtain ⟨fd, F⟩ := c.t.d.def_ 5 (d := q5) rfl
  have F0 := f0_cls X Gn c.t.d nOk (by decide +kernel) hx.2.2.1 (by decide +kernel) hx.2.1 (tabs_ok2 (G := G) X Gn c hx.1 (fun t ht => by cases ht)) (xc_all X Gn c.t.d (fun f hf => List.mem_append_right _ (List.mem_append_right _ (List.mem_append_left _ hf))) (List.mem_append_left _ (List.mem_append_left _ (List.mem_append_left _ (List.mem_map.mpr ⟨"ValueError", by decide, rfl⟩)))) hx.2.2.2.2 xi (G.clss.map (·.name)) (by simp))
  have e := hfa.symm.trans (F0.dn 5 "law" rfl).1
  cases e
  have b := FunD.bindsA (ps := ["script"]) F fun _ _ _ _ _ _ us hl => match us, hl with | [_], _ => rfl
  exact ⟨fd, fun s v => b s [v] rfl, fun base _ _ => law_ok (levels F0 c.t.d ok kw dfa (dvOk hx.2.2.2.1) 10) o5 F rfl fun ns _ => by
    obtain ⟨a, S, e, ha⟩ := okk.iff.mp (law_holds ns [])
    rw [I_succ G (fd := f5) (by rfl)] at e
    subst ha
    exact ⟨S, e⟩⟩
end K23
open PySem PySem.W PySem.Calls PyProof.Rows
theorem PySem.Challenge.cw_unmadethings_k23_frames_told_holds : PySem.Challenge.rw_unmadethings_k23_frames_told.Holds := by
  w_on; o_law
  refine HandSHeadRun.head_any (r := OpenLaw.row PySem.Challenge.rw_unmadethings_k23_frames_told) (q := view (OpenLaw.row PySem.Challenge.rw_unmadethings_k23_frames_told).prog [8]) (H := K23.hk) (ob := K23.ob) (M := 8000) (loose := K23.loose) (d := HandSHeadRun.topDef (OpenLaw.row PySem.Challenge.rw_unmadethings_k23_frames_told).prog 8) (kwd := []) K23.ob_eq
    (by kernel_rfl) (fun s => by kernel_rfl) K23.run (by kernel_rfl) (by kernel_rfl) (by kernel_rfl) (by rfl) (by first | assumption | decide +kernel) (by decide +kernel) ⟨rfl, rfl, rfl, rfl, rfl, by decide +kernel⟩ ?hw ?hc
  case hw => w_witness2
  case hc =>
    refine Lt.walk_ofG (l := PySem.Challenge.rw_unmadethings_k23_frames_told) (n := 63) (k := 44) (x := "script") (CX := L2.CX0) rfl (by decide) (by kernel_rfl) ⟨rfl, by decide, by decide⟩ ?F (fun _ _ _ _ z => z)
    intro w mg fa h Y G hmg0
    obtain ⟨K, KX, c⟩ := Y
    have hmg : mg ("law" : PySem.Str) = some (.ref fa) := by
      have e : (HandSHeadRun.topDef (OpenLaw.row PySem.Challenge.rw_unmadethings_k23_frames_told).prog 8).name = ("law" : PySem.Str) := by kernel_rfl
      rw [← e]
      exact hmg0
    obtain ⟨fd, hb, hF⟩ := K23.hdFacts (P := (PySem.Challenge.rw_unmadethings_k23_frames_told).prog) (w := w) KX G hmg c
    exact ⟨K, fd, Lt.spLaw K, KX, hb, fun H a ns hl _ hS => ⟨a, ns, rfl, hl, hS, fun _ => rfl⟩, hF⟩
