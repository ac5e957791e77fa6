import PyProof.Rows.All
import Wide.All
import OpenK.AllK
import Wide.FinOn
import HandS.ForMost
import HandS.ForExc
import HandS.Flow
import HandS.CallSlots
import HandS.IsInst
import HandS.Deep
import HandS.More
import HandS.Defaults
import HandS.Zip
import HandS.TupAny
import HandS.DictComp
import HandS.TryMany
import HandS.Style
import HandS.Conv
import HandS.TupMul
import HandS.SortInts
import HandS.SortRule
import KE.GoesEnum
import PyProof.CollectIter
import PyProof.WalksMore
import PyProof.MakeMany
import HandS.Small
import HandS.Head0
import HandS.Head1
import HandS.Head2
import HandS.HeadEnd
import HandS.HeadHook1
import HandS.HeadHook2
import HandS.HeadHook3
import HandS.HeadHook4
import PySem.Challenge.RW_unmadethings_k04_told_of_programs
set_option Elab.async false
set_option linter.all false
set_option maxRecDepth 100000
set_option maxHeartbeats 0
/-! values, the abstract store, how they stand to the layer's heap -/
namespace Lt
open PySem L2

inductive A where
  | non | bl (b : Bool) | int (i : Int) | str (x : List Nat) | ref (n : Nat) | tup (xs : List A) | lst (xs : List A) | scr (xs : List A) | ktup (xs : List A)
inductive O where
  | lst (xs : List A) | dic (t : Bool) (kvs : List (A × A)) | ins (c : Nat) (fs : List (Str × A)) | dead

def mkS (l : List Nat) : Str := ⟨l.toArray⟩
theorem mkS_tl (x : Str) : mkS x.cps.toList = x := by cases x; simp [mkS]
theorem mkS_inj {l m : List Nat} (h : mkS l = mkS m) : l = m := by
  have h' : l.toArray = m.toArray := congrArg Str.cps h
  simpa using congrArg Array.toList h'
theorem mkS_cps (l : List Nat) : (mkS l).cps.toList = l := by simp [mkS]
/-- a text of the model: signs, not too long -/
def okS (l : List Nat) : Prop := l.length ≤ sizeLine ∧ (∀ c ∈ l, c < 0x110000)

structure Wd where
  ms : List Addr
  S : List O
  H : Hp
  /-- lists that are just being built -/
  hid : List Addr
def Wd.Live (w : Wd) (a : Addr) : Prop := a ∈ w.hid ∨ ∃ (n : Nat) (o : O), w.ms[n]? = some a ∧ w.S[n]? = some o ∧ o ≠ .dead

def KL (K : PySem.W.Frag) (a : Addr) (xs : List V) : Prop :=
  ∃ (o : Obj) (its : Array Value) (n : Nat), K.lookup a = some o ∧ o.cls = .type "list" ∧ o.dict = none ∧ o.data = .seq its n ∧ its.size ≤ sizeLine ∧ Vals xs its.toList
def KT (K : PySem.W.Frag) (a : Addr) (xs : List V) : Prop :=
  ∃ (o : Obj) (its : Array Value) (n : Nat), K.lookup a = some o ∧ o.cls = .type "tuple" ∧ o.data = .seq its n ∧ its.size ≤ sizeLine ∧ Vals xs its.toList
def VL (w : Wd) (a : Addr) (xs : List V) : Prop := Rd w.H a (.lst xs) ∧ ¬ w.Live a
def VT (w : Wd) (a : Addr) (xs : List V) : Prop := w.H a = some (.tup xs) ∧ ¬ w.Live a
theorem VL.sq {K : PySem.W.Frag} {w : Wd} {a : Addr} {xs : List V} (h : VL w a xs) : SqL K w.H a xs := .inl h.1
theorem VT.sq {K : PySem.W.Frag} {w : Wd} {a : Addr} {xs : List V} (h : VT w a xs) : SqT K w.H a xs := .inl (.inl h.1)

mutual
def RelA (K : PySem.W.Frag) (w : Wd) : A → V → Prop
  | .non, v => v = .non
  | .bl b, v => v = .bl b
  | .int i, v => v = .int i
  | .str x, v => v = .str (mkS x) ∧ okS x
  | .ref n, v => ∃ a, w.ms[n]? = some a ∧ v = .ref a
  | .tup xs, v => ∃ a vs, v = .ref a ∧ VT w a vs ∧ RelAs K w xs vs
  | .lst xs, v => ∃ a vs, v = .ref a ∧ VL w a vs ∧ RelAs K w xs vs
  | .scr xs, v => ∃ a vs, v = .ref a ∧ (VL w a vs ∨ KL K a vs) ∧ RelAs K w xs vs
  | .ktup xs, v => ∃ a vs, v = .ref a ∧ KT K a vs ∧ RelAs K w xs vs
def RelAs (K : PySem.W.Frag) (w : Wd) : List A → List V → Prop
  | [], vs => vs = []
  | x :: xs, vs => ∃ v r, vs = v :: r ∧ RelA K w x v ∧ RelAs K w xs r
end

structure Mo (w w' : Wd) : Prop where
  pre : ∃ t, w'.ms = w.ms ++ t
  keep : ∀ a h, w.H a = some h → ¬ w.Live a → w'.H a = some h ∧ ¬ w'.Live a
structure Le (w w' : Wd) : Prop where
  mo : Mo w w'
  hid : w'.hid = w.hid
  hidk : ∀ a ∈ w.hid, ∀ h, w.H a = some h → w'.H a = some h
instance (w w' : Wd) : CoeOut (Le w w') (Mo w w') := ⟨Le.mo⟩
theorem Mo.refl (w : Wd) : Mo w w := ⟨⟨[], by simp⟩, fun _ _ h l => ⟨h, l⟩⟩
theorem Mo.trans {a b c : Wd} (h : Mo a b) (k : Mo b c) : Mo a c := by
  obtain ⟨t, e⟩ := h.pre
  obtain ⟨u, f⟩ := k.pre
  exact ⟨⟨t ++ u, by rw [f, e, List.append_assoc]⟩, fun x o q l => let ⟨q', l'⟩ := h.keep x o q l; k.keep x o q' l'⟩
theorem Le.refl (w : Wd) : Le w w := ⟨Mo.refl w, rfl, fun _ _ _ h => h⟩
theorem Le.trans {a b c : Wd} (h : Le a b) (k : Le b c) : Le a c :=
  ⟨h.mo.trans k.mo, k.hid.trans h.hid, fun x hx o q => k.hidk x (by rw [h.hid]; exact hx) o (h.hidk x hx o q)⟩
theorem Mo.ix {w w' : Wd} (h : Mo w w') {n : Nat} {a : Addr} (e : w.ms[n]? = some a) : w'.ms[n]? = some a := by
  obtain ⟨t, f⟩ := h.pre
  rw [f, List.getElem?_append_left (List.getElem?_eq_some_iff.mp e).1]
  exact e
theorem Mo.rd {w w' : Wd} (h : Mo w w') {a : Addr} {u : HO} (r : Rd w.H a u) (l : ¬ w.Live a) : Rd w'.H a u ∧ ¬ w'.Live a := by
  rcases r with r | ⟨o, r⟩
  · obtain ⟨q, l'⟩ := h.keep a _ r l
    exact ⟨.inl q, l'⟩
  · obtain ⟨q, l'⟩ := h.keep a _ r l
    exact ⟨.inr ⟨o, q⟩, l'⟩
theorem VL.mono {w w' : Wd} (h : Mo w w') {a : Addr} {xs : List V} (v : VL w a xs) : VL w' a xs := h.rd v.1 v.2
theorem VT.mono {w w' : Wd} (h : Mo w w') {a : Addr} {xs : List V} (v : VT w a xs) : VT w' a xs := h.keep a _ v.1 v.2
mutual
theorem RelA.mono {K : PySem.W.Frag} {w w' : Wd} (h : Mo w w') : ∀ (a : A) (v : V), RelA K w a v → RelA K w' a v
  | .non, _, r => by simpa [RelA] using r
  | .bl _, _, r => by simpa [RelA] using r
  | .int _, _, r => by simpa [RelA] using r
  | .str _, _, r => by simpa [RelA] using r
  | .ref n, v, r => by
    simp only [RelA] at r ⊢
    obtain ⟨a, e, q⟩ := r
    exact ⟨a, h.ix e, q⟩
  | .tup xs, v, r => by
    simp only [RelA] at r ⊢
    obtain ⟨a, vs, e, q, rs⟩ := r
    exact ⟨a, vs, e, q.mono h, RelAs.mono h xs vs rs⟩
  | .lst xs, v, r => by
    simp only [RelA] at r ⊢
    obtain ⟨a, vs, e, q, rs⟩ := r
    exact ⟨a, vs, e, q.mono h, RelAs.mono h xs vs rs⟩
  | .scr xs, v, r => by
    simp only [RelA] at r ⊢
    obtain ⟨a, vs, e, q, rs⟩ := r
    exact ⟨a, vs, e, q.imp (fun q => q.mono h) id, RelAs.mono h xs vs rs⟩
  | .ktup xs, v, r => by
    simp only [RelA] at r ⊢
    obtain ⟨a, vs, e, q, rs⟩ := r
    exact ⟨a, vs, e, q, RelAs.mono h xs vs rs⟩
theorem RelAs.mono {K : PySem.W.Frag} {w w' : Wd} (h : Mo w w') : ∀ (xs : List A) (vs : List V), RelAs K w xs vs → RelAs K w' xs vs
  | [], _, r => by simpa [RelAs] using r
  | x :: xs, vs, r => by
    simp only [RelAs] at r ⊢
    obtain ⟨v, q, e, r1, r2⟩ := r
    exact ⟨v, q, e, RelA.mono h x v r1, RelAs.mono h xs q r2⟩
end
theorem RelAs.paired {K : PySem.W.Frag} {w : Wd} : ∀ {xs : List A} {vs : List V}, RelAs K w xs vs ↔ Paired (RelA K w) xs vs
  | [], vs => ⟨fun h => by simp only [RelAs] at h; subst h; exact .nil, fun h => by cases h; simp [RelAs]⟩
  | x :: xs, vs => by
    constructor
    · intro h
      simp only [RelAs] at h
      obtain ⟨v, r, rfl, h1, h2⟩ := h
      exact .cons h1 (RelAs.paired.mp h2)
    · intro h
      cases h with
      | cons h1 h2 =>
        simp only [RelAs]
        exact ⟨_, _, rfl, h1, RelAs.paired.mpr h2⟩
theorem RelAs.length {K : PySem.W.Frag} {w : Wd} {xs : List A} {vs : List V} (h : RelAs K w xs vs) : xs.length = vs.length := (RelAs.paired.mp h).length
theorem RelAs.nil {K : PySem.W.Frag} {w : Wd} : RelAs K w [] [] := by simp [RelAs]
theorem RelAs.cons {K : PySem.W.Frag} {w : Wd} {x : A} {xs : List A} {v : V} {vs : List V} (h : RelA K w x v) (t : RelAs K w xs vs) : RelAs K w (x :: xs) (v :: vs) := by
  simp only [RelAs]; exact ⟨v, vs, rfl, h, t⟩
theorem RelAs.append {K : PySem.W.Frag} {w : Wd} : ∀ {xs ys : List A} {vs us : List V}, RelAs K w xs vs → RelAs K w ys us → RelAs K w (xs ++ ys) (vs ++ us)
  | [], ys, vs, us, h, k => by simp only [RelAs] at h; subst h; exact k
  | x :: xs, ys, vs, us, h, k => by
    simp only [RelAs] at h
    obtain ⟨v, r, rfl, h1, h2⟩ := h
    exact RelAs.cons h1 (RelAs.append h2 k)
theorem RelAs.get {K : PySem.W.Frag} {w : Wd} : ∀ {xs : List A} {vs : List V} {i : Nat} {x : A}, RelAs K w xs vs → xs[i]? = some x → ∃ v, vs[i]? = some v ∧ RelA K w x v
  | [], _, _, _, _, e => by simp at e
  | y :: xs, vs, 0, x, h, e => by
    simp only [RelAs] at h
    obtain ⟨v, r, rfl, h1, h2⟩ := h
    simp at e; subst e
    exact ⟨v, rfl, h1⟩
  | y :: xs, vs, i + 1, x, h, e => by
    simp only [RelAs] at h
    obtain ⟨v, r, rfl, h1, h2⟩ := h
    obtain ⟨u, a, b⟩ := RelAs.get (i := i) h2 (by simpa using e)
    exact ⟨u, by simpa using a, b⟩
theorem RelAs.got {K : PySem.W.Frag} {w : Wd} : ∀ {xs : List A} {vs : List V} {i : Nat} {v : V}, RelAs K w xs vs → vs[i]? = some v → ∃ x, xs[i]? = some x ∧ RelA K w x v
  | [], vs, _, _, h, e => by simp only [RelAs] at h; subst h; simp at e
  | y :: xs, vs, 0, x, h, e => by
    simp only [RelAs] at h
    obtain ⟨v, r, rfl, h1, h2⟩ := h
    simp at e; subst e
    exact ⟨y, rfl, h1⟩
  | y :: xs, vs, i + 1, x, h, e => by
    simp only [RelAs] at h
    obtain ⟨v, r, rfl, h1, h2⟩ := h
    obtain ⟨u, a, b⟩ := RelAs.got (i := i) h2 (by simpa using e)
    exact ⟨u, by simpa using a, b⟩
theorem RelAs.set {K : PySem.W.Frag} {w : Wd} {x : A} {v : V} (r : RelA K w x v) : ∀ {xs : List A} {vs : List V} (i : Nat), RelAs K w xs vs → RelAs K w (xs.set i x) (vs.set i v)
  | [], _, _, h => by simp only [RelAs] at h; subst h; exact RelAs.nil
  | y :: xs, vs, 0, h => by
    simp only [RelAs] at h
    obtain ⟨u, q, rfl, h1, h2⟩ := h
    exact RelAs.cons r h2
  | y :: xs, vs, i + 1, h => by
    simp only [RelAs] at h
    obtain ⟨u, q, rfl, h1, h2⟩ := h
    exact RelAs.cons h1 (RelAs.set r i h2)
theorem RelAs.take {K : PySem.W.Frag} {w : Wd} : ∀ {xs : List A} {vs : List V} (n : Nat), RelAs K w xs vs → RelAs K w (xs.take n) (vs.take n)
  | _, _, 0, _ => by simp; exact RelAs.nil
  | [], _, _ + 1, h => by simp only [RelAs] at h; subst h; exact RelAs.nil
  | y :: xs, vs, n + 1, h => by
    simp only [RelAs] at h
    obtain ⟨u, q, rfl, h1, h2⟩ := h
    exact RelAs.cons h1 (RelAs.take n h2)
theorem RelAs.drop {K : PySem.W.Frag} {w : Wd} : ∀ {xs : List A} {vs : List V} (n : Nat), RelAs K w xs vs → RelAs K w (xs.drop n) (vs.drop n)
  | _, _, 0, h => h
  | [], _, _ + 1, h => by simp only [RelAs] at h; subst h; exact RelAs.nil
  | y :: xs, vs, n + 1, h => by
    simp only [RelAs] at h
    obtain ⟨u, q, rfl, h1, h2⟩ := h
    exact RelAs.drop n h2
theorem RelAs.reverse {K : PySem.W.Frag} {w : Wd} : ∀ {xs : List A} {vs : List V}, RelAs K w xs vs → RelAs K w xs.reverse vs.reverse
  | [], _, h => by simp only [RelAs] at h; subst h; exact RelAs.nil
  | y :: xs, vs, h => by
    simp only [RelAs] at h
    obtain ⟨u, q, rfl, h1, h2⟩ := h
    rw [List.reverse_cons, List.reverse_cons]
    exact (RelAs.reverse h2).append (RelAs.cons h1 RelAs.nil)
theorem RelAs.none {K : PySem.W.Frag} {w : Wd} {xs : List A} {vs : List V} {i : Nat} (h : RelAs K w xs vs) (e : xs[i]? = none) : vs[i]? = none := by
  have := h.length
  exact List.getElem?_eq_none_iff.mpr (by have := List.getElem?_eq_none_iff.mp e; omega)

/-! ### objects -/
/-- a key of a dict with plain keys -/
def keyOf : A → Option Key
  | .int i => some (.inl i)
  | .str x => some (.inr (mkS x))
  | _ => none
def keysOf : List A → Option (List Key)
  | [] => some []
  | a :: r => match keyOf a, keysOf r with
    | some k, some ks => some (k :: ks)
    | _, _ => none
def tkeyOf : A → Option (List Key)
  | .tup xs => keysOf xs
  | _ => none
def okKey : A → Prop
  | .str x => okS x
  | .tup xs => ∀ x ∈ xs, match x with | .str y => okS y | _ => True
  | _ => True

def RelO (K : PySem.W.Frag) (cls : Nat → Addr) (w : Wd) (a : Addr) : O → Prop
  | .lst xs => ∃ vs, w.H a = some (.lst vs) ∧ RelAs K w xs vs
  | .dic false kvs => ∃ ws, w.H a = some (.dK ws) ∧ Paired (fun (p : A × A) (q : Key × V) => keyOf p.1 = some q.1 ∧ okKey p.1 ∧ RelA K w p.2 q.2) kvs ws
  | .dic true kvs => ∃ ws, w.H a = some (.dT ws) ∧ Paired (fun (p : A × A) (q : List Key × V) => tkeyOf p.1 = some q.1 ∧ okKey p.1 ∧ RelA K w p.2 q.2) kvs ws
  | .ins c fs => ∃ dx ws, w.H a = some (.ins (cls c) dx ws) ∧ Paired (fun (p : Str × A) (q : Str × V) => p.1 = q.1 ∧ RelA K w p.2 q.2) fs ws
  | .dead => True
theorem RelO.mono {K : PySem.W.Frag} {cls : Nat → Addr} {w w' : Wd} {a : Addr} (h : Mo w w') (e : w'.H a = w.H a) : ∀ {o : O}, RelO K cls w a o → RelO K cls w' a o
  | .lst xs, ⟨vs, q, r⟩ => ⟨vs, e.trans q, r.mono h⟩
  | .dic false kvs, ⟨ws, q, r⟩ => ⟨ws, e.trans q, Paired.mapP r fun _ _ z => ⟨z.1, z.2.1, z.2.2.mono h⟩⟩
  | .dic true kvs, ⟨ws, q, r⟩ => ⟨ws, e.trans q, Paired.mapP r fun _ _ z => ⟨z.1, z.2.1, z.2.2.mono h⟩⟩
  | .ins c fs, ⟨dx, ws, q, r⟩ => ⟨dx, ws, e.trans q, Paired.mapP r fun _ _ z => ⟨z.1, z.2.mono h⟩⟩
  | .dead, _ => trivial

structure RelS (K : PySem.W.Frag) (cls : Nat → Addr) (w : Wd) : Prop where
  len : w.ms.length = w.S.length
  nd : w.ms.Nodup
  has : ∀ (n : Nat) (a : Addr), w.ms[n]? = some a → ∃ h, w.H a = some h
  obj : ∀ (n : Nat) (a : Addr) (o : O), w.ms[n]? = some a → w.S[n]? = some o → RelO K cls w a o
  hid : ∀ a ∈ w.hid, a ∉ w.ms ∧ ∃ h, w.H a = some h
theorem RelS.at {K : PySem.W.Frag} {cls : Nat → Addr} {w : Wd} (h : RelS K cls w) {n : Nat} {o : O} (e : w.S[n]? = some o) : ∃ a, w.ms[n]? = some a ∧ RelO K cls w a o := by
  have hn : n < w.ms.length := by rw [h.len]; exact (List.getElem?_eq_some_iff.mp e).1
  exact ⟨w.ms[n], List.getElem?_eq_getElem hn, h.obj n _ o (List.getElem?_eq_getElem hn) e⟩
theorem RelS.fresh {K : PySem.W.Frag} {cls : Nat → Addr} {w : Wd} (h : RelS K cls w) {p : Addr} (e : w.H p = none) : p ∉ w.ms := fun hm => by
  obtain ⟨n, hn⟩ := List.getElem?_of_mem hm
  obtain ⟨o, q⟩ := h.has n p hn
  rw [e] at q; cases q
theorem RelS.new_ {K : PySem.W.Frag} {cls : Nat → Addr} {w : Wd} (h : RelS K cls w) {p : Addr} (e : w.H p = none) : ¬ w.Live p := fun l => by
  rcases l with l | ⟨n, o, e1, _⟩
  · obtain ⟨_, o, q⟩ := h.hid p l
    rw [e] at q; cases q
  · exact h.fresh e (List.mem_of_getElem? e1)

/-- the heap grows, the store stays -/
theorem Le.grow {w : Wd} {H' : Hp} (h : ∀ a o, w.H a = some o → H' a = some o) : Le w ⟨w.ms, w.S, H', w.hid⟩ := ⟨⟨⟨[], by simp⟩, fun a o e l => ⟨h a o e, l⟩⟩, rfl, fun a _ o e => h a o e⟩
theorem RelS.grow {K : PySem.W.Frag} {cls : Nat → Addr} {w : Wd} {H' : Hp} (s : RelS K cls w) (h : ∀ a o, w.H a = some o → H' a = some o) : RelS K cls ⟨w.ms, w.S, H', w.hid⟩ :=
  ⟨s.len, s.nd, fun n a e => let ⟨o, q⟩ := s.has n a e; ⟨o, h a o q⟩, fun n a o e1 e2 => by
    obtain ⟨o', q⟩ := s.has n a e1
    exact (s.obj n a o e1 e2).mono (Le.grow h).mo ((h a o' q).trans q.symm), fun a ha => ⟨(s.hid a ha).1, let ⟨o, q⟩ := (s.hid a ha).2; ⟨o, h a o q⟩⟩⟩
theorem upd_grow {H : Hp} {p : Addr} {o : HO} (e : H p = none) : ∀ a u, H a = some u → upd H p o a = some u := fun a u q => by
  rw [upd_ne (ne_of_none q e)]; exact q
/-- a new tuple, a new list as a value -/
theorem new_tup {K : PySem.W.Frag} {cls : Nat → Addr} {w : Wd} (s : RelS K cls w) {p : Addr} {xs : List A} {vs : List V} (r : RelAs K w xs vs) (e : w.H p = none) :
    RelA K ⟨w.ms, w.S, upd w.H p (.tup vs), w.hid⟩ (.tup xs) (.ref p) := by
  have le : Le w ⟨w.ms, w.S, upd w.H p (.tup vs), w.hid⟩ := Le.grow (upd_grow e)
  simp only [RelA]
  exact ⟨p, vs, rfl, ⟨upd_same, fun l => s.new_ e l⟩, r.mono le⟩
theorem new_lst {K : PySem.W.Frag} {cls : Nat → Addr} {w : Wd} (s : RelS K cls w) {p : Addr} {xs : List A} {vs : List V} (r : RelAs K w xs vs) (e : w.H p = none) :
    RelA K ⟨w.ms, w.S, upd w.H p (.lst vs), w.hid⟩ (.lst xs) (.ref p) := by
  have le : Le w ⟨w.ms, w.S, upd w.H p (.lst vs), w.hid⟩ := Le.grow (upd_grow e)
  simp only [RelA]
  exact ⟨p, vs, rfl, ⟨.inl upd_same, fun l => s.new_ e l⟩, r.mono le⟩
theorem ms_new {w : Wd} {p a : Addr} {n : Nat} (e1 : (w.ms ++ [p])[n]? = some a) : (n < w.ms.length ∧ w.ms[n]? = some a) ∨ (n = w.ms.length ∧ a = p) := by
  by_cases hn : n < w.ms.length
  · exact .inl ⟨hn, by rw [← e1]; exact (List.getElem?_append_left hn).symm⟩
  · have hl := (List.getElem?_eq_some_iff.mp e1).1
    have hn' : n = w.ms.length := by simp at hl; omega
    subst hn'
    rw [List.getElem?_append_right (by omega)] at e1
    exact .inr ⟨rfl, by simpa using List.mem_of_getElem? e1⟩
/-- a new object -/
theorem Le.new {K : PySem.W.Frag} {cls : Nat → Addr} {w : Wd} (s : RelS K cls w) {H' : Hp} {p : Addr} {o : O} (e : w.H p = none) (g : ∀ a u, w.H a = some u → H' a = some u) : Le w ⟨w.ms ++ [p], w.S ++ [o], H', w.hid⟩ := by
  refine ⟨⟨⟨[p], rfl⟩, fun a u q l => ⟨g a u q, fun hl => ?_⟩⟩, rfl, fun a _ u q => g a u q⟩
  rcases hl with hl | ⟨n, o', e1, e2, e3⟩
  · exact l (.inl hl)
  rcases ms_new e1 with ⟨hn, e1'⟩ | ⟨_, rfl⟩
  · have e2' : w.S[n]? = some o' := by rw [← e2]; exact (List.getElem?_append_left (by rw [← s.len]; exact hn)).symm
    exact l (.inr ⟨n, o', e1', e2', e3⟩)
  · rw [e] at q; cases q
theorem RelS.new {K : PySem.W.Frag} {cls : Nat → Addr} {w : Wd} (s : RelS K cls w) {H' : Hp} {p : Addr} {o : O} (e : w.H p = none) (g : ∀ a u, w.H a = some u → H' a = some u) (hp : ∃ h, H' p = some h)
    (r : RelO K cls ⟨w.ms ++ [p], w.S ++ [o], H', w.hid⟩ p o) : RelS K cls ⟨w.ms ++ [p], w.S ++ [o], H', w.hid⟩ := by
  have le := Le.new (o := o) s e g
  refine ⟨by simp [s.len], ?_, fun n a h => ?_, fun n a o' h1 h2 => ?_, fun a ha => ⟨fun hm => ?_, let ⟨o, q⟩ := (s.hid a ha).2; ⟨o, g a o q⟩⟩⟩
  · show (w.ms ++ [p]).Nodup
    rw [List.nodup_append]
    exact ⟨s.nd, by simp, fun a ha b hb => by
      have : b = p := by simpa using hb
      subst this
      intro z; subst z
      exact s.fresh e ha⟩
  · rcases ms_new h with ⟨hn, h'⟩ | ⟨_, rfl⟩
    · obtain ⟨u, q⟩ := s.has n a h'
      exact ⟨u, g a u q⟩
    · exact hp
  · rcases ms_new h1 with ⟨hn, h1'⟩ | ⟨rfl, rfl⟩
    · have h2' : w.S[n]? = some o' := by rw [← h2]; exact (List.getElem?_append_left (by rw [← s.len]; exact hn)).symm
      obtain ⟨u, q⟩ := s.has n a h1'
      exact (s.obj n a o' h1' h2').mono le.mo ((g a u q).trans q.symm)
    · have h2' : (w.S ++ [o])[w.ms.length]? = some o' := h2
      rw [List.getElem?_append_right (by rw [s.len]; exact Nat.le_refl _)] at h2'
      have eo : o' = o := by simpa using List.mem_of_getElem? h2'
      subst eo
      exact r
  · have hm : a ∈ w.ms ++ [p] := hm
    rcases List.mem_append.mp hm with hm | hm
    · exact (s.hid a ha).1 hm
    · have : a = p := by simpa using hm
      subst this
      obtain ⟨o, q⟩ := (s.hid a ha).2
      rw [e] at q; cases q
theorem new_ref {K : PySem.W.Frag} {w : Wd} {p : Addr} {o : O} {H' : Hp} {cls : Nat → Addr} (s : RelS K cls w) : RelA K ⟨w.ms ++ [p], w.S ++ [o], H', w.hid⟩ (.ref w.S.length) (.ref p) := by
  simp only [RelA]
  refine ⟨p, ?_, rfl⟩
  show (w.ms ++ [p])[w.S.length]? = some p
  rw [← s.len]
  simp
/-- an object changed -/
theorem Le.put {K : PySem.W.Frag} {cls : Nat → Addr} {w : Wd} (s : RelS K cls w) {n : Nat} {a : Addr} {o o' : O} {h : HO} (ea : w.ms[n]? = some a) (eo : w.S[n]? = some o) (nd : o ≠ .dead) : Le w ⟨w.ms, w.S.set n o', upd w.H a h, w.hid⟩ := by
  have la : w.Live a := .inr ⟨n, o, ea, eo, nd⟩
  refine ⟨⟨⟨[], by simp⟩, fun b u q l => ?_⟩, rfl, fun b hb u q => ?_⟩
  · have hb : b ≠ a := fun z => l (z ▸ la)
    refine ⟨(upd_ne hb).trans q, fun hl => ?_⟩
    rcases hl with hl | ⟨m, o2, e1, e2, e3⟩
    · exact l (.inl hl)
    have e1' : w.ms[m]? = some b := e1
    have hm : m ≠ n := fun z => by subst z; rw [ea] at e1'; exact hb (Option.some.inj e1').symm
    have e2' : (w.S.set n o')[m]? = some o2 := e2
    rw [List.getElem?_set_ne (Ne.symm hm)] at e2'
    exact l (.inr ⟨m, o2, e1', e2', e3⟩)
  · have hb : b ≠ a := fun z => by subst z; exact (s.hid b hb).1 (List.mem_of_getElem? ea)
    exact (upd_ne hb).trans q
theorem RelS.put {K : PySem.W.Frag} {cls : Nat → Addr} {w : Wd} (s : RelS K cls w) {n : Nat} {a : Addr} {o o' : O} {h : HO} (ea : w.ms[n]? = some a) (eo : w.S[n]? = some o) (nd : o ≠ .dead)
    (r : RelO K cls ⟨w.ms, w.S.set n o', upd w.H a h, w.hid⟩ a o') : RelS K cls ⟨w.ms, w.S.set n o', upd w.H a h, w.hid⟩ := by
  have le := Le.put (o' := o') (h := h) s ea eo nd
  refine ⟨by simp [s.len], s.nd, fun m b e => ?_, fun m b o2 e1 e2 => ?_, fun b hb => ⟨(s.hid b hb).1, let ⟨u, q⟩ := (s.hid b hb).2; ⟨u, le.hidk b hb u q⟩⟩⟩
  · by_cases hb : b = a
    · subst hb; exact ⟨h, upd_same⟩
    · obtain ⟨u, q⟩ := s.has m b e
      exact ⟨u, (upd_ne hb).trans q⟩
  · have e1' : w.ms[m]? = some b := e1
    by_cases hm : m = n
    · subst hm
      rw [ea] at e1'; cases e1'
      have e2' : (w.S.set m o')[m]? = some o2 := e2
      rw [List.getElem?_set_self (List.getElem?_eq_some_iff.mp eo).1] at e2'
      cases e2'
      exact r
    · have e2' : (w.S.set n o')[m]? = some o2 := e2
      rw [List.getElem?_set_ne (Ne.symm hm)] at e2'
      have hb : b ≠ a := fun z => by
        subst z
        have q1 := List.getElem?_eq_some_iff.mp e1'
        have q2 := List.getElem?_eq_some_iff.mp ea
        exact hm ((List.getElem_inj s.nd).mp (q1.2.trans q2.2.symm))
      exact (s.obj m b o2 e1' e2').mono le.mo (upd_ne hb)
/-- a list's object turned into a value -/
theorem Le.freeze {K : PySem.W.Frag} {cls : Nat → Addr} {w : Wd} (s : RelS K cls w) {n : Nat} : Le w ⟨w.ms, w.S.set n .dead, w.H, w.hid⟩ := by
  refine ⟨⟨⟨[], by simp⟩, fun b u q l => ⟨q, fun hl => ?_⟩⟩, rfl, fun _ _ _ q => q⟩
  rcases hl with hl | ⟨m, o2, e1, e2, e3⟩
  · exact l (.inl hl)
  have e2' : (w.S.set n .dead)[m]? = some o2 := e2
  by_cases hm : n = m
  · subst hm
    by_cases hl : n < w.S.length
    · rw [List.getElem?_set_self hl] at e2'
      cases e2'
      exact e3 rfl
    · rw [List.getElem?_eq_none (by simpa using hl)] at e2'; cases e2'
  · rw [List.getElem?_set_ne hm] at e2'
    exact l (.inr ⟨m, o2, e1, e2', e3⟩)
theorem RelS.freeze {K : PySem.W.Frag} {cls : Nat → Addr} {w : Wd} (s : RelS K cls w) {n : Nat} : RelS K cls ⟨w.ms, w.S.set n .dead, w.H, w.hid⟩ := by
  refine ⟨by simp [s.len], s.nd, s.has, fun m b o2 e1 e2 => ?_, s.hid⟩
  have e2' : (w.S.set n .dead)[m]? = some o2 := e2
  by_cases hm : n = m
  · subst hm
    by_cases hl : n < w.S.length
    · rw [List.getElem?_set_self hl] at e2'
      cases e2'
      trivial
    · rw [List.getElem?_eq_none (by simpa using hl)] at e2'; cases e2'
  · rw [List.getElem?_set_ne hm] at e2'
    exact (s.obj m b o2 e1 e2').mono (Le.freeze s).mo rfl
theorem frozen {K : PySem.W.Frag} {cls : Nat → Addr} {w : Wd} (s : RelS K cls w) {n : Nat} {xs : List A} {a : Addr} (ea : w.ms[n]? = some a) (eo : w.S[n]? = some (.lst xs)) : RelA K ⟨w.ms, w.S.set n .dead, w.H, w.hid⟩ (.lst xs) (.ref a) := by
  obtain ⟨vs, q, r⟩ := s.obj n a _ ea eo
  simp only [RelA]
  refine ⟨a, vs, rfl, ⟨.inl q, fun hl => ?_⟩, r.mono (Le.freeze s).mo⟩
  rcases hl with hl | ⟨m, o2, e1, e2, e3⟩
  · exact (s.hid a hl).1 (List.mem_of_getElem? ea)
  have e1' : w.ms[m]? = some a := e1
  have hm : m = n := by
    have q1 := List.getElem?_eq_some_iff.mp e1'
    have q2 := List.getElem?_eq_some_iff.mp ea
    exact (List.getElem_inj s.nd).mp (q1.2.trans q2.2.symm)
  subst hm
  have e2' : (w.S.set m .dead)[m]? = some o2 := e2
  rw [List.getElem?_set_self (List.getElem?_eq_some_iff.mp eo).1] at e2'
  cases e2'
  exact e3 rfl

/-! ### a list that is being built -/
/-- from the world ahead to the world with a new hidden list -/
def Wd.hide (w : Wd) (D : Addr) (o : HO) : Wd := ⟨w.ms, w.S, upd w.H D o, D :: w.hid⟩
theorem Mo.hide {w : Wd} {D : Addr} {o : HO} (e : w.H D = none) : Mo w (w.hide D o) :=
  ⟨⟨[], by simp [Wd.hide]⟩, fun a h q l => ⟨(upd_ne (ne_of_none q e)).trans q, fun hl => by
    rcases hl with hl | hl
    · rcases List.mem_cons.mp hl with rfl | hl
      · rw [e] at q; cases q
      · exact l (.inl hl)
    · exact l (.inr hl)⟩⟩
theorem RelS.hide {K : PySem.W.Frag} {cls : Nat → Addr} {w : Wd} {D : Addr} {o : HO} (s : RelS K cls w) (e : w.H D = none) : RelS K cls (w.hide D o) := by
  have g : ∀ a u, w.H a = some u → upd w.H D o a = some u := upd_grow e
  refine ⟨s.len, s.nd, fun n a h => let ⟨o, q⟩ := s.has n a h; ⟨o, g a o q⟩, fun n a o h1 h2 => ?_, fun a ha => ?_⟩
  · obtain ⟨u, q⟩ := s.has n a h1
    exact (s.obj n a o h1 h2).mono (Mo.hide e) ((g a u q).trans q.symm)
  · rcases List.mem_cons.mp ha with rfl | ha
    · exact ⟨s.fresh e, _, upd_same⟩
    · exact ⟨(s.hid a ha).1, let ⟨o, q⟩ := (s.hid a ha).2; ⟨o, g a o q⟩⟩
/-- the hidden list changed -/
def Wd.poke (w : Wd) (D : Addr) (o : HO) : Wd := ⟨w.ms, w.S, upd w.H D o, w.hid⟩
theorem Mo.poke {w : Wd} {D : Addr} {o : HO} (h : D ∈ w.hid) : Mo w (w.poke D o) :=
  ⟨⟨[], by simp [Wd.poke]⟩, fun a u q l => ⟨(upd_ne fun z => l (.inl (by rw [z]; exact h))).trans q, l⟩⟩
theorem RelS.poke {K : PySem.W.Frag} {cls : Nat → Addr} {w : Wd} {D : Addr} {o : HO} (s : RelS K cls w) (h : D ∈ w.hid) : RelS K cls (w.poke D o) := by
  have ne : ∀ a ∈ w.ms, a ≠ D := fun a ha z => (s.hid D h).1 (z ▸ ha)
  refine ⟨s.len, s.nd, fun n a e => let ⟨o, q⟩ := s.has n a e; ⟨o, (upd_ne (ne a (List.mem_of_getElem? e))).trans q⟩, fun n a o h1 h2 => ?_, fun a ha => ⟨(s.hid a ha).1, ?_⟩⟩
  · exact (s.obj n a o h1 h2).mono (Mo.poke h) (upd_ne (ne a (List.mem_of_getElem? h1)))
  · by_cases z : a = D
    · subst z; exact ⟨_, upd_same⟩
    · obtain ⟨o, q⟩ := (s.hid a ha).2
      exact ⟨o, (upd_ne z).trans q⟩
/-- the hidden list comes out as a value -/
def Wd.show_ (w : Wd) (hid : List Addr) : Wd := ⟨w.ms, w.S, w.H, hid⟩
theorem Mo.show_ {w : Wd} {D : Addr} {hid : List Addr} (h : w.hid = D :: hid) : Mo w (w.show_ hid) :=
  ⟨⟨[], by simp [Wd.show_]⟩, fun a u q l => ⟨q, fun hl => by
    rcases hl with hl | hl
    · exact l (.inl (by rw [h]; exact List.mem_cons_of_mem _ hl))
    · exact l (.inr hl)⟩⟩
theorem RelS.show_ {K : PySem.W.Frag} {cls : Nat → Addr} {w : Wd} {D : Addr} {hid : List Addr} (s : RelS K cls w) (h : w.hid = D :: hid) : RelS K cls (w.show_ hid) :=
  ⟨s.len, s.nd, s.has, fun n a o h1 h2 => (s.obj n a o h1 h2).mono (Mo.show_ h) rfl, fun a ha => s.hid a (by rw [h]; exact List.mem_cons_of_mem _ ha)⟩
/-- a frame of a building: from w, D new, on to wc -/
structure Blt (w wc : Wd) (D : Addr) : Prop where
  hid : wc.hid = D :: w.hid
  pre : ∃ t, wc.ms = w.ms ++ t
  keep : ∀ a h, w.H a = some h → ¬ w.Live a → wc.H a = some h ∧ ¬ wc.Live a
  hidk : ∀ a ∈ w.hid, ∀ h, w.H a = some h → wc.H a = some h
theorem Blt.mo {w wc : Wd} {D : Addr} (b : Blt w wc D) : Mo w wc := ⟨b.pre, b.keep⟩
theorem Blt.start {w : Wd} {D : Addr} {o : HO} (e : w.H D = none) : Blt w (w.hide D o) D := ⟨rfl, (Mo.hide e).pre, (Mo.hide e).keep, fun a _ u q => upd_grow e a u q⟩
theorem Blt.le {w wc wd : Wd} {D : Addr} (b : Blt w wc D) (l : Le wc wd) : Blt w wd D :=
  ⟨l.hid.trans b.hid, (b.mo.trans l.mo).pre, (b.mo.trans l.mo).keep, fun a ha u q => l.hidk a (by rw [b.hid]; exact List.mem_cons_of_mem _ ha) u (b.hidk a ha u q)⟩
theorem Blt.poke {w wc : Wd} {D : Addr} {o : HO} (e : w.H D = none) (b : Blt w wc D) : Blt w (wc.poke D o) D := by
  have m : Mo wc (wc.poke D o) := Mo.poke (by rw [b.hid]; exact List.mem_cons_self)
  exact ⟨b.hid, (b.mo.trans m).pre, (b.mo.trans m).keep, fun a ha u q => (upd_ne (ne_of_none q e)).trans (b.hidk a ha u q)⟩
theorem Blt.end_ {w wc : Wd} {D : Addr} (b : Blt w wc D) : Le w (wc.show_ w.hid) := by
  have m := b.mo.trans (Mo.show_ b.hid)
  exact ⟨⟨m.pre, m.keep⟩, rfl, b.hidk⟩

/-! ### frames -/
abbrev Tau := List (Option A)
structure RelT (K : PySem.W.Frag) (w : Wd) (τ : Tau) (σ : L2.St) : Prop where
  len : τ.length = σ.length
  at_ : ∀ (i : Nat) (a : A), τ[i]? = some (some a) → ∃ v, σ[i]? = some (some v) ∧ RelA K w a v
theorem RelT.mono {K : PySem.W.Frag} {w w' : Wd} {τ : Tau} {σ : L2.St} (h : Mo w w') (r : RelT K w τ σ) : RelT K w' τ σ :=
  ⟨r.len, fun i a e => let ⟨v, q, z⟩ := r.at_ i a e; ⟨v, q, z.mono h⟩⟩
theorem RelT.set {K : PySem.W.Frag} {w : Wd} {τ : Tau} {σ : L2.St} (r : RelT K w τ σ) {a : A} {v : V} (i : Nat) (q : RelA K w a v) : RelT K w (τ.set i (some a)) (σ.set i (some v)) := by
  refine ⟨by simp [r.len], fun j b e => ?_⟩
  by_cases hj : i = j
  · subst hj
    by_cases hi : i < τ.length
    · rw [List.getElem?_set_self hi] at e
      cases e
      exact ⟨v, List.getElem?_set_self (by rw [← r.len]; exact hi), q⟩
    · rw [List.getElem?_eq_none (by simpa using hi)] at e; cases e
  · rw [List.getElem?_set_ne hj] at e ⊢
    exact r.at_ j b e
/-- the slots of a comprehension's own names forgotten -/
def wipeT (τ : Tau) : List Nat → Tau
  | [] => τ
  | v :: vs => (wipeT τ vs).set v none
theorem RelT.wipe {K : PySem.W.Frag} {w : Wd} {τ : Tau} {σ : L2.St} (r : RelT K w τ σ) : ∀ (vs : List Nat), RelT K w (wipeT τ vs) (wipe σ vs)
  | [] => r
  | v :: vs => by
    have ih := RelT.wipe r vs
    refine ⟨by simp [wipeT, L2.wipe, ih.len], fun j b e => ?_⟩
    unfold wipeT at e
    unfold L2.wipe
    by_cases hj : v = j
    · subst hj
      by_cases hi : v < (wipeT τ vs).length
      · rw [List.getElem?_set_self hi] at e; cases e
      · rw [List.getElem?_eq_none (by simpa using hi)] at e; cases e
    · rw [List.getElem?_set_ne hj] at e ⊢
      exact ih.at_ j b e
end Lt
/-! the small language, what it means -/
namespace Lt
open PySem L2

inductive T where
  | nm (i : Nat) | tup (ts : List T) | star (is : List Nat) (i : Nat)
inductive Ty where
  | int | str | bool | list | tuple | dict | own (c : Nat)
inductive Bi where
  | len | all | any | sum | max | min | int | bool | str | repr | list (fl : Bool) | tuple | dict (t : Bool) | abs | sorted (fl : Bool) | ord | chr
inductive Bm where
  | append | pop | clear | index | join | get | update
inductive IK where
  | seq | rng | enum | zip | keys | vals | items | sgn

inductive E where
  | nm (i : Nat) | frz (e : E) | cN | cB (b : Bool) | cI (i : Int) | cS (x : List Nat) | gl (x : Str)
  | bin (op : Operator) (fl : Bool) (a b : E) | neg (a : E) | no_ (a : E) | and_ (a b : E) | or_ (a b : E) | ifx (t a b : E)
  | cmp (op : CmpOp) (a b : E) | chn (p q : CmpOp) (a b c : E)
  | tup (es : List E) | lst (fl : Bool) (es : List E) | dic (t : Bool) (ks vs : List E)
  | call (d : Nat) (es : List E) | kcall (h : Nat) (es ws : List E) | mk (c : Nat) (es : List E) | mth (m : Str) (o : E) (es : List E) | fld (o : E) (f : Str)
  | bi (b : Bi) (es : List E) | isi (e : E) (t : Ty) | bm (m : Bm) (o : E) (es : List E)
  | idx (a b : E) | sl (fl : Bool) (a : E) (lo hi : List E)
  | tab (x : Str) (e : E) | tabIn (neg : Bool) (x : Str) (e : E)
  | dc (ke ve : E) (t : T) (k : IK) (src : List E) (ifs : List E) (own : List (Str × Nat))
  | lc (fl : Bool) (elt : E) (t : T) (k : IK) (src : List E) (ifs : List E) (own : List (Str × Nat))
inductive Tg where
  | t (t : T) | sub (o i : E) | fld (o : E) (f : Str)
inductive Sm where
  | asg (t : Tg) (e : E) | aug (i : Nat) (op : Operator) (e : E) | ex (e : E) | ret (e : E) | retN | pass | brk | cont | never
  | ifs (c : E) (a b : List Sm) | forr (t : T) (k : IK) (src : List E) (b : List Sm) | whl (n : Nat) (c : E) (b : List Sm)

/-! ### answers -/
inductive R (α : Type) where
  | ok (a : α) (S : List O) | ex (c : Nat) (fs : List A) (S : List O) | no
def R.bind {α β : Type} (r : R α) (f : α → List O → R β) : R β := match r with
  | .ok a S => f a S
  | .ex c fs S => .ex c fs S
  | .no => .no
@[simp] theorem R.bind_ok {α β : Type} (a : α) (S : List O) (f : α → List O → R β) : (R.ok a S).bind f = f a S := rfl
@[simp] theorem R.bind_ex {α β : Type} (c : Nat) (fs : List A) (S : List O) (f : α → List O → R β) : (R.ex c fs S).bind f = .ex c fs S := rfl
@[simp] theorem R.bind_no {α β : Type} (f : α → List O → R β) : (R.no : R α).bind f = .no := rfl
def R.of {α : Type} (o : Option α) (S : List O) : R α := match o with | some a => .ok a S | none => .no
@[simp] theorem R.of_some {α : Type} (a : α) (S : List O) : R.of (some a) S = .ok a S := rfl
@[simp] theorem R.of_none {α : Type} (S : List O) : R.of (none : Option α) S = .no := rfl

/-! ### values -/
mutual
def A.eqv : A → A → Bool
  | .non, .non => true
  | .bl a, .bl b => a == b
  | .bl a, .int j => (if a then 1 else 0) == j
  | .int i, .bl b => i == (if b then 1 else 0)
  | .int i, .int j => i == j
  | .str x, .str y => x == y
  | .lst xs, .lst ys => A.eqvs xs ys
  | .tup xs, .tup ys => A.eqvs xs ys
  | _, _ => false
def A.eqvs : List A → List A → Bool
  | [], [] => true
  | x :: xs, y :: ys => A.eqv x y && A.eqvs xs ys
  | _, _ => false
end
mutual
/-- no object within -/
def A.pure : A → Bool
  | .ref _ => false
  | .scr _ => false
  | .ktup _ => false
  | .tup xs => A.pures xs
  | .lst xs => A.pures xs
  | _ => true
def A.pures : List A → Bool
  | [] => true
  | x :: xs => A.pure x && A.pures xs
end
mutual
def A.depth : A → Nat
  | .tup xs => A.depths xs + 1
  | .lst xs => A.depths xs + 1
  | _ => 0
def A.depths : List A → Nat
  | [] => 0
  | x :: xs => max (A.depth x) (A.depths xs)
end
/-- a list's object as the value that it holds now -/
def der (S : List O) : A → A
  | .ref n => match S[n]? with
    | some (.lst xs) => .lst xs
    | _ => .ref n
  | a => a
def fitsEq (a b : A) : Bool := a.pure && b.pure && decide (min a.depth b.depth ≤ 64)
def eqO (S : List O) (a b : A) : Option Bool := if fitsEq (der S a) (der S b) then some ((der S a).eqv (der S b)) else none

def truO (S : List O) : A → Option Bool
  | .non => some false
  | .bl b => some b
  | .int i => some (i != 0)
  | .str x => some (!x.isEmpty)
  | .tup xs => some (!xs.isEmpty)
  | .lst xs => some (!xs.isEmpty)
  | .scr xs => some (!xs.isEmpty)
  | .ktup xs => some (!xs.isEmpty)
  | .ref n => match S[n]? with
    | some (.lst xs) => some (!xs.isEmpty)
    | some (.dic false kvs) => some (!kvs.isEmpty)
    | _ => none
/-- the items of a list or a tuple -/
def seqO (S : List O) : A → Option (List A)
  | .tup xs => some xs
  | .lst xs => some xs
  | .scr xs => some xs
  | .ktup xs => some xs
  | .ref n => match S[n]? with
    | some (.lst xs) => some xs
    | _ => none
  | _ => none
def lenO (S : List O) : A → Option Nat
  | .str x => some x.length
  | a => (seqO S a).map List.length
def mkL (fl : Bool) (xs : List A) (S : List O) : R A := if fl then .ok (.ref S.length) (S ++ [.lst xs]) else .ok (.lst xs) S
def small (i : Int) : Prop := -(2 ^ 64) < i ∧ i < 2 ^ 64
instance (i : Int) : Decidable (small i) := by unfold small; infer_instance

def binO (op : Operator) (fl : Bool) (a b : A) (S : List O) : R A := match op, a, b with
  | .Add, .int i, .int j => .ok (.int (i + j)) S
  | .Sub, .int i, .int j => .ok (.int (i - j)) S
  | .Mult, .int i, .int j => if small i ∨ small j then .ok (.int (i * j)) S else .no
  | .FloorDiv, .int i, .int j => if 0 < j ∧ j < 1073741824 then .ok (.int (i / j)) S else .no
  | .Mod, .int i, .int j => if 0 < j then .ok (.int (i % j)) S else .no
  | .Pow, .int i, .int j => if 0 ≤ j ∧ j ≤ 1000000 ∧ i.natAbs < 2 ^ 64 then .ok (.int (i ^ j.toNat)) S else .no
  | .Add, .str x, .str y => if x.length + y.length ≤ sizeLine then .ok (.str (x ++ y)) S else .no
  | .Add, .tup xs, .tup ys => if xs.length + ys.length ≤ sizeLine then .ok (.tup (xs ++ ys)) S else .no
  | .Mult, .tup xs, .int j => if 0 ≤ j ∧ j < 2 ^ 63 ∧ xs.length * j.toNat ≤ sizeLine then .ok (.tup (List.replicate j.toNat xs).flatten) S else .no
  | .Add, a, b => match der S a, der S b with
    | .lst xs, .lst ys => if xs.length + ys.length ≤ sizeLine then mkL fl (xs ++ ys) S else .no
    | _, _ => .no
  | .Mult, a, .int j => match der S a with
    | .lst xs => if 0 ≤ j ∧ j < 2 ^ 63 ∧ xs.length * j.toNat ≤ sizeLine then mkL fl (List.replicate j.toNat xs).flatten S else .no
    | _ => .no
  | _, _, _ => .no

def keyEq (a b : A) : Bool := a.eqv b
def valO (kvs : List (A × A)) (k : A) : Option A := (kvs.find? fun p => p.1.eqv k).map (·.2)
def putO (kvs : List (A × A)) (k v : A) : List (A × A) :=
  if (kvs.any fun p => p.1.eqv k) then kvs.map fun p => if p.1.eqv k then (p.1, v) else p else kvs ++ [(k, v)]
def mergeO (kvs : List (A × A)) : List (A × A) := kvs.foldl (fun acc p => putO acc p.1 p.2) []
/-- a constant that is a key -/
def constK : E → Option A
  | .cS x => some (.str x)
  | .cI i => some (.int i)
  | _ => none
def keysC : List E → Option (List A)
  | [] => some []
  | e :: es => match constK e, keysC es with
    | some k, some ks => some (k :: ks)
    | _, _ => none
/-- fit to be a key of a dict of that kind -/
def fitKey (t : Bool) (k : A) : Bool := if t then (tkeyOf k).isSome else (keyOf k).isSome
def dicO (S : List O) : A → Option (Bool × List (A × A))
  | .ref n => match S[n]? with
    | some (.dic t kvs) => some (t, kvs)
    | _ => none
  | _ => none
def inO (S : List O) (a b : A) : Option Bool := match a, der S b with
  | .str [c], .str y => some (decide (c ∈ y))
  | a, .tup xs => if A.pures xs && a.pure && decide (min a.depth (A.depths xs) ≤ 63) then some (xs.any fun z => z.eqv a) else none
  | a, .ktup xs => if A.pures xs && a.pure && decide (min a.depth (A.depths xs) ≤ 63) then some (xs.any fun z => z.eqv a) else none
  | a, .lst xs => if A.pures xs && a.pure && decide (min a.depth (A.depths xs) ≤ 63) then some (xs.any fun z => z.eqv a) else none
  | a, .ref n => match S[n]? with
    | some (.dic t kvs) => if fitKey t a then some (valO kvs a).isSome else none
    | _ => none
  | _, _ => none
def cmpO (op : CmpOp) (a b : A) (S : List O) : Option Bool := match op with
  | .Eq => eqO S a b
  | .NotEq => (eqO S a b).map not
  | .In => inO S a b
  | .NotIn => (inO S a b).map not
  | .Is => match b with | .non => some (match a with | .non => true | _ => false) | _ => none
  | .IsNot => match b with | .non => some (match a with | .non => false | _ => true) | _ => none
  | .Lt => match a, b with | .int i, .int j => some (decide (i < j)) | _, _ => none
  | .LtE => match a, b with | .int i, .int j => some (decide (i ≤ j)) | _, _ => none
  | .Gt => match a, b with | .int i, .int j => some (decide (j < i)) | _, _ => none
  | .GtE => match a, b with | .int i, .int j => some (decide (j ≤ i)) | _, _ => none
def idxO (S : List O) (a b : A) : Option A := match a, b with
  | .str x, .int i => (atI x i).map fun c => .str [c]
  | a, b => match seqO S a, b with
    | some xs, .int i => atI xs i
    | _, _ => match dicO S a with
      | some (t, kvs) => if fitKey t b then valO kvs b else none
      | none => none
def cutA {α : Type} (xs : List α) (lo hi : Option Int) : List α := (xs.drop (HT.sIx xs.length 0 lo)).take (HT.sIx xs.length xs.length hi - HT.sIx xs.length 0 lo)
def partO : List A → Option (Option Int)
  | [] => some none
  | [.int i] => some (some i)
  | _ => none
def slO (fl : Bool) (a : A) (lo hi : Option Int) (S : List O) : R A := match der S a with
  | .str x => .ok (.str (cutA x lo hi)) S
  | .tup xs => .ok (.tup (cutA xs lo hi)) S
  | .lst xs => mkL fl (cutA xs lo hi) S
  | _ => .no
/-- how the name of a value's type stands -/
def tyK : Ty → Ty → Bool
  | .bool, .int => true
  | .int, .int => true | .str, .str => true | .bool, .bool => true | .list, .list => true | .tuple, .tuple => true | .dict, .dict => true
  | _, _ => false
def tyO (nc : Nat) (S : List O) (a : A) (t : Ty) : Option Bool := match a with
  | .non => some false
  | .bl _ => some (tyK .bool t)
  | .int _ => some (tyK .int t)
  | .str _ => some (tyK .str t)
  | .tup _ => some (tyK .tuple t)
  | .lst _ => some (tyK .list t)
  | .ref n => match S[n]? with
    | some (.lst _) => some (tyK .list t)
    | some (.dic _ _) => some (tyK .dict t)
    | some (.ins c _) => if c < nc then some (match t with | .own d => c == d | _ => false) else none
    | _ => none
  | _ => none
def boolsO : List A → Option (List Bool)
  | [] => some []
  | .bl b :: r => (boolsO r).map (b :: ·)
  | _ => none
def intsO : List A → Option (List Int)
  | [] => some []
  | .int b :: r => (intsO r).map (b :: ·)
  | _ => none
def strsO : List A → Option (List (List Nat))
  | [] => some []
  | .str b :: r => (strsO r).map (b :: ·)
  | _ => none
def insI (x : Int) : List Int → List Int
  | [] => [x]
  | y :: r => if x ≤ y then x :: y :: r else y :: insI x r
def srtI : List Int → List Int
  | [] => []
  | x :: r => insI x (srtI r)
/-- an (int, text) -/
def isPS : A → Bool
  | .tup [.int _, .str _] => true
  | _ => false
def keyI : A → Int
  | .tup [.int i, .str _] => i
  | _ => 0
def psO (xs : List A) : Bool := xs.all isPS
def insP (x : A) : List A → List A
  | [] => [x]
  | y :: r => if keyI x ≤ keyI y then x :: y :: r else y :: insP x r
def srtP : List A → List A
  | [] => []
  | x :: r => insP x (srtP r)
def joinN (sep : List Nat) : List (List Nat) → List Nat
  | [] => []
  | [x] => x
  | x :: r => x ++ sep ++ joinN sep r
/-- the items of a list -/
def lstO (S : List O) (a : A) : Option (List A) := match der S a with
  | .lst xs => some xs
  | .scr xs => some xs
  | _ => none
/-- pairs of a key and a value -/
def pairsO : List A → Option (List (A × A))
  | [] => some []
  | .tup [k, v] :: r => if (keyOf k).isSome then (pairsO r).map ((k, v) :: ·) else none
  | _ => none
def biO (b : Bi) (vs : List A) (S : List O) : R A := match b, vs with
  | .len, [a] => R.of ((lenO S a).map fun (n : Nat) => .int (n : Int)) S
  | .all, [a] => R.of (((lstO S a).bind boolsO).map fun bs => .bl (bs.all id)) S
  | .any, [a] => R.of (((lstO S a).bind boolsO).map fun bs => .bl (bs.any id)) S
  | .sum, [a] => R.of (((lstO S a).bind intsO).map fun bs => .int bs.sum) S
  | .max, [.int i, .int j] => .ok (.int (if j > i then j else i)) S
  | .min, [.int i, .int j] => .ok (.int (if j < i then j else i)) S
  | .abs, [.int i] => .ok (.int (if i < 0 then -i else i)) S
  | .int, [.int i] => .ok (.int i) S
  | .int, [.bl k] => .ok (.int (if k then 1 else 0)) S
  | .bool, [.int i] => .ok (.bl (i != 0)) S
  | .bool, [.bl k] => .ok (.bl k) S
  | .list fl, [.str x] => mkL fl (x.map fun c => .str [c]) S
  | .list fl, [a] => match seqO S a with
    | some xs => mkL fl xs S
    | none => match dicO S a with
      | some (false, kvs) => mkL fl (kvs.map (·.1)) S
      | _ => .no
  | .sorted fl, [a] => match lstO S a with
    | some xs => match intsO xs with
      | some ns => mkL fl ((srtI ns).map .int) S
      | none => if psO xs = true ∧ (xs.map keyI).Nodup then mkL fl (srtP xs) S else .no
    | none => match dicO S a with
      | some (false, kvs) => match intsO (kvs.map (·.1)) with
        | some ns => if ns.length < 64 then mkL fl ((srtI ns).map .int) S else .no
        | none => .no
      | _ => .no
  | .dict false, [a] => match (lstO S a).bind pairsO with
    | some kvs => .ok (.ref S.length) (S ++ [.dic false (mergeO kvs)])
    | none => .no
  | .tuple, [.tup xs] => .ok (.tup xs) S
  | .tuple, [.ktup xs] => .ok (.ktup xs) S
  | .tuple, [a] => match lstO S a with
    | some xs => .ok (.tup xs) S
    | none => .no
  | _, _ => .no
/-- o.m(..): what it gives -/
def bmO (m : Bm) (o : A) (vs : List A) (S : List O) : R A := match m, o, vs with
  | .append, .ref n, [y] => match S[n]? with
    | some (.lst xs) => if xs.length < sizeLine then .ok .non (S.set n (.lst (xs ++ [y]))) else .no
    | _ => .no
  | .clear, .ref n, [] => match S[n]? with
    | some (.lst xs) => .ok .non (S.set n (.lst []))
    | _ => .no
  | .pop, .ref n, [] => match S[n]? with
    | some (.lst xs) => match xs[xs.length - 1]? with
      | some y => .ok y (S.set n (.lst xs.dropLast))
      | none => .no
    | _ => .no
  | .pop, .ref n, [.int i] => match S[n]? with
    | some (.lst xs) => if -(2 ^ 63) ≤ i ∧ i < 2 ^ 63 then match seqIndex? i xs.length with
      | some k => match xs[k]? with
        | some y => .ok y (S.set n (.lst (xs.eraseIdx k)))
        | none => .no
      | none => .no else .no
    | _ => .no
  | .index, a, [y] => match lstO S a with
    | some xs => if A.pures xs && y.pure && decide (A.depths xs ≤ 60) && decide (y.depth ≤ 60) then (match xs.findIdx? (fun z => z.eqv y) with
      | some j => .ok (.int (j : Int)) S
      | none => .no) else .no
    | none => .no
  | .get, a, [k] => match dicO S a with
    | some (t, kvs) => if fitKey t k then .ok ((valO kvs k).getD .non) S else .no
    | none => .no
  | .get, a, [k, d] => match dicO S a with
    | some (t, kvs) => if fitKey t k then .ok ((valO kvs k).getD d) S else .no
    | none => .no
  | .update, .ref n, [.ref m] => match S[n]?, S[m]? with
    | some (.dic false kvs), some (.dic false more) => if n ≠ m ∧ kvs.length + more.length ≤ 1000000 then .ok .non (S.set n (.dic false (more.foldl (fun acc p => putO acc p.1 p.2) kvs))) else .no
    | _, _ => .no
  | .join, .str sep, [a] => match (seqO S a).bind strsO with
    | some ys => if (ys.map List.length).sum + ys.length * sep.length ≤ 16777216 then .ok (.str (joinN sep ys)) S else .no
    | none => .no
  | _, _, _ => .no

/-- a value of the method's type -/
def bmFit (m : Bm) (S : List O) (a : A) : Bool := match m with
  | .join => (match a with | .str _ => true | _ => false)
  | .get => (dicO S a).isSome
  | .update => (dicO S a).isSome
  | _ => (lstO S a).isSome
/-! ### iteration -/
abbrev Gd := List (Nat × List A)
def Gd.ok (g : Gd) (S : List O) : Prop := ∀ p ∈ g, S[p.1]? = some (.lst p.2)
open Classical in
noncomputable instance (g : Gd) (S : List O) : Decidable (Gd.ok g S) := propDecidable _
def rngA (lo : Int) : Nat → List A
  | 0 => []
  | n + 1 => .int lo :: rngA (lo + 1) n
def enumA (i : Int) : List A → List A
  | [] => []
  | x :: xs => .tup [.int i, x] :: enumA (i + 1) xs
def zipA : List A → List A → List A
  | x :: xs, y :: ys => .tup [x, y] :: zipA xs ys
  | _, _ => []
def gdA : A → List A → Gd
  | .ref n, xs => [(n, xs)]
  | _, _ => []
/-- what zip takes: a list, a tuple, a text -/
def zipO (S : List O) : A → Option (List A)
  | .str x => some (x.map fun c => .str [c])
  | a => seqO S a
def srcO (k : IK) (vs : List A) (S : List O) : Option (List A × Gd) := match k, vs with
  | .seq, [a] => (seqO S a).map fun xs => (xs, gdA a xs)
  | .sgn, [.str x] => some (x.map fun c => .str [c], [])
  | .rng, [.int j] => if -(2 ^ 62) ≤ j ∧ j < 2 ^ 62 then some (rngA 0 j.toNat, []) else none
  | .rng, [.int i, .int j] => if -(2 ^ 62) ≤ i ∧ i < 2 ^ 62 ∧ -(2 ^ 62) ≤ j ∧ j < 2 ^ 62 then some (rngA i (j - i).toNat, []) else none
  | .enum, [a] => (lstO S a).map fun xs => (enumA 0 xs, gdA a xs)
  | .zip, [a, b] => match zipO S a, zipO S b with
    | some xs, some ys => some (zipA xs ys, gdA a xs ++ gdA b ys)
    | _, _ => none
  | _, _ => none
mutual
/-- the slots that a target stores -/
def T.slots : T → List Nat
  | .nm i => [i]
  | .tup ts => T.slotss ts
  | .star is i => is ++ [i]
def T.slotss : List T → List Nat
  | [] => []
  | t :: ts => T.slots t ++ T.slotss ts
end
def asgN : List Nat → List A → Tau → Option Tau
  | [], [], τ => some τ
  | i :: is, x :: xs, τ => asgN is xs (τ.set i (some x))
  | _, _, _ => none
mutual
def T.asg : T → A → Tau → Option Tau
  | .nm i, a, τ => some (τ.set i (some a))
  | .tup ts, .tup xs, τ => T.asgs ts xs τ
  | .tup ts, .ktup xs, τ => T.asgs ts xs τ
  | .tup _, _, _ => none
  | .star is i, .tup xs, τ => if is.length ≤ xs.length then asgN (is ++ [i]) (xs.take is.length ++ [.lst (xs.drop is.length)]) τ else none
  | .star is i, .ktup xs, τ => if is.length ≤ xs.length then asgN (is ++ [i]) (xs.take is.length ++ [.lst (xs.drop is.length)]) τ else none
  | .star _ _, _, _ => none
def T.asgs : List T → List A → Tau → Option Tau
  | [], [], τ => some τ
  | t :: ts, x :: xs, τ => match T.asg t x τ with
    | some τ' => T.asgs ts xs τ'
    | none => none
  | _, _, _ => none
end

abbrev Cal := Nat → List A → List O → R A
/-- what is told of classes: the def of __init__, the methods' -/
structure Ci where
  name : Str
  init : Option Nat
  meths : List (Str × Nat)
  fields : List Str
/-- a call by names: the def, how many by position, the names, where each parameter's value is found -/
structure Kc where
  d : Nat
  np : Nat
  ks : List Str
  out : List Nat
def Kc.fill {α : Type} (c : Kc) (n : α) (xs zs : List α) : List α := if xs.length = c.np ∧ zs.length = c.ks.length then c.out.map fun i => (xs ++ zs).getD i n else []
/-- the text's tables: constants, classes, the defs' names -/
structure Gt where
  consts : List (Str × A)
  clss : List Ci
  /-- the text's own exceptions: name, fields -/
  xcs : List (Str × List Str)
  dnames : List (Option Str)
  kwc : List Kc := []
  /-- dicts of the module, from texts -/
  tabs : List (Str × List (List Nat × A)) := []
/-- where the classes, the exceptions, the defs stand -/
structure Ad where
  cls : Nat → Addr
  xc : Nat → Addr
  df : Nat → Addr
  tb : Str → Addr
def Gt.cls (G : Gt) (c : Nat) : Option Ci := G.clss[c]?
def putF {α : Type} (f : Str) (v : α) : List (Str × α) → List (Str × α)
  | [] => [(f, v)]
  | (g, x) :: r => if g = f then (g, v) :: r else (g, x) :: putF f v r

section
variable (G : Gt) (cal : Cal)
/-- a comprehension's turns: the list so far at L -/
noncomputable def lcD (g : Gd) (asg : A → Tau → Option Tau) (cond : Tau → List O → R Bool) (elt : Tau → List O → R A) (τ : Tau) (acc : List A) : List A → List O → R (List A)
  | [], S => if g.ok S then .ok acc S else .no
  | x :: xs, S => if g.ok S then match asg x τ with
      | none => .no
      | some τ1 => match cond τ1 S with
        | .ok true S1 => match elt τ1 S1 with
          | .ok y S2 => lcD g asg cond elt τ (acc ++ [y]) xs S2
          | _ => .no
        | .ok false S1 => lcD g asg cond elt τ acc xs S1
        | _ => .no
    else .no
/-- .. a dict's -/
noncomputable def dcD (g : Gd) (asg : A → Tau → Option Tau) (cond : Tau → List O → R Bool) (elt : Tau → List O → R (A × A)) (τ : Tau) (acc : List (A × A)) : List A → List O → R (List (A × A))
  | [], S => if g.ok S then .ok acc S else .no
  | x :: xs, S => if g.ok S then match asg x τ with
      | none => .no
      | some τ1 => match cond τ1 S with
        | .ok true S1 => match elt τ1 S1 with
          | .ok y S2 => if (keyOf y.1).isSome then dcD g asg cond elt τ (putO acc y.1 y.2) xs S2 else .no
          | _ => .no
        | .ok false S1 => dcD g asg cond elt τ acc xs S1
        | _ => .no
    else .no
mutual
noncomputable def den : E → Tau → List O → R A
  | .nm i, τ, S => match τ[i]? with | some (some a) => .ok a S | _ => .no
  | .frz e, τ, S => (den e τ S).bind fun a S1 => match a with
    | .ref n => match S1[n]? with
      | some (.lst xs) => .ok (.lst xs) (S1.set n .dead)
      | _ => .no
    | _ => .no
  | .cN, _, S => .ok .non S
  | .cB b, _, S => .ok (.bl b) S
  | .cI i, _, S => .ok (.int i) S
  | .cS x, _, S => .ok (.str x) S
  | .gl x, _, S => R.of (G.consts.lookup x) S
  | .bin op fl a b, τ, S => (den a τ S).bind fun x S1 => (den b τ S1).bind fun y S2 => binO op fl x y S2
  | .neg a, τ, S => (den a τ S).bind fun x S1 => match x with | .int i => .ok (.int (-i)) S1 | _ => .no
  | .no_ a, τ, S => (den a τ S).bind fun x S1 => R.of ((truO S1 x).map fun k => .bl (!k)) S1
  | .and_ a b, τ, S => (den a τ S).bind fun x S1 => match truO S1 x with | some true => den b τ S1 | some false => .ok x S1 | none => .no
  | .or_ a b, τ, S => (den a τ S).bind fun x S1 => match truO S1 x with | some false => den b τ S1 | some true => .ok x S1 | none => .no
  | .ifx t a b, τ, S => (den t τ S).bind fun x S1 => match truO S1 x with | some true => den a τ S1 | some false => den b τ S1 | none => .no
  | .cmp op a b, τ, S => (den a τ S).bind fun x S1 => (den b τ S1).bind fun y S2 => R.of ((cmpO op x y S2).map .bl) S2
  | .chn p q a b c, τ, S => (den a τ S).bind fun x S1 => (den b τ S1).bind fun y S2 => match cmpO p x y S2 with
    | some true => (den c τ S2).bind fun z S3 => R.of ((cmpO q y z S3).map .bl) S3
    | some false => .ok (.bl false) S2
    | none => .no
  | .tup es, τ, S => (dens es τ S).bind fun xs S1 => .ok (.tup xs) S1
  | .lst fl es, τ, S => (dens es τ S).bind fun xs S1 => mkL fl xs S1
  | .dic t [] [], τ, S => .ok (.ref S.length) (S ++ [.dic t []])
  | .dic _ ks vs, τ, S => (dens vs τ S).bind fun xs S1 => match keysC ks with
    | some keys => if keys.length ≤ 15 ∧ keys.length = xs.length then .ok (.ref S1.length) (S1 ++ [.dic false (mergeO (keys.zip xs))]) else .no
    | none => .no
  | .call d es, τ, S => (dens es τ S).bind fun xs S1 => cal d xs S1
  | .kcall h es ws, τ, S => (dens es τ S).bind fun xs S1 => (dens ws τ S1).bind fun zs S2 => match G.kwc[h]? with
    | some kc => cal kc.d (kc.fill .non xs zs) S2
    | none => .no
  | .mk c es, τ, S => (dens es τ S).bind fun xs S1 => match G.cls c with
    | some ⟨_, some d, _, _⟩ => (cal d (.ref S1.length :: xs) (S1 ++ [.ins c []])).bind fun v S2 => match v with
      | .non => .ok (.ref S1.length) S2
      | _ => .no
    | _ => .no
  | .mth m o es, τ, S => (den o τ S).bind fun x S1 => match x with
    | .ref n => match S1[n]? with
      | some (.ins c fs) => if fs.lookup m = none then match G.cls c with
        | some ci => match ci.meths.lookup m with
          | some d => (dens es τ S1).bind fun xs S2 => cal d (.ref n :: xs) S2
          | none => .no
        | none => .no else .no
      | _ => .no
    | _ => .no
  | .fld o f, τ, S => (den o τ S).bind fun x S1 => match x with
    | .ref n => match S1[n]? with
      | some (.ins c fs) => match G.cls c with
        | some ci => if ci.fields.contains f then R.of (fs.lookup f) S1 else .no
        | none => .no
      | _ => .no
    | _ => .no
  | .bi b es, τ, S => (dens es τ S).bind fun xs S1 => biO b xs S1
  | .isi e t, τ, S => (den e τ S).bind fun x S1 => R.of ((tyO G.clss.length S1 x t).map .bl) S1
  | .bm m o es, τ, S => (den o τ S).bind fun x S1 => if bmFit m S1 x then (dens es τ S1).bind fun xs S2 => bmO m x xs S2 else .no
  | .idx a b, τ, S => (den a τ S).bind fun x S1 => (den b τ S1).bind fun y S2 => R.of (idxO S2 x y) S2
  | .sl fl a lo hi, τ, S => (den a τ S).bind fun x S1 => (dens lo τ S1).bind fun ls S2 => match partO ls with
    | none => .no
    | some l => (dens hi τ S2).bind fun hs S3 => match partO hs with
      | none => .no
      | some h => slO fl x l h S3
  | .tab y e, τ, S => (den e τ S).bind fun x S1 => match x with
    | .str z => R.of ((G.tabs.lookup y).bind fun kvs => kvs.lookup z) S1
    | _ => .no
  | .tabIn neg y e, τ, S => (den e τ S).bind fun x S1 => match x with
    | .str z => R.of ((G.tabs.lookup y).map fun kvs => .bl (neg != (kvs.lookup z).isSome)) S1
    | _ => .no
  | .dc ke ve t k src ifs own, τ, S => (dens src τ S).bind fun vs S1 => match srcO k vs S1 with
    | none => .no
    | some (xs, g) => if xs.length ≤ 1000000 then (dcD g (fun a τ => T.asg t a τ) (fun τ S => (dens ifs τ S).bind fun vs S1 => match vs with | [] => .ok true S1 | [x] => R.of (truO S1 x) S1 | _ => .no) (fun τ S => (den ke τ S).bind fun a S1 => (den ve τ S1).bind fun b S2 => .ok (a, b) S2) (wipeT τ (own.map (·.2))) [] xs S1).bind fun ys S2 => .ok (.ref S2.length) (S2 ++ [.dic false ys]) else .no
  | .lc fl elt t k src ifs own, τ, S => (dens src τ S).bind fun vs S1 => match srcO k vs S1 with
    | none => .no
    | some (xs, g) => if xs.length ≤ sizeLine then (lcD g (fun a τ => T.asg t a τ) (fun τ S => (dens ifs τ S).bind fun vs S1 => match vs with | [] => .ok true S1 | [x] => R.of (truO S1 x) S1 | _ => .no) (fun τ S => den elt τ S) (wipeT τ (own.map (·.2))) [] xs S1).bind fun ys S2 => mkL fl ys S2 else .no
noncomputable def dens : List E → Tau → List O → R (List A)
  | [], _, S => .ok [] S
  | e :: es, τ, S => (den e τ S).bind fun x S1 => (dens es τ S1).bind fun xs S2 => .ok (x :: xs) S2
end
/-- a test -/
noncomputable def tst (e : E) (τ : Tau) (S : List O) : R Bool := (den G cal e τ S).bind fun x S1 => R.of (truO S1 x) S1

end
/-! ### statements -/
inductive SR where
  | nx (τ : Tau) (S : List O) | rt (a : A) (S : List O) | bk (τ : Tau) (S : List O) | ct (τ : Tau) (S : List O) | ex (c : Nat) (fs : List A) (τ : Tau) (S : List O) | no
/-- from an answer on -/
def R.go {α : Type} (r : R α) (τ : Tau) (f : α → List O → SR) : SR := match r with
  | .ok a S => f a S
  | .ex c fs S => .ex c fs τ S
  | .no => .no
@[simp] theorem R.go_ok {α : Type} (a : α) (S : List O) (τ : Tau) (f : α → List O → SR) : (R.ok a S).go τ f = f a S := rfl
@[simp] theorem R.go_ex {α : Type} (c : Nat) (fs : List A) (S : List O) (τ : Tau) (f : α → List O → SR) : (R.ex c fs S : R α).go τ f = .ex c fs τ S := rfl
@[simp] theorem R.go_no {α : Type} (τ : Tau) (f : α → List O → SR) : (R.no : R α).go τ f = .no := rfl
def SR.seq (r : SR) (f : Tau → List O → SR) : SR := match r with
  | .nx τ S => f τ S
  | r => r
@[simp] theorem SR.seq_nx (τ : Tau) (S : List O) (f : Tau → List O → SR) : (SR.nx τ S).seq f = f τ S := rfl
@[simp] theorem SR.seq_rt (a : A) (S : List O) (f : Tau → List O → SR) : (SR.rt a S).seq f = .rt a S := rfl
@[simp] theorem SR.seq_no (f : Tau → List O → SR) : (SR.no).seq f = .no := rfl
@[simp] theorem SR.seq_bk (τ : Tau) (S : List O) (f : Tau → List O → SR) : (SR.bk τ S).seq f = .bk τ S := rfl
@[simp] theorem SR.seq_ct (τ : Tau) (S : List O) (f : Tau → List O → SR) : (SR.ct τ S).seq f = .ct τ S := rfl
@[simp] theorem SR.seq_ex (c : Nat) (fs : List A) (τ : Tau) (S : List O) (f : Tau → List O → SR) : (SR.ex c fs τ S).seq f = .ex c fs τ S := rfl
noncomputable def forD (g : Gd) (asg : A → Tau → Option Tau) (body : Tau → List O → SR) : List A → Tau → List O → SR
  | [], τ, S => if g.ok S then .nx τ S else .no
  | x :: xs, τ, S => if g.ok S then match asg x τ with
    | none => .no
    | some τ1 => match body τ1 S with
      | .nx τ2 S2 => forD g asg body xs τ2 S2
      | .ct τ2 S2 => forD g asg body xs τ2 S2
      | .bk τ2 S2 => .nx τ2 S2
      | r => r
    else .no
def whlD (c : Tau → List O → R Bool) (body : Tau → List O → SR) : Nat → Tau → List O → SR
  | 0, _, _ => .no
  | n + 1, τ, S => (c τ S).go τ fun b S1 => if b then (match body τ S1 with
      | .nx τ2 S2 => whlD c body n τ2 S2
      | .ct τ2 S2 => whlD c body n τ2 S2
      | .bk τ2 S2 => .nx τ2 S2
      | r => r) else .nx τ S1
/-- o[i] = v, by values -/
def setO (o i v : A) (S : List O) : Option (List O) := match o with
  | .ref n => match S[n]? with
    | some (.lst xs) => match i with
      | .int j => match ixN xs.length j with
        | some k => some (S.set n (.lst (xs.set k v)))
        | none => none
      | _ => none
    | some (.dic t kvs) => if fitKey t i ∧ kvs.length < 1000000 then some (S.set n (.dic t (putO kvs i v))) else none
    | _ => none
  | _ => none
def fldO (G : Gt) (o : A) (f : Str) (v : A) (S : List O) : Option (List O) := match o with
  | .ref n => match S[n]? with
    | some (.ins c fs) => match G.cls c with
      | some ci => if ci.fields.contains f ∧ fs.length < 1000 then some (S.set n (.ins c (putF f v fs))) else none
      | none => none
    | _ => none
  | _ => none
section
variable (G : Gt) (cal : Cal)
mutual
noncomputable def denS : Sm → Tau → List O → SR
  | .asg (.t t) e, τ, S => (den G cal e τ S).go τ fun a S1 => match T.asg t a τ with
    | some τ1 => .nx τ1 S1
    | none => .no
  | .asg (.sub o i) e, τ, S => (den G cal e τ S).go τ fun a S1 => (den G cal o τ S1).go τ fun x S2 => (den G cal i τ S2).go τ fun y S3 => match setO x y a S3 with
    | some S4 => .nx τ S4
    | none => .no
  | .asg (.fld o f) e, τ, S => (den G cal e τ S).go τ fun a S1 => (den G cal o τ S1).go τ fun x S2 => match fldO G x f a S2 with
    | some S3 => .nx τ S3
    | none => .no
  | .aug i op e, τ, S => .no
  | .ex e, τ, S => (den G cal e τ S).go τ fun _ S1 => .nx τ S1
  | .ret e, τ, S => (den G cal e τ S).go τ fun a S1 => .rt a S1
  | .retN, τ, S => .rt .non S
  | .pass, τ, S => .nx τ S
  | .brk, τ, S => .bk τ S
  | .cont, τ, S => .ct τ S
  | .never, τ, S => .no
  | .ifs c a b, τ, S => (tst G cal c τ S).go τ fun k S1 => if k then denSs a τ S1 else denSs b τ S1
  | .forr t k src b, τ, S => (dens G cal src τ S).go τ fun vs S1 => match srcO k vs S1 with
    | none => .no
    | some (xs, g) => forD g (fun a τ => T.asg t a τ) (fun τ S => denSs b τ S) xs τ S1
  | .whl n c b, τ, S => whlD (fun τ S => tst G cal c τ S) (fun τ S => denSs b τ S) n τ S
noncomputable def denSs : List Sm → Tau → List O → SR
  | [], τ, S => .nx τ S
  | s :: ss, τ, S => (denS s τ S).seq fun τ1 S1 => denSs ss τ1 S1
end
end
/-- a def: how many parameters, how many names, the body -/
structure Fd where
  np : Nat
  nl : Nat
  body : List Sm
def SR.fin (r : SR) : R A := match r with
  | .nx _ S => .ok .non S
  | .rt a S => .ok a S
  | .ex c fs _ S => .ex c fs S
  | _ => .no
@[simp] theorem SR.fin_rt (a : A) (S : List O) : (SR.rt a S).fin = .ok a S := rfl
@[simp] theorem SR.fin_nx (τ : Tau) (S : List O) : (SR.nx τ S).fin = .ok .non S := rfl
noncomputable def runF (G : Gt) (cal : Cal) (fd : Fd) (as : List A) (S : List O) : R A :=
  if as.length = fd.np then (denSs G cal fd.body (as.map some ++ List.replicate (fd.nl - fd.np) none) S).fin else .no
/-- the text, to a depth of calls -/
noncomputable def I (G : Gt) (ds : List (Option Fd)) : Nat → Cal
  | 0 => fun _ _ _ => .no
  | k + 1 => fun d as S => match ds[d]? with
    | some (some fd) => runF G (I G ds k) fd as S
    | _ => .no
end Lt
/-! what it means is what the program does: the frame of the proof -/
namespace Lt
open PySem L2

theorem PE.imp {X : Cx} {e : Expr} {t t' : TE} (h : PE X e t) (k : ∀ σ H Q, t' σ H Q → t σ H Q) : PE X e t' := ⟨fun pins s σ H Q I q => h.run pins s σ H Q I (k _ _ _ q)⟩
theorem PT.imp {X : Cx} {e : Expr} {t t' : TT} (h : PT X e t) (k : ∀ σ H Q, t' σ H Q → t σ H Q) : PT X e t' := ⟨fun pins s σ H Q I q => h.run pins s σ H Q I (k _ _ _ q)⟩
theorem PA.imp {X : Cx} {e : List Expr} {t t' : TA} (h : PA X e t) (k : ∀ σ H Q, t' σ H Q → t σ H Q) : PA X e t' := ⟨fun pos pins s σ H Q I q => h.run pos pins s σ H Q I (k _ _ _ q)⟩
theorem PS.imp {X : Cx} {e : Stmt} {t t' : TS} (h : PS X e t) (k : ∀ D σ H, t' D σ H → t D σ H) : PS X e t' := ⟨fun pins s σ H D I q => h.run pins s σ H D I (k _ _ _ q)⟩
theorem PSs.imp {X : Cx} {e : List Stmt} {t t' : TS} (h : PSs X e t) (k : ∀ D σ H, t' D σ H → t D σ H) : PSs X e t' := ⟨fun pins s σ H D I q => h.run pins s σ H D I (k _ _ _ q)⟩

/-! ### the text's shape -/
def noStar : Expr → Bool | .Starred .. => false | _ => true
def plainBase : Expr → Bool | .Call (.Name _ _) [] [] _ => false | _ => true
def plainTest : Expr → Bool | .UnaryOp .Not _ _ => false | .BoolOp .. => false | .IfExp .. => false | .Compare .. => false | _ => true
def plainSub : Expr → Bool | .Slice _ _ none _ => false | _ => true
def noSet : Expr → Bool | .Set .. => false | _ => true
def noComp : Expr → Bool | .ListComp .. => false | .SetComp .. => false | .DictComp .. => false | _ => true
theorem starEach_one {e : Expr} (h : noStar e = true) (es : List Expr) (env : Env) : starEach (e :: es) env = (false, eval e env) :: starEach es env := by
  cases e <;> first | rfl | cases h
theorem starEach_any (pos : Pos) (env : Env) : ∀ {es : List Expr}, es.all noStar = true → (backTo pos (starEach es env)).any (·.1) = false
  | [], _ => rfl
  | e :: es, h => by
    have h' : noStar e = true ∧ es.all noStar = true := by simpa using h
    rw [starEach_one h'.1]
    show (false || (backTo pos (starEach es env)).any (·.1)) = false
    rw [starEach_any pos env h'.2]; rfl
theorem starEach_all (pos : Pos) (env : Env) : ∀ {es : List Expr}, es.all noStar = true → (backTo pos (starEach es env)).all (fun x => !x.1) = true
  | [], _ => rfl
  | e :: es, h => by
    have h' : noStar e = true ∧ es.all noStar = true := by simpa using h
    rw [starEach_one h'.1]
    show (true && (backTo pos (starEach es env)).all (fun x => !x.1)) = true
    rw [starEach_all pos env h'.2]; rfl
theorem base_plain {o : Expr} (h : plainBase o = true) (m : Str) (env : Env) (whole : Sem Value) : attributeBase o m env whole = whole := by
  unfold attributeBase
  split
  · cases h
  · rfl
theorem test_plain {e : Expr} (h : plainTest e = true) (env : Env) (whole : Sem Value) : isTrue e env whole = (do let v ← whole; standAt e.pos; holding [v] (truthy v)) := by
  cases e <;> first | rfl | (cases h; done) | skip
  rename_i op x pos
  cases op <;> first | rfl | cases h
theorem sub_plain {e : Expr} (h : plainSub e = true) (o i : Value) : subscripted e false o i = operate [o, i] (getItem o i) := by
  cases e <;> first | rfl | skip
  rename_i l u s p
  cases s <;> first | rfl | cases h
theorem set_plain {e : Expr} (h : noSet e = true) (env : Env) (x : Value) : foldedSetIterable e env x = pure x := by
  cases e <;> first | rfl | cases h
theorem swaps_plain {e : Expr} (h : noComp e = true) (t : Option Expr) (l : Nat) (env : Env) : swapsWith e t l env = pure false := by
  cases e <;> first | rfl | cases h

/-! ### what is wanted of an answer -/
/-- an exception of the text's own class -/
def ExR (K : PySem.W.Frag) (ad : Ad) (G : Gt) (w : Wd) (c : Nat) (fs : List A) (cv : Value) (d : Option Addr) : Prop :=
  cv = .ref (ad.xc c) ∧ ((fs = [] ∧ d = none) ∨ ∃ (dd : Addr) (ws : List (Str × V)) (ci : Str × List Str), d = some dd ∧ w.H dd = some (.xd ws) ∧ G.xcs[c]? = some ci ∧ ws.map (·.1) = ci.2 ∧ RelAs K w fs (ws.map (·.2)))
section
variable (K : PySem.W.Frag) (ad : Ad) (G : Gt)
def okR (Q : VK) (E : XK) (w : Wd) : R A → Prop
  | .ok a S => ∀ w' v, w'.S = S → Le w w' → RelS K ad.cls w' → RelA K w' a v → Q v w'.H
  | .ex c fs S => ∀ w' cv d, w'.S = S → Le w w' → RelS K ad.cls w' → ExR K ad G w' c fs cv d → E cv d w'.H
  | .no => False
def okB (Q : Bool → Hp → Prop) (E : XK) (w : Wd) : R Bool → Prop
  | .ok a S => ∀ w', w'.S = S → Le w w' → RelS K ad.cls w' → Q a w'.H
  | .ex c fs S => ∀ w' cv d, w'.S = S → Le w w' → RelS K ad.cls w' → ExR K ad G w' c fs cv d → E cv d w'.H
  | .no => False
def okA (Q : List V → Hp → Prop) (E : XK) (w : Wd) : R (List A) → Prop
  | .ok a S => ∀ w' v, w'.S = S → Le w w' → RelS K ad.cls w' → RelAs K w' a v → Q v w'.H
  | .ex c fs S => ∀ w' cv d, w'.S = S → Le w w' → RelS K ad.cls w' → ExR K ad G w' c fs cv d → E cv d w'.H
  | .no => False
/-- the readings -/
def tE (W : WX) (m : Tau → List O → R A) : TE := fun σ H Q => ∃ w τ, w.H = H ∧ RelS K ad.cls w ∧ RelT K w τ σ ∧ okR K ad G Q (fun c d H' => W c d σ H') w (m τ w.S)
def tT (W : WX) (m : Tau → List O → R Bool) : TT := fun σ H Q => ∃ w τ, w.H = H ∧ RelS K ad.cls w ∧ RelT K w τ σ ∧ okB K ad G Q (fun c d H' => W c d σ H') w (m τ w.S)
def tL (W : WX) (m : Tau → List O → R (List A)) : TA := fun σ H Q => ∃ w τ, w.H = H ∧ RelS K ad.cls w ∧ RelT K w τ σ ∧ okA K ad G Q (fun c d H' => W c d σ H') w (m τ w.S)
end
section
variable {K : PySem.W.Frag} {ad : Ad} {G : Gt} {W : WX} {E : XK} {w w' : Wd} {σ : L2.St} {H : Hp}
theorem okR.at {Q : VK} {r : R A} (h : okR K ad G Q E w r) (le : Le w w') : okR K ad G Q E w' r := by
  cases r with
  | ok a S => exact fun u v e l s q => h u v e (le.trans l) s q
  | ex c fs S => exact fun u cv d e l s q => h u cv d e (le.trans l) s q
  | no => exact h
theorem okB.at {Q : Bool → Hp → Prop} {r : R Bool} (h : okB K ad G Q E w r) (le : Le w w') : okB K ad G Q E w' r := by
  cases r with
  | ok a S => exact fun u e l s => h u e (le.trans l) s
  | ex c fs S => exact fun u cv d e l s q => h u cv d e (le.trans l) s q
  | no => exact h
theorem okA.at {Q : List V → Hp → Prop} {r : R (List A)} (h : okA K ad G Q E w r) (le : Le w w') : okA K ad G Q E w' r := by
  cases r with
  | ok a S => exact fun u v e l s q => h u v e (le.trans l) s q
  | ex c fs S => exact fun u cv d e l s q => h u cv d e (le.trans l) s q
  | no => exact h
/-- then: from an answer to the next -/
theorem okR.then {r : R A} {α : Type} {f : A → List O → R α} {P : Wd → R α → Prop} {Q : VK} (h : P w (r.bind f)) (hP : ∀ w' x, Le w w' → P w x → P w' x)
    (hex : ∀ c fs S, P w (.ex c fs S) → okR K ad G Q E w (.ex c fs S)) (hno : P w .no → False)
    (k : ∀ w' a v, Le w w' → RelS K ad.cls w' → RelA K w' a v → P w' (f a w'.S) → Q v w'.H) : okR K ad G Q E w r := by
  cases r with
  | ok a S =>
    intro w' v e l s q
    exact k w' a v l s q (by rw [e]; exact hP w' _ l h)
  | ex c fs S => exact hex c fs S h
  | no => exact hno h
theorem okR.bindR {r : R A} {f : A → List O → R A} {Q Q' : VK} (h : okR K ad G Q' E w (r.bind f))
    (k : ∀ w' a v, Le w w' → RelS K ad.cls w' → RelA K w' a v → okR K ad G Q' E w' (f a w'.S) → Q v w'.H) : okR K ad G Q E w r :=
  okR.then (P := fun w x => okR K ad G Q' E w x) h (fun _ _ l h => h.at l) (fun _ _ _ h => h) id k
theorem okR.bindB {r : R A} {f : A → List O → R Bool} {Q : VK} {Q' : Bool → Hp → Prop} (h : okB K ad G Q' E w (r.bind f))
    (k : ∀ w' a v, Le w w' → RelS K ad.cls w' → RelA K w' a v → okB K ad G Q' E w' (f a w'.S) → Q v w'.H) : okR K ad G Q E w r :=
  okR.then (P := fun w x => okB K ad G Q' E w x) h (fun _ _ l h => h.at l) (fun _ _ _ h => h) id k
theorem okR.bindA {r : R A} {f : A → List O → R (List A)} {Q : VK} {Q' : List V → Hp → Prop} (h : okA K ad G Q' E w (r.bind f))
    (k : ∀ w' a v, Le w w' → RelS K ad.cls w' → RelA K w' a v → okA K ad G Q' E w' (f a w'.S) → Q v w'.H) : okR K ad G Q E w r :=
  okR.then (P := fun w x => okA K ad G Q' E w x) h (fun _ _ l h => h.at l) (fun _ _ _ h => h) id k
theorem okB.then {r : R Bool} {α : Type} {f : Bool → List O → R α} {P : Wd → R α → Prop} {Q : Bool → Hp → Prop} (h : P w (r.bind f)) (hP : ∀ w' x, Le w w' → P w x → P w' x)
    (hex : ∀ c fs S, P w (.ex c fs S) → okB K ad G Q E w (.ex c fs S)) (hno : P w .no → False)
    (k : ∀ w' a, Le w w' → RelS K ad.cls w' → P w' (f a w'.S) → Q a w'.H) : okB K ad G Q E w r := by
  cases r with
  | ok a S =>
    intro w' e l s
    exact k w' a l s (by rw [e]; exact hP w' _ l h)
  | ex c fs S => exact hex c fs S h
  | no => exact hno h
theorem okB.bindR {r : R Bool} {f : Bool → List O → R A} {Q : Bool → Hp → Prop} {Q' : VK} (h : okR K ad G Q' E w (r.bind f))
    (k : ∀ w' a, Le w w' → RelS K ad.cls w' → okR K ad G Q' E w' (f a w'.S) → Q a w'.H) : okB K ad G Q E w r :=
  okB.then (P := fun w x => okR K ad G Q' E w x) h (fun _ _ l h => h.at l) (fun _ _ _ h => h) id k
theorem okB.bindB {r : R Bool} {f : Bool → List O → R Bool} {Q Q' : Bool → Hp → Prop} (h : okB K ad G Q' E w (r.bind f))
    (k : ∀ w' a, Le w w' → RelS K ad.cls w' → okB K ad G Q' E w' (f a w'.S) → Q a w'.H) : okB K ad G Q E w r :=
  okB.then (P := fun w x => okB K ad G Q' E w x) h (fun _ _ l h => h.at l) (fun _ _ _ h => h) id k
theorem okA.then {r : R (List A)} {α : Type} {f : List A → List O → R α} {P : Wd → R α → Prop} {Q : List V → Hp → Prop} (h : P w (r.bind f)) (hP : ∀ w' x, Le w w' → P w x → P w' x)
    (hex : ∀ c fs S, P w (.ex c fs S) → okA K ad G Q E w (.ex c fs S)) (hno : P w .no → False)
    (k : ∀ w' a v, Le w w' → RelS K ad.cls w' → RelAs K w' a v → P w' (f a w'.S) → Q v w'.H) : okA K ad G Q E w r := by
  cases r with
  | ok a S =>
    intro w' v e l s q
    exact k w' a v l s q (by rw [e]; exact hP w' _ l h)
  | ex c fs S => exact hex c fs S h
  | no => exact hno h
theorem okA.bindR {r : R (List A)} {f : List A → List O → R A} {Q : List V → Hp → Prop} {Q' : VK} (h : okR K ad G Q' E w (r.bind f))
    (k : ∀ w' a v, Le w w' → RelS K ad.cls w' → RelAs K w' a v → okR K ad G Q' E w' (f a w'.S) → Q v w'.H) : okA K ad G Q E w r :=
  okA.then (P := fun w x => okR K ad G Q' E w x) h (fun _ _ l h => h.at l) (fun _ _ _ h => h) id k
theorem okA.bindA {r : R (List A)} {f : List A → List O → R (List A)} {Q Q' : List V → Hp → Prop} (h : okA K ad G Q' E w (r.bind f))
    (k : ∀ w' a v, Le w w' → RelS K ad.cls w' → RelAs K w' a v → okA K ad G Q' E w' (f a w'.S) → Q v w'.H) : okA K ad G Q E w r :=
  okA.then (P := fun w x => okA K ad G Q' E w x) h (fun _ _ l h => h.at l) (fun _ _ _ h => h) id k
/-- an answer that changes nothing -/
theorem okR.ret {Q : VK} {a : A} {S : List O} {v : V} (h : okR K ad G Q E w (.ok a S)) (e : w.S = S) (s : RelS K ad.cls w) (r : RelA K w a v) : Q v w.H := h w v e (Le.refl w) s r
theorem okR.of {Q : VK} {o : Option A} {S : List O} (h : okR K ad G Q E w (R.of o S)) : ∃ a, o = some a ∧ okR K ad G Q E w (.ok a S) := by
  cases o with
  | none => exact h.elim
  | some a => exact ⟨a, rfl, h⟩
theorem okB.of {Q : Bool → Hp → Prop} {o : Option Bool} {S : List O} (h : okB K ad G Q E w (R.of o S)) : ∃ a, o = some a ∧ okB K ad G Q E w (.ok a S) := by
  cases o with
  | none => exact h.elim
  | some a => exact ⟨a, rfl, h⟩
/-- one part, two parts, then what the rule wants -/
theorem tE1 {ma : Tau → List O → R A} {f : A → Tau → List O → R A} {Q : VK} {r : V → Hp → VK → Prop} (h : tE K ad G W (fun τ S => (ma τ S).bind fun a S1 => f a τ S1) σ H Q)
    (k : ∀ w τ a v, RelS K ad.cls w → RelT K w τ σ → RelA K w a v → okR K ad G Q (fun c d H' => W c d σ H') w (f a τ w.S) → r v w.H Q) : tE K ad G W ma σ H fun x H1 => r x H1 Q := by
  obtain ⟨w, τ, e, s, t, h⟩ := h
  exact ⟨w, τ, e, s, t, h.bindR fun w1 a v l s1 q h1 => k w1 τ a v s1 (t.mono l) q h1⟩
theorem tE2 {ma mb : Tau → List O → R A} {f : A → A → Tau → List O → R A} {Q : VK} {r : R2} (h : tE K ad G W (fun τ S => (ma τ S).bind fun a S1 => (mb τ S1).bind fun b S2 => f a b τ S2) σ H Q)
    (k : ∀ w τ a b v u, RelS K ad.cls w → RelT K w τ σ → RelA K w a v → RelA K w b u → okR K ad G Q (fun c d H' => W c d σ H') w (f a b τ w.S) → r v u w.H Q) :
    tOp r (tE K ad G W ma) (tE K ad G W mb) σ H Q := by
  obtain ⟨w, τ, e, s, t, h⟩ := h
  refine ⟨w, τ, e, s, t, h.bindR fun w1 a v l s1 q h1 => ?_⟩
  refine ⟨w1, τ, rfl, s1, t.mono l, h1.bindR fun w2 b u l2 s2 q2 h2 => ?_⟩
  exact k w2 τ a b v u s2 ((t.mono l.mo).mono l2.mo) (q.mono l2.mo) q2 h2
/-- .. as a bool's answer -/
theorem tB1 {ma : Tau → List O → R A} {f : A → Tau → List O → R Bool} {Q : Bool → Hp → Prop} {r : V → Hp → (Bool → Hp → Prop) → Prop} (h : tT K ad G W (fun τ S => (ma τ S).bind fun a S1 => f a τ S1) σ H Q)
    (k : ∀ w τ a v, RelS K ad.cls w → RelT K w τ σ → RelA K w a v → okB K ad G Q (fun c d H' => W c d σ H') w (f a τ w.S) → r v w.H Q) : tE K ad G W ma σ H fun x H1 => r x H1 Q := by
  obtain ⟨w, τ, e, s, t, h⟩ := h
  exact ⟨w, τ, e, s, t, okR.bindB h fun w1 a v l s1 q h1 => k w1 τ a v s1 (t.mono l) q h1⟩
end
end Lt
/-! operators, by values -/
namespace Lt
open PySem L2

/-! ### equality -/
mutual
def A.dat : A → PyData
  | .non => .none
  | .bl b => .bool b
  | .int i => .int i
  | .str x => .str (mkS x)
  | .ref _ => .none
  | .tup xs => .tuple (A.dats xs)
  | .lst xs => .list (A.dats xs)
  | .scr _ => .none
  | .ktup _ => .none
def A.dats : List A → List PyData
  | [] => []
  | x :: xs => A.dat x :: A.dats xs
end
theorem mkS_beq (x y : List Nat) : (mkS x == mkS y) = (x == y) := by
  rw [Bool.eq_iff_iff]
  simp only [beq_iff_eq]
  exact ⟨mkS_inj, fun h => by rw [h]⟩
mutual
theorem eqv_dat : ∀ (a b : A), a.pure = true → b.pure = true → PyData.eqv a.dat b.dat = a.eqv b
  | .non, b, _, h => by cases b <;> first | (simp [A.pure] at h; done) | simp [A.dat, A.eqv, PyData.eqv]
  | .bl _, b, _, h => by cases b <;> first | (simp [A.pure] at h; done) | simp [A.dat, A.eqv, PyData.eqv]
  | .int _, b, _, h => by cases b <;> first | (simp [A.pure] at h; done) | simp [A.dat, A.eqv, PyData.eqv]
  | .str x, b, _, h => by cases b <;> first | (simp [A.pure] at h; done) | simp [A.dat, A.eqv, PyData.eqv, mkS_beq]
  | .ref _, _, h, _ => by simp [A.pure] at h
  | .scr _, _, h, _ => by simp [A.pure] at h
  | .ktup _, _, h, _ => by simp [A.pure] at h
  | .tup xs, b, g, h => by
    cases b with
    | tup ys => simp only [A.pure] at g h; simp only [A.dat, A.eqv, PyData.eqv]; exact eqv_dats xs ys g h
    | ref n => simp [A.pure] at h
    | scr n => simp [A.pure] at h
    | ktup n => simp [A.pure] at h
    | _ => simp [A.dat, A.eqv, PyData.eqv]
  | .lst xs, b, g, h => by
    cases b with
    | lst ys => simp only [A.pure] at g h; simp only [A.dat, A.eqv, PyData.eqv]; exact eqv_dats xs ys g h
    | ref n => simp [A.pure] at h
    | scr n => simp [A.pure] at h
    | ktup n => simp [A.pure] at h
    | _ => simp [A.dat, A.eqv, PyData.eqv]
theorem eqv_dats : ∀ (a b : List A), A.pures a = true → A.pures b = true → PyData.eqvAll (A.dats a) (A.dats b) = A.eqvs a b
  | [], [], _, _ => by simp [A.dats, A.eqvs, PyData.eqvAll]
  | [], _ :: _, _, _ => by simp [A.dats, A.eqvs, PyData.eqvAll]
  | _ :: _, [], _, _ => by simp [A.dats, A.eqvs, PyData.eqvAll]
  | x :: xs, y :: ys, g, h => by
    simp only [A.pures, Bool.and_eq_true] at g h
    simp only [A.dats, A.eqvs, PyData.eqvAll]
    rw [eqv_dat x y g.1 h.1, eqv_dats xs ys g.2 h.2]
end
mutual
theorem depth_dat : ∀ (a : A), a.pure = true → a.dat.depth = a.depth
  | .non, _ => by simp [A.dat, A.depth, PyData.depth]
  | .bl _, _ => by simp [A.dat, A.depth, PyData.depth]
  | .int _, _ => by simp [A.dat, A.depth, PyData.depth]
  | .str _, _ => by simp [A.dat, A.depth, PyData.depth]
  | .ref _, h => by simp [A.pure] at h
  | .scr _, h => by simp [A.pure] at h
  | .ktup _, h => by simp [A.pure] at h
  | .tup xs, h => by simp only [A.pure] at h; simp only [A.dat, A.depth, PyData.depth]; rw [depths_dat xs h]
  | .lst xs, h => by simp only [A.pure] at h; simp only [A.dat, A.depth, PyData.depth]; rw [depths_dat xs h]
theorem depths_dat : ∀ (a : List A), A.pures a = true → PyData.depthAll (A.dats a) = A.depths a
  | [], _ => by simp [A.dats, A.depths, PyData.depthAll]
  | x :: xs, h => by
    simp only [A.pures, Bool.and_eq_true] at h
    simp only [A.dats, A.depths, PyData.depthAll]
    rw [depth_dat x h.1, depths_dat xs h.2]
end
theorem strOk_mk {x : List Nat} (h : okS x) : PyData.strOk (mkS x) = true := by
  unfold PyData.strOk mkS
  simp only [List.all_toArray]
  rw [List.all_eq_true]
  intro c hc
  exact decide_eq_true (h.2 c hc)
mutual
theorem dat_rel {K : PySem.W.Frag} {w : Wd} : ∀ (a : A) (v : V), a.pure = true → RelA K w a v → Dp K w.H v a.dat ∧ a.dat.canLay0 = true
  | .non, v, _, r => by simp only [RelA] at r; subst r; exact ⟨by simp only [A.dat]; exact .non, by simp [A.dat, PyData.canLay0]⟩
  | .bl _, v, _, r => by simp only [RelA] at r; subst r; exact ⟨by simp only [A.dat]; exact .bl _, by simp [A.dat, PyData.canLay0]⟩
  | .int _, v, _, r => by simp only [RelA] at r; subst r; exact ⟨by simp only [A.dat]; exact .int _, by simp [A.dat, PyData.canLay0]⟩
  | .str x, v, _, r => by
    simp only [RelA] at r
    obtain ⟨rfl, hx⟩ := r
    exact ⟨by simp only [A.dat]; exact .str _, by simp only [A.dat, PyData.canLay0]; exact strOk_mk hx⟩
  | .ref _, _, h, _ => by simp [A.pure] at h
  | .scr _, _, h, _ => by simp [A.pure] at h
  | .ktup _, _, h, _ => by simp [A.pure] at h
  | .tup xs, v, h, r => by
    simp only [A.pure] at h
    simp only [RelA] at r
    obtain ⟨a, vs, rfl, q, rs⟩ := r
    obtain ⟨d, c⟩ := dats_rel xs vs h rs
    simp only [A.dat]
    exact ⟨.tup q.sq d, by simp only [PyData.canLay0]; exact c⟩
  | .lst xs, v, h, r => by
    simp only [A.pure] at h
    simp only [RelA] at r
    obtain ⟨a, vs, rfl, q, rs⟩ := r
    obtain ⟨d, c⟩ := dats_rel xs vs h rs
    simp only [A.dat]
    exact ⟨.lst q.sq d, by simp only [PyData.canLay0]; exact c⟩
theorem dats_rel {K : PySem.W.Frag} {w : Wd} : ∀ (a : List A) (v : List V), A.pures a = true → RelAs K w a v → DpAll K w.H v (A.dats a) ∧ PyData.canLayAll0 (A.dats a) = true
  | [], v, _, r => by simp only [RelAs] at r; subst r; exact ⟨by simp only [A.dats]; exact .nil, by simp [A.dats, PyData.canLayAll0]⟩
  | x :: xs, v, h, r => by
    simp only [A.pures, Bool.and_eq_true] at h
    simp only [RelAs] at r
    obtain ⟨u, vs, rfl, r1, r2⟩ := r
    obtain ⟨d1, c1⟩ := dat_rel x u h.1 r1
    obtain ⟨d2, c2⟩ := dats_rel xs vs h.2 r2
    simp only [A.dats]
    exact ⟨.cons d1 d2, by simp only [PyData.canLayAll0, Bool.and_eq_true]; exact ⟨c1, c2⟩⟩
end
/-- an object's list as a value: for reading -/
theorem der_rel {K : PySem.W.Frag} {cls : Nat → Addr} {w : Wd} (s : RelS K cls w) {a : A} {v : V} (r : RelA K w a v) :
    (der w.S a = a) ∨ ∃ n xs p vs, a = .ref n ∧ der w.S a = .lst xs ∧ w.S[n]? = some (.lst xs) ∧ w.ms[n]? = some p ∧ v = .ref p ∧ w.H p = some (.lst vs) ∧ RelAs K w xs vs := by
  cases a with
  | ref n =>
    simp only [RelA] at r
    obtain ⟨p, e, rfl⟩ := r
    unfold der
    cases q : w.S[n]? with
    | none => simp [q]
    | some o =>
      cases o with
      | lst xs =>
        obtain ⟨vs, h, rs⟩ := s.obj n p _ e q
        exact .inr ⟨n, xs, p, vs, rfl, by simp [q], q, e, rfl, h, rs⟩
      | _ => simp [q]
  | _ => exact .inl rfl
theorem der_dat {K : PySem.W.Frag} {cls : Nat → Addr} {w : Wd} (s : RelS K cls w) {a : A} {v : V} (r : RelA K w a v) (h : (der w.S a).pure = true) : Dp K w.H v (der w.S a).dat ∧ (der w.S a).dat.canLay0 = true := by
  rcases der_rel s r with e | ⟨n, xs, p, vs, rfl, e, e1, e2, rfl, hH, rs⟩
  · rw [e] at h ⊢; exact dat_rel a v h r
  · rw [e] at h ⊢
    simp only [A.pure] at h
    obtain ⟨d, c⟩ := dats_rel xs vs h rs
    simp only [A.dat]
    exact ⟨.lst (SqL.of hH) d, by simp only [PyData.canLay0]; exact c⟩
section
variable {X : Cx}
def rEqM (K : PySem.W.Frag) : R2 := fun x y H Q => ∃ d e, Dp K H x d ∧ Dp K H y e ∧ d.canLay0 = true ∧ e.canLay0 = true ∧ min d.depth e.depth ≤ 64 ∧ Q (.bl (PyData.eqv d e)) H
def rNeM (K : PySem.W.Frag) : R2 := fun x y H Q => ∃ d e, Dp K H x d ∧ Dp K H y e ∧ d.canLay0 = true ∧ e.canLay0 = true ∧ min d.depth e.depth ≤ 64 ∧ Q (.bl (!PyData.eqv d e)) H
theorem op_eqM (hu : X.A.units + 64 < cLine) : OpR X (compareOp .Eq) (rEqM X.K) := by
  intro pins s σ H x y v u Q I rx ry h
  obtain ⟨d, e, hd, he, sd, se, hm, q⟩ := h
  obtain ⟨as, r1⟩ := Dp.reads I d x v hd rx
  obtain ⟨bs, r2⟩ := Dp.reads I e y u he ry
  exact SeqAt.compareEq_reads r1 r2 sd se (by omega) ⟨.bl _, H, I, rfl, q⟩
theorem op_neM (hu : X.A.units + 64 < cLine) : OpR X (compareOp .NotEq) (rNeM X.K) := by
  intro pins s σ H x y v u Q I rx ry h
  obtain ⟨d, e, hd, he, sd, se, hm, q⟩ := h
  obtain ⟨as, r1⟩ := Dp.reads I d x v hd rx
  obtain ⟨bs, r2⟩ := Dp.reads I e y u he ry
  exact SeqAt.compareNe_reads r1 r2 sd se (by omega) ⟨.bl _, H, I, rfl, q⟩
end
theorem eqO_rel {K : PySem.W.Frag} {cls : Nat → Addr} {w : Wd} (s : RelS K cls w) {a b : A} {v u : V} (ra : RelA K w a v) (rb : RelA K w b u) {k : Bool} (h : eqO w.S a b = some k) :
    ∃ d e, Dp K w.H v d ∧ Dp K w.H u e ∧ d.canLay0 = true ∧ e.canLay0 = true ∧ min d.depth e.depth ≤ 64 ∧ PyData.eqv d e = k := by
  unfold eqO at h
  split at h
  · rename_i hf
    simp only [fitsEq, Bool.and_eq_true, decide_eq_true_eq] at hf
    obtain ⟨⟨h1, h2⟩, h3⟩ := hf
    obtain ⟨d1, c1⟩ := der_dat s ra h1
    obtain ⟨d2, c2⟩ := der_dat s rb h2
    refine ⟨_, _, d1, d2, c1, c2, by rw [depth_dat _ h1, depth_dat _ h2]; exact h3, ?_⟩
    rw [eqv_dat _ _ h1 h2]
    exact Option.some.inj h
  · cases h

/-! ### list + list, over what may be read -/
theorem Rd.lst {X : Cx} {pins : List (Addr × Obj)} {σ : L2.St} {H : Hp} {s : Shared} {a : Addr} {xs : List V} (I : Inv X pins σ H s) (h : Rd H a (.lst xs)) :
    xs.length ≤ sizeLine ∧ ∃ (its : List Value) (n : Nat), Vals xs its ∧ xs.length = its.length ∧ s.heap.get? a = some { cls := .type "list", data := .seq its.toArray n } := by
  obtain ⟨z, its, n, r, e⟩ := h.ok I.hok
  exact ⟨z, its, n, r, r.length, e⟩
section
variable {X : Cx}
def rCatR : R2 := fun x y H Q => ∃ l b xs zs, x = .ref l ∧ y = .ref b ∧ Rd H l (.lst xs) ∧ Rd H b (.lst zs) ∧ xs.length + zs.length ≤ sizeLine ∧ ∀ p, H p = none → Q (.ref p) (upd H p (.lst (xs ++ zs)))
theorem op_catR : OpR X (binaryOp .Add) rCatR := by
  intro pins s σ H x y v u Q I rx ry h
  obtain ⟨l, b, xs, zs, rfl, rfl, hH, hB, hz, q⟩ := h
  cases rx
  cases ry
  obtain ⟨z, its, n, r, hl, e⟩ := Rd.lst I hH
  obtain ⟨z2, its2, n2, r2, hl2, e2⟩ := Rd.lst I hB
  refine PySem.P.add_list e e2 ?_ (by rw [List.size_toArray, List.size_toArray]; omega)
  have ea : its.toArray ++ its2.toArray = (its ++ its2).toArray := by simp
  rw [ea]
  exact ⟨.ref _, _, I.lnew (t' := s.toks) (r.append r2) (by rw [List.length_append]; omega), rfl, q _ I.fresh⟩
end
section
variable {K : PySem.W.Frag} {ad : Ad} {G : Gt} {E : XK} {w : Wd}
/-- a new list: a value or an object -/
theorem okR.mkL {Q : VK} {fl : Bool} {xs : List A} {vs : List V} (h : okR K ad G Q E w (Lt.mkL fl xs w.S)) (s : RelS K ad.cls w) (r : RelAs K w xs vs) : ∀ p, w.H p = none → Q (.ref p) (upd w.H p (.lst vs)) := by
  intro p e
  cases fl with
  | false =>
    have h' : okR K ad G Q E w (.ok (.lst xs) w.S) := h
    exact h' ⟨w.ms, w.S, upd w.H p (.lst vs), w.hid⟩ (.ref p) rfl (Le.grow (upd_grow e)) (s.grow (upd_grow e)) (new_lst s r e)
  | true =>
    have h' : okR K ad G Q E w (.ok (.ref w.S.length) (w.S ++ [.lst xs])) := h
    have g := upd_grow (o := .lst vs) e
    have le := Le.new (o := .lst xs) s e g
    exact h' ⟨w.ms ++ [p], w.S ++ [.lst xs], upd w.H p (.lst vs), w.hid⟩ (.ref p) rfl le (RelS.new (o := .lst xs) s e g ⟨_, upd_same⟩ ⟨vs, upd_same, r.mono le⟩) (new_ref s)
theorem okR.mkD {Q : VK} {kvs : List (A × A)} {ws : List (Key × V)} (h : okR K ad G Q E w (.ok (.ref w.S.length) (w.S ++ [.dic false kvs]))) (s : RelS K ad.cls w) (r : Paired (fun (p : A × A) (q : Key × V) => keyOf p.1 = some q.1 ∧ okKey p.1 ∧ RelA K w p.2 q.2) kvs ws) : ∀ p, w.H p = none → Q (.ref p) (upd w.H p (.dK ws)) := by
  intro p e
  have g := upd_grow (o := .dK ws) e
  have le := Le.new (o := .dic false kvs) s e g
  exact h ⟨w.ms ++ [p], w.S ++ [.dic false kvs], upd w.H p (.dK ws), w.hid⟩ (.ref p) rfl le (RelS.new (o := .dic false kvs) s e g ⟨_, upd_same⟩ ⟨ws, upd_same, Paired.mapP r fun _ _ z => ⟨z.1, z.2.1, z.2.2.mono le.mo⟩⟩) (new_ref s)
theorem okR.mkT {Q : VK} {xs : List A} {vs : List V} (h : okR K ad G Q E w (.ok (.tup xs) w.S)) (s : RelS K ad.cls w) (r : RelAs K w xs vs) : ∀ p, w.H p = none → Q (.ref p) (upd w.H p (.tup vs)) := by
  intro p e
  exact h ⟨w.ms, w.S, upd w.H p (.tup vs), w.hid⟩ (.ref p) rfl (Le.grow (upd_grow e)) (s.grow (upd_grow e)) (new_tup s r e)
end
/-- what may be read as a list: a value's, an object's -/
theorem der_rd {K : PySem.W.Frag} {cls : Nat → Addr} {w : Wd} (s : RelS K cls w) {a : A} {v : V} (r : RelA K w a v) {xs : List A} (e : der w.S a = .lst xs) : ∃ p vs, v = .ref p ∧ Rd w.H p (.lst vs) ∧ RelAs K w xs vs := by
  rcases der_rel s r with e' | ⟨n, ys, p, vs, rfl, e', e1, e2, rfl, hH, rs⟩
  · rw [e'] at e; subst e
    simp only [RelA] at r
    obtain ⟨a, vs, rfl, q, rs⟩ := r
    exact ⟨a, vs, rfl, q.1, rs⟩
  · rw [e'] at e; cases e
    exact ⟨p, vs, rfl, .inl hH, rs⟩
/-- the items of what is walked or indexed -/
theorem seqO_rel {K : PySem.W.Frag} {cls : Nat → Addr} {w : Wd} (s : RelS K cls w) {a : A} {v : V} (r : RelA K w a v) {xs : List A} (e : seqO w.S a = some xs) : ∃ p vs, v = .ref p ∧ (SqL K w.H p vs ∨ SqT K w.H p vs) ∧ RelAs K w xs vs := by
  cases a with
  | tup ys =>
    simp only [seqO, Option.some.injEq] at e; subst e
    simp only [RelA] at r
    obtain ⟨a, vs, rfl, q, rs⟩ := r
    exact ⟨a, vs, rfl, .inr q.sq, rs⟩
  | lst ys =>
    simp only [seqO, Option.some.injEq] at e; subst e
    simp only [RelA] at r
    obtain ⟨a, vs, rfl, q, rs⟩ := r
    exact ⟨a, vs, rfl, .inl q.sq, rs⟩
  | scr ys =>
    simp only [seqO, Option.some.injEq] at e; subst e
    simp only [RelA] at r
    obtain ⟨a, vs, rfl, q, rs⟩ := r
    exact ⟨a, vs, rfl, .inl (q.elim (fun q => q.sq) .inr), rs⟩
  | ktup ys =>
    simp only [seqO, Option.some.injEq] at e; subst e
    simp only [RelA] at r
    obtain ⟨a, vs, rfl, q, rs⟩ := r
    exact ⟨a, vs, rfl, .inr (.inr q), rs⟩
  | ref n =>
    simp only [RelA] at r
    obtain ⟨p, e1, rfl⟩ := r
    simp only [seqO] at e
    split at e
    · rename_i ys q
      simp only [Option.some.injEq] at e; subst e
      obtain ⟨vs, h, rs⟩ := s.obj n p _ e1 q
      exact ⟨p, vs, rfl, .inl (SqL.of h), rs⟩
    · cases e
  | _ => simp [seqO] at e
end Lt
namespace Lt
open PySem L2 PySem.Spec PyProof.Rows
section
variable {X : Cx}
def rRepR : R2 := fun x y H Q => ∃ l k xs, x = .ref l ∧ y = .int k ∧ Rd H l (.lst xs) ∧ -(2 ^ 63) ≤ k ∧ k < 2 ^ 63 ∧ xs.length * k.toNat ≤ sizeLine ∧
  ∀ p, H p = none → Q (.ref p) (upd H p (.lst (List.replicate k.toNat xs).flatten))
theorem op_repR : OpR X (binaryOp .Mult) rRepR := by
  intro pins s σ H x y v u Q I rx ry h
  obtain ⟨l, k, xs, rfl, rfl, hH, h1, h2, hz, q⟩ := h
  cases rx
  obtain ⟨t, rfl⟩ := ry
  obtain ⟨z, its, n, r, hl, e⟩ := Rd.lst I hH
  have hlen : its.toArray.size * k.toNat ≤ sizeLine := by rw [List.size_toArray, ← hl]; exact hz
  have hcap : ¬ its.toArray.size * k.toNat > (2 ^ 63 - 1) / 8 := by
    have : (sizeLine : Nat) ≤ (2 ^ 63 - 1) / 8 := by decide
    omega
  have hfit : ¬ (!Builtin.List.listFitsIndex k) = true := by
    rw [fitsIndex_both h1 h2]
    exact Bool.false_ne_true
  have hlong : ¬ Builtin.List.listTooLong (its.toArray.size * k.toNat) = true := by
    rw [notLongL hlen]
    exact Bool.false_ne_true
  have hnew : List.foldl (fun x1 x2 => x1 ++ x2) #[] (List.replicate (if its.toArray.isEmpty = true then 0 else k.toNat) its.toArray) = (List.replicate k.toNat its).flatten.toArray := by
    have f0 : ∀ m : Nat, List.foldl (fun x1 x2 => x1 ++ x2) #[] (List.replicate m its.toArray) = (List.replicate m its).flatten.toArray := fun m => by
      have := foldl_rep its m []
      rw [List.nil_append] at this
      exact this
    rw [f0]
    cases its with
    | nil => simp
    | cons a r' => rw [if_neg (by simp)]
  refine wpAny_binaryOp_repeat_ref (T := "list") (U := "int") (by decide) ⟨_, e, rfl⟩ (fun s' => typeIs_int s' k t) noFill_list_mul F.fills_int_mul F.slot_int_rmul repeat_list F.slot_int_index.lookup
    (call_meets F.slot_int_rmul (typeIs_int s k t) F.entry_int_rmul (F.args_int_rmul_2 _ _) (int___rmul___int_list k t l its.toArray n)
      ⟨e, rfl, ⟨_, e, rfl⟩, call_meets F.slot_list_mul ⟨_, e, rfl⟩ F.entry_list_mul (F.args_list_mul_2 _ _) (AutoListH.list___mul___list_int_3 l its.toArray n k t hfit hcap hlong) ⟨e, ?_⟩⟩)
  rw [hnew]
  exact ⟨.ref _, _, I.lnew (t' := s.toks) (r.rep k.toNat) (by rw [PyProof.Rows.lm_len_rep_flat, Nat.mul_comm]; exact hz), rfl, q _ I.fresh⟩
/-- a tuple times 1, or an empty one: itself -/
theorem tuple_mulSame (l : Addr) (items : Array Value) (n : Nat) (dd : Option Addr) (sl : Array (Option Value)) (x : Int) (u : Tok) (c0 : (decide (x < -(2 ^ 63)) || decide (x ≥ 2 ^ 63)) = false) (c1 : (items.isEmpty || x == 1) = true) :
    Meets (Builtin.«tuple.__mul__» ⟨[.ref l, .int x u], []⟩) (fun _ R s => s.heap.get? l = some { cls := .type "tuple", dict := dd, data := .seq items n, slots := sl } ∧ R (.ok (.ret (Value.ref l))) s) :=
  .of_wp fun prog w A R s h => by
    obtain ⟨hp, g, d, tk, os⟩ := s
    obtain ⟨hl, h⟩ := h
    have f1 := AutoSeq1.idx_int
    wp_walk using wpAny_loadPart' hl
    repeat (first
      | (refine wpAny_ite_false (decide_eq_false (by rw [c0]; exact Bool.false_ne_true)) ?_; wp_walk using wpAny_loadPart' hl)
      | (refine wpAny_ite_true (decide_eq_true (by rw [c1])) ?_; wp_walk using wpAny_loadPart' hl))
    all_goals exact ⟨_, rfl, h⟩
theorem tuple_mulNone (l : Addr) (items : Array Value) (n : Nat) (dd : Option Addr) (sl : Array (Option Value)) (x : Int) (u : Tok) (c0 : (decide (x < -(2 ^ 63)) || decide (x ≥ 2 ^ 63)) = false) (c1 : (items.isEmpty || x == 1) = false) (c2 : (decide (x ≤ 0) || items.isEmpty) = true) :
    Meets (Builtin.«tuple.__mul__» ⟨[.ref l, .int x u], []⟩) (fun _ R s => s.heap.get? l = some { cls := .type "tuple", dict := dd, data := .seq items n, slots := sl } ∧
      R (.ok (.ret (Value.ref s.heap.objs.size))) { s with heap := s.heap.push { cls := Value.type "tuple", data := Data.seq #[] }, toks := s.toks }) :=
  .of_wp fun prog w A R s h => by
    obtain ⟨hp, g, d, tk, os⟩ := s
    obtain ⟨hl, h⟩ := h
    have f1 := AutoSeq1.idx_int
    wp_walk using wpAny_loadPart' hl
    repeat (first
      | (refine wpAny_ite_false (decide_eq_false (by rw [c0]; exact Bool.false_ne_true)) ?_; wp_walk using wpAny_loadPart' hl)
      | (refine wpAny_ite_false (decide_eq_false (by rw [c1]; exact Bool.false_ne_true)) ?_; wp_walk using wpAny_loadPart' hl)
      | (refine wpAny_ite_true (decide_eq_true (by rw [c2])) ?_; wp_walk using wpAny_loadPart' hl))
    all_goals exact ⟨_, rfl, h⟩
def rMulT (K : PySem.W.Frag) : R2 := fun x y H Q => ∃ l k xs, x = .ref l ∧ y = .int k ∧ SqT K H l xs ∧ 0 ≤ k ∧ k < 2 ^ 63 ∧ xs.length * k.toNat ≤ sizeLine ∧
  (xs = [] ∨ k = 1 → Q (.ref l) H) ∧ (xs ≠ [] → k ≠ 1 → ∀ p, H p = none → Q (.ref p) (upd H p (.tup (List.replicate k.toNat xs).flatten)))
theorem op_mulT : OpR X (binaryOp .Mult) (rMulT X.K) := by
  intro pins s σ H x y v u Q I rx ry h
  obtain ⟨l, k, xs, rfl, rfl, hT, h0, h63, hz, q1, q2⟩ := h
  cases rx
  obtain ⟨t, rfl⟩ := ry
  obtain ⟨its, r, ⟨⟨cls, dd, data, sl⟩, ho, hc, n, hd⟩, hs⟩ := I.tuple hT
  simp only at hc hd
  subst hc hd
  have hle : its.length = xs.length := r.length.symm
  have hsz0 : its.toArray.size = xs.length := by rw [List.size_toArray, hle]
  have c0 : (decide (k < -(2 ^ 63)) || decide (k ≥ 2 ^ 63)) = false := by
    rw [decide_eq_false (by omega), decide_eq_false (by omega)] <;> rfl
  by_cases hsame : xs = [] ∨ k = 1
  · have c1 : (its.toArray.isEmpty || k == 1) = true := by
      rcases hsame with e | e
      · subst e
        have : its = [] := List.eq_nil_of_length_eq_zero (by simpa using hle)
        subst this
        rfl
      · subst e; simp
    exact wpAny_binaryOp_repeat_ref (T := "tuple") (U := "int") (by decide) ⟨_, ho, rfl⟩ (fun s' => typeIs_int s' k t) noFill_tuple_mul F.fills_int_mul F.slot_int_rmul repeat_tuple F.slot_int_index.lookup
      (call_meets F.slot_int_rmul (typeIs_int s k t) F.entry_int_rmul (F.args_int_rmul_2 _ _) (int_rmul_tuple k t l its.toArray n dd sl)
        ⟨ho, rfl, ⟨_, ho, rfl⟩, call_meets F.slot_tuple_mul ⟨_, ho, rfl⟩ F.entry_tuple_mul (F.args_tuple_mul_2 _ _) (tuple_mulSame l its.toArray n dd sl k t c0 c1) ⟨ho, ⟨.ref l, H, I, rfl, q1 hsame⟩⟩⟩)
  · have hne : xs ≠ [] := fun e => hsame (.inl e)
    have hk1 : k ≠ 1 := fun e => hsame (.inr e)
    have q := q2 hne hk1
    have hn : its ≠ [] := fun e => hne (by
      rw [e] at hle
      exact List.eq_nil_of_length_eq_zero hle.symm)
    have hi : its.toArray.isEmpty = false := by
      cases its with
      | nil => exact absurd rfl hn
      | cons a b => rfl
    have c1 : (its.toArray.isEmpty || k == 1) = false := by
      rw [hi, Bool.false_or]
      exact beq_eq_false_iff_ne.mpr hk1
    by_cases hk0 : k = 0
    · subst hk0
      have c2 : (decide ((0 : Int) ≤ 0) || its.toArray.isEmpty) = true := rfl
      refine wpAny_binaryOp_repeat_ref (T := "tuple") (U := "int") (by decide) ⟨_, ho, rfl⟩ (fun s' => typeIs_int s' 0 t) noFill_tuple_mul F.fills_int_mul F.slot_int_rmul repeat_tuple F.slot_int_index.lookup
        (call_meets F.slot_int_rmul (typeIs_int s 0 t) F.entry_int_rmul (F.args_int_rmul_2 _ _) (int_rmul_tuple 0 t l its.toArray n dd sl)
          ⟨ho, rfl, ⟨_, ho, rfl⟩, call_meets F.slot_tuple_mul ⟨_, ho, rfl⟩ F.entry_tuple_mul (F.args_tuple_mul_2 _ _) (tuple_mulNone l its.toArray n dd sl 0 t c0 c1 c2) ⟨ho, ?_⟩⟩)
      refine ⟨.ref s.heap.objs.size, _, I.laid (t' := s.toks) (o := .tup []) (fun b ob q => Heap.get?_push_of_some _ q) (Nat.le_refl _) ?_, rfl, q _ (I.hok.fresh (Nat.le_refl _))⟩
      exact ⟨Nat.zero_le _, [], .nil, IsTup.new _ _⟩
    · have hm : ((its.toArray.size : Nat) : Int) * k ≤ 16777216 := by
        rw [hsz0]
        rw [sizeLine_eq] at hz
        have e : k = (k.toNat : Int) := by omega
        rw [e, ← Int.natCast_mul]
        omega
      have c2 : (decide (k ≤ 0) || its.toArray.isEmpty) = false := by
        rw [hi, Bool.or_false]
        exact decide_eq_false (by omega)
      have c4 : Builtin.Tuple.tupleTooMany (((its.toArray.size : Nat) : Int) * k) = false := by
        unfold Builtin.Tuple.tupleTooMany
        rw [sizeLine_eq]
        exact decide_eq_false (by omega)
      have flen : (List.replicate k.toNat its).flatten.length ≤ sizeLine := by
        rw [PyProof.Rows.lm_len_rep_flat, hle, Nat.mul_comm]
        exact hz
      refine wpAny_binaryOp_repeat_ref (T := "tuple") (U := "int") (by decide) ⟨_, ho, rfl⟩ (fun s' => typeIs_int s' k t) noFill_tuple_mul F.fills_int_mul F.slot_int_rmul repeat_tuple F.slot_int_index.lookup
        (call_meets F.slot_int_rmul (typeIs_int s k t) F.entry_int_rmul (F.args_int_rmul_2 _ _) (int_rmul_tuple k t l its.toArray n dd sl)
          ⟨ho, rfl, ⟨_, ho, rfl⟩, call_meets F.slot_tuple_mul ⟨_, ho, rfl⟩ F.entry_tuple_mul (F.args_tuple_mul_2 _ _) (tuple_mulW l its.toArray n dd sl k t c0 c1 c2 (by omega) c4 (by rw [size_rep, List.size_toArray]; exact flen)) ⟨ho, ?_⟩⟩)
      rw [size_rep]
      refine ⟨.ref s.heap.objs.size, _, I.laid (t' := s.toks) (o := .tup (List.replicate k.toNat xs).flatten) (fun b ob q => Heap.get?_push_of_some _ q) (Nat.le_refl _) ?_, rfl, q _ (I.hok.fresh (Nat.le_refl _))⟩
      exact ⟨by rw [PyProof.Rows.lm_len_rep_flat, Nat.mul_comm]; exact hz, _, r.rep k.toNat, IsTup.new _ _⟩
end
end Lt
/-! operators, comparisons, subscripts, lengths, truth: by the model's own rules -/
namespace Lt
open PySem L2
theorem relA_int {K : PySem.W.Frag} {w : Wd} {i : Int} {v : V} (r : RelA K w (.int i) v) : v = .int i := by simpa only [RelA] using r
theorem relA_bl {K : PySem.W.Frag} {w : Wd} {i : Bool} {v : V} (r : RelA K w (.bl i) v) : v = .bl i := by simpa only [RelA] using r
theorem relA_non {K : PySem.W.Frag} {w : Wd} {v : V} (r : RelA K w .non v) : v = .non := by simpa only [RelA] using r
theorem relA_str {K : PySem.W.Frag} {w : Wd} {x : List Nat} {v : V} (r : RelA K w (.str x) v) : v = .str (mkS x) ∧ okS x := by simpa only [RelA] using r
theorem relA_tup {K : PySem.W.Frag} {w : Wd} {xs : List A} {v : V} (r : RelA K w (.tup xs) v) : ∃ a vs, v = .ref a ∧ VT w a vs ∧ RelAs K w xs vs := by simpa only [RelA] using r
theorem relA_lst {K : PySem.W.Frag} {w : Wd} {xs : List A} {v : V} (r : RelA K w (.lst xs) v) : ∃ a vs, v = .ref a ∧ VL w a vs ∧ RelAs K w xs vs := by simpa only [RelA] using r
theorem relA_ref {K : PySem.W.Frag} {w : Wd} {n : Nat} {v : V} (r : RelA K w (.ref n) v) : ∃ a, w.ms[n]? = some a ∧ v = .ref a := by simpa only [RelA] using r
theorem int_rel {K : PySem.W.Frag} {w : Wd} {i : Int} : RelA K w (.int i) (.int i) := by simp only [RelA]
theorem bl_rel {K : PySem.W.Frag} {w : Wd} {i : Bool} : RelA K w (.bl i) (.bl i) := by simp only [RelA]
theorem non_rel {K : PySem.W.Frag} {w : Wd} : RelA K w .non .non := by simp only [RelA]
theorem str_rel {K : PySem.W.Frag} {w : Wd} {x : List Nat} (h : okS x) : RelA K w (.str x) (.str (mkS x)) := by simp only [RelA]; exact ⟨trivial, h⟩
theorem okS.append {x y : List Nat} (h : okS x) (k : okS y) (z : x.length + y.length ≤ sizeLine) : okS (x ++ y) :=
  ⟨by rw [List.length_append]; exact z, fun c hc => (List.mem_append.mp hc).elim (h.2 c) (k.2 c)⟩
theorem mkS_append (x y : List Nat) : mkS x ++ mkS y = mkS (x ++ y) := by
  show (⟨(mkS x).cps ++ (mkS y).cps⟩ : Str) = ⟨(x ++ y).toArray⟩
  simp [mkS]
theorem mkS_length (x : List Nat) : (mkS x).length = x.length := by
  show x.toArray.size = x.length
  simp

theorem RelAs.rep {K : PySem.W.Frag} {w : Wd} {xs : List A} {vs : List V} (h : RelAs K w xs vs) : ∀ k : Nat, RelAs K w (List.replicate k xs).flatten (List.replicate k vs).flatten
  | 0 => by simp; exact RelAs.nil
  | k + 1 => by rw [List.replicate_succ, List.replicate_succ, List.flatten_cons, List.flatten_cons]; exact h.append (RelAs.rep h k)
section
variable {X : Cx} {ad : Ad} {G : Gt}
def rBin (K : PySem.W.Frag) (ad : Ad) (G : Gt) (op : Operator) (fl : Bool) : R2 := fun x y H Q => ∃ w a b E, w.H = H ∧ RelS K ad.cls w ∧ RelA K w a x ∧ RelA K w b y ∧ okR K ad G Q E w (binO op fl a b w.S)
theorem opr_bin (op : Operator) (fl : Bool) : OpR X (binaryOp op) (rBin X.K ad G op fl) := by
  intro pins s σ H x y v u Q I rx ry h
  obtain ⟨w, a, b, E, rfl, hs, ra, rb, hok⟩ := h
  unfold binO at hok
  split at hok
  · -- int + int
    cases relA_int ra; cases relA_int rb
    exact op_add pins s σ _ _ _ v u Q I rx ry ⟨_, _, rfl, rfl, hok.ret rfl hs int_rel⟩
  · cases relA_int ra; cases relA_int rb
    exact op_sub pins s σ _ _ _ v u Q I rx ry ⟨_, _, rfl, rfl, hok.ret rfl hs int_rel⟩
  · cases relA_int ra; cases relA_int rb
    split at hok
    · rename_i h; exact op_mul pins s σ _ _ _ v u Q I rx ry ⟨_, _, rfl, rfl, h, hok.ret rfl hs int_rel⟩
    · exact hok.elim
  · cases relA_int ra; cases relA_int rb
    split at hok
    · rename_i h; exact op_fdiv pins s σ _ _ _ v u Q I rx ry ⟨_, _, rfl, rfl, h, hok.ret rfl hs int_rel⟩
    · exact hok.elim
  · cases relA_int ra; cases relA_int rb
    split at hok
    · rename_i h; exact op_mod pins s σ _ _ _ v u Q I rx ry ⟨_, _, rfl, rfl, h, hok.ret rfl hs int_rel⟩
    · exact hok.elim
  · cases relA_int ra; cases relA_int rb
    split at hok
    · rename_i h; exact op_pow pins s σ _ _ _ v u Q I rx ry ⟨_, _, rfl, rfl, h, hok.ret rfl hs int_rel⟩
    · exact hok.elim
  · obtain ⟨e1, o1⟩ := relA_str ra
    obtain ⟨e2, o2⟩ := relA_str rb
    subst e1 e2
    split at hok
    · rename_i h
      refine op_add_str pins s σ _ _ _ v u Q I rx ry ⟨_, _, rfl, rfl, by rw [mkS_length, mkS_length]; exact h, ?_⟩
      rw [mkS_append]
      exact hok.ret rfl hs (str_rel (o1.append o2 h))
    · exact hok.elim
  · rename_i xs ys
    obtain ⟨a, vs, rfl, ha, r1⟩ := relA_tup ra
    obtain ⟨b, us, rfl, hb, r2⟩ := relA_tup rb
    split at hok
    · rename_i h
      have l1 := r1.length
      have l2 := r2.length
      refine op_catA pins s σ _ _ _ v u Q I rx ry ⟨a, b, vs, us, rfl, rfl, ha.sq, hb.sq, by omega, fun e => ?_, fun e1 e2 => ?_, fun e1 e2 => ?_⟩
      · subst e
        have : xs = [] := List.eq_nil_of_length_eq_zero (by simpa using l1)
        subst this
        exact hok.ret rfl hs (by simp only [RelA]; exact ⟨b, us, rfl, hb, r2⟩)
      · subst e2
        have : ys = [] := List.eq_nil_of_length_eq_zero (by simpa using l2)
        subst this
        exact hok.ret rfl hs (by simp only [RelA]; exact ⟨a, vs, rfl, ha, by simpa using r1⟩)
      · exact hok.mkT hs (r1.append r2)
    · exact hok.elim
  · rename_i xs j
    obtain ⟨a, vs, rfl, ha, r1⟩ := relA_tup ra
    cases relA_int rb
    split at hok
    · rename_i h
      have l1 := r1.length
      refine op_mulT pins s σ _ _ _ v u Q I rx ry ⟨a, j, vs, rfl, rfl, ha.sq, h.1, h.2.1, by rw [← l1]; exact h.2.2, fun e => ?_, fun e1 e2 => ?_⟩
      · have e3 : (List.replicate j.toNat xs).flatten = xs := by
          rcases e with e | e
          · subst e
            have : xs = [] := List.eq_nil_of_length_eq_zero (by simpa using l1)
            subst this
            simp
          · subst e; simp
        rw [e3] at hok
        exact hok.ret rfl hs ra
      · exact hok.mkT hs (r1.rep _)
    · exact hok.elim
  · rename_i a b _ _ _
    split at hok
    · rename_i xs ys e1 e2
      obtain ⟨p, vs, rfl, h1, r1⟩ := der_rd hs ra e1
      obtain ⟨q, us, rfl, h2, r2⟩ := der_rd hs rb e2
      split at hok
      · rename_i h
        have l1 := r1.length
        have l2 := r2.length
        exact op_catR pins s σ _ _ _ v u Q I rx ry ⟨p, q, vs, us, rfl, rfl, h1, h2, by omega, hok.mkL hs (r1.append r2)⟩
      · exact hok.elim
    · exact hok.elim
  · rename_i j _ _
    cases relA_int rb
    split at hok
    · rename_i xs e1
      obtain ⟨p, vs, rfl, h1, r1⟩ := der_rd hs ra e1
      split at hok
      · rename_i h
        have l1 := r1.length
        exact op_repR pins s σ _ _ _ v u Q I rx ry ⟨p, j, vs, rfl, rfl, h1, by omega, h.2.1, by rw [← l1]; exact h.2.2, hok.mkL hs (r1.rep _)⟩
      · exact hok.elim
    · exact hok.elim
  · exact hok.elim

/-! ### comparisons -/
def rCmp (K : PySem.W.Frag) (ad : Ad) (op : CmpOp) : R2 := fun x y H Q => ∃ w a b k, w.H = H ∧ RelS K ad.cls w ∧ RelA K w a x ∧ RelA K w b y ∧ cmpO op a b w.S = some k ∧ Q (.bl k) H
theorem mem_any_dats (ys : List A) (a : A) (hp : A.pures ys = true) (ha : a.pure = true) : (A.dats ys).any (fun z => PyData.eqv z a.dat) = ys.any fun z => z.eqv a := by
  induction ys with
  | nil => rfl
  | cons y ys ih =>
    simp only [A.pures, Bool.and_eq_true] at hp
    simp only [A.dats, List.any_cons]
    rw [ih hp.2, eqv_dat y a hp.1 ha]
/-- x in a list, a tuple -/
theorem in_seq (neg : Bool) {pins : List (Addr × Obj)} {s : Shared} {σ : L2.St} {H : Hp} {x y : V} {v u : Value} {Q : VK} {d : PyData} {ds : List PyData} (hu : X.A.units + 66 < cLine) (I : Inv X pins σ H s) (rx : RelV x v) (ry : RelV y u)
    (hd : Dp X.K H x d) (he : Dp X.K H y (.list ds) ∨ Dp X.K H y (.tuple ds)) (sd : d.canLay0 = true) (se : PyData.canLayAll0 ds = true) (hm : min d.depth (PyData.depthAll ds) ≤ 63)
    (q : Q (.bl (if neg then !(ds.any fun z => PyData.eqv z d) else ds.any fun z => PyData.eqv z d)) H) : wpAny (model X.prog X.w) X.A (compareOp (if neg then .NotIn else .In) v u) (EP X pins σ Q) X.xe s := by
  obtain ⟨as, r1⟩ := Dp.reads I d x v hd rx
  have hroom : X.A.units + 1 + min (PyData.depthAll ds) d.depth < cLine := by rw [Nat.min_comm]; omega
  have s1 : PyData.canLay0 (.list ds) = true := by simp only [PyData.canLay0]; exact se
  have s2 : PyData.canLay0 (.tuple ds) = true := by simp only [PyData.canLay0]; exact se
  rcases he with he | he
  · obtain ⟨bs, r2⟩ := Dp.reads I (.list ds) y u he ry
    cases neg with
    | false => exact SeqAt.in_list_reads r2 r1 s1 sd hroom ⟨.bl _, H, I, rfl, q⟩
    | true => exact SeqAt.notIn_list_reads r2 r1 s1 sd hroom ⟨.bl _, H, I, rfl, q⟩
  · obtain ⟨bs, r2⟩ := Dp.reads I (.tuple ds) y u he ry
    cases neg with
    | false => exact SeqAt.in_tuple_reads r2 r1 s2 sd hroom ⟨.bl _, H, I, rfl, q⟩
    | true => exact SeqAt.notIn_tuple_reads r2 r1 s2 sd hroom ⟨.bl _, H, I, rfl, q⟩
theorem keyOf_kV {K : PySem.W.Frag} {w : Wd} {a : A} {v : V} {k : Key} (r : RelA K w a v) (e : keyOf a = some k) : v = kV k := by
  cases a <;> simp only [keyOf] at e <;> first | (cases e; done) | skip
  · cases e; cases relA_int r; rfl
  · cases e; obtain ⟨e1, _⟩ := relA_str r; subst e1; rfl
theorem keysOf_kV {K : PySem.W.Frag} {w : Wd} : ∀ {xs : List A} {vs : List V} {ks : List Key}, RelAs K w xs vs → keysOf xs = some ks → vs = ks.map kV
  | [], vs, ks, r, e => by simp only [RelAs] at r; simp only [keysOf, Option.some.injEq] at e; subst r; subst e; rfl
  | x :: xs, vs, ks, r, e => by
    simp only [RelAs] at r
    obtain ⟨v, us, rfl, r1, r2⟩ := r
    simp only [keysOf] at e
    split at e
    · rename_i k ks' e1 e2
      cases e
      rw [List.map_cons, keyOf_kV r1 e1, keysOf_kV r2 e2]
    · cases e
theorem eqv_key {a b : A} {k l : Key} (ha : keyOf a = some k) (hb : keyOf b = some l) : a.eqv b = decide (k = l) := by
  cases a <;> simp only [keyOf] at ha <;> first | (cases ha; done) | skip
  · cases ha
    cases b <;> simp only [keyOf] at hb <;> first | (cases hb; done) | skip
    · cases hb; rw [Bool.eq_iff_iff]; simp [A.eqv]
    · cases hb; simp [A.eqv]
  · cases ha
    cases b <;> simp only [keyOf] at hb <;> first | (cases hb; done) | skip
    · cases hb; simp [A.eqv]
    · cases hb
      rw [Bool.eq_iff_iff]
      simp only [A.eqv, beq_iff_eq, decide_eq_true_eq, Sum.inr.injEq]
      exact ⟨fun h => by rw [h], mkS_inj⟩
theorem eqv_keys : ∀ {a b : List A} {k l : List Key}, keysOf a = some k → keysOf b = some l → A.eqvs a b = decide (k = l)
  | [], [], k, l, ha, hb => by simp only [keysOf, Option.some.injEq] at ha hb; subst ha; subst hb; simp [A.eqvs]
  | [], y :: ys, k, l, ha, hb => by
    simp only [keysOf, Option.some.injEq] at ha
    simp only [keysOf] at hb
    split at hb
    · cases hb; subst ha; simp [A.eqvs]
    · cases hb
  | x :: xs, [], k, l, ha, hb => by
    simp only [keysOf, Option.some.injEq] at hb
    simp only [keysOf] at ha
    split at ha
    · cases ha; subst hb; simp [A.eqvs]
    · cases ha
  | x :: xs, y :: ys, k, l, ha, hb => by
    simp only [keysOf] at ha hb
    split at ha
    · rename_i k1 ks1 e1 e2
      cases ha
      split at hb
      · rename_i k2 ks2 e3 e4
        cases hb
        simp only [A.eqvs]
        rw [eqv_key e1 e3, eqv_keys e2 e4, Bool.eq_iff_iff]
        simp
      · cases hb
    · cases ha
theorem eqv_tkey {a b : A} {k l : List Key} (ha : tkeyOf a = some k) (hb : tkeyOf b = some l) : a.eqv b = decide (k = l) := by
  cases a <;> simp only [tkeyOf] at ha <;> first | (cases ha; done) | skip
  cases b <;> simp only [tkeyOf] at hb <;> first | (cases hb; done) | skip
  simp only [A.eqv]
  exact eqv_keys ha hb
/-- a look-up is the layer's -/
theorem valO_val {κ : Type} [DecidableEq κ] {K : PySem.W.Frag} {w : Wd} {f : A → Option κ} (hf : ∀ {a b k l}, f a = some k → f b = some l → a.eqv b = decide (k = l)) {a : A} {k : κ} (ha : f a = some k) :
    ∀ {kvs : List (A × A)} {ws : List (κ × V)}, Paired (fun (p : A × A) (q : κ × V) => f p.1 = some q.1 ∧ okKey p.1 ∧ RelA K w p.2 q.2) kvs ws →
      (valO kvs a = none ∧ valV ws k = none) ∨ ∃ x v, valO kvs a = some x ∧ valV ws k = some v ∧ RelA K w x v := by
  intro kvs ws h
  induction h with
  | nil => exact .inl ⟨rfl, rfl⟩
  | @cons p q l₁ l₂ r t ih =>
    have e : p.1.eqv a = decide (q.1 = k) := hf r.1 ha
    by_cases hk : q.1 = k
    · refine .inr ⟨p.2, q.2, ?_, ?_, r.2.2⟩
      · unfold valO; rw [List.find?_cons, e, decide_eq_true hk]; rfl
      · unfold valV; rw [List.find?_cons, decide_eq_true hk]; rfl
    · have e1 : valO (p :: l₁) a = valO l₁ a := by unfold valO; rw [List.find?_cons, e, decide_eq_false hk]
      have e2 : valV (q :: l₂) k = valV l₂ k := by unfold valV; rw [List.find?_cons, decide_eq_false hk]
      rw [e1, e2]; exact ih
/-- what a dict's object answers -/
theorem dic_get {K : PySem.W.Frag} {cls : Nat → Addr} {w : Wd} (s : RelS K cls w) {d k : A} {v u : V} (rd : RelA K w d v) (rk : RelA K w k u) {t : Bool} {kvs : List (A × A)} (e : dicO w.S d = some (t, kvs)) (hk : fitKey t k = true) :
    ∃ p, v = .ref p ∧ IsD w.H p ∧ ((valO kvs k = none ∧ DGet w.H p u none) ∨ ∃ x y, valO kvs k = some x ∧ DGet w.H p u (some y) ∧ RelA K w x y) := by
  cases d <;> simp only [dicO] at e <;> first | (cases e; done) | skip
  rename_i n
  obtain ⟨p, hp, rfl⟩ := relA_ref rd
  split at e
  · rename_i t' kvs' hS
    cases e
    refine ⟨p, rfl, ?_⟩
    cases t with
    | false =>
      obtain ⟨ws, hH, hw⟩ := s.obj n p _ hp hS
      refine ⟨.inl ⟨ws, .inl hH⟩, ?_⟩
      simp only [fitKey] at hk
      obtain ⟨kk, hkk⟩ := Option.isSome_iff_exists.mp hk
      have eu := keyOf_kV rk hkk
      subst eu
      rcases valO_val (f := keyOf) (fun h1 h2 => eqv_key h1 h2) hkk hw with ⟨e1, e2⟩ | ⟨x, y, e1, e2, r⟩
      · exact .inl ⟨e1, by rw [← e2]; exact DGet.k hH⟩
      · exact .inr ⟨x, y, e1, by rw [← e2]; exact DGet.k hH, r⟩
    | true =>
      obtain ⟨ws, hH, hw⟩ := s.obj n p _ hp hS
      refine ⟨.inr ⟨ws, .inl hH⟩, ?_⟩
      simp only [fitKey] at hk
      obtain ⟨kk, hkk⟩ := Option.isSome_iff_exists.mp hk
      cases k <;> simp only [tkeyOf] at hkk <;> first | (cases hkk; done) | skip
      rename_i xs
      obtain ⟨b, vs, rfl, hb, rs⟩ := relA_tup rk
      have ev := keysOf_kV rs hkk
      have hbt := hb.1
      rw [ev] at hbt
      have hkk' : tkeyOf (.tup xs) = some kk := hkk
      rcases valO_val (f := tkeyOf) (fun h1 h2 => eqv_tkey h1 h2) hkk' hw with ⟨e1, e2⟩ | ⟨x, y, e1, e2, r⟩
      · exact .inl ⟨e1, by rw [← e2]; exact DGet.t hH hbt⟩
      · exact .inr ⟨x, y, e1, by rw [← e2]; exact DGet.t hH hbt, r⟩
  · cases e
end

theorem okKey_of {K : PySem.W.Frag} {w : Wd} {k : A} {u : V} (r : RelA K w k u) : okKey k := by
  have str : ∀ {x : A} {v : V}, RelA K w x v → (match x with | .str y => okS y | _ => True) := fun {x v} r => by
    cases x <;> first | trivial | exact (relA_str r).2
  cases k <;> first | trivial | skip
  · exact (relA_str r).2
  · obtain ⟨b, vs, _, _, rs⟩ := relA_tup r
    intro x hx
    obtain ⟨i, hi⟩ := List.getElem?_of_mem hx
    obtain ⟨v, _, rv⟩ := rs.get hi
    exact str rv
theorem putO_put {κ : Type} [DecidableEq κ] {K : PySem.W.Frag} {w : Wd} {f : A → Option κ} (hf : ∀ {a b : A} {k l : κ}, f a = some k → f b = some l → a.eqv b = decide (k = l)) {a x : A} {k : κ} {y : V} (ha : f a = some k) (ok : okKey a) (rx : RelA K w x y)
    {kvs : List (A × A)} {ws : List (κ × V)} (h : Paired (fun (p : A × A) (q : κ × V) => f p.1 = some q.1 ∧ okKey p.1 ∧ RelA K w p.2 q.2) kvs ws) :
    Paired (fun (p : A × A) (q : κ × V) => f p.1 = some q.1 ∧ okKey p.1 ∧ RelA K w p.2 q.2) (putO kvs a x) (putK ws k y) := by
  have hany : (kvs.any fun p => p.1.eqv a) = ws.any fun kv => decide (kv.1 = k) := by
    induction h with
    | nil => rfl
    | cons r t ih => rw [List.any_cons, List.any_cons, ih, hf r.1 ha]
  have hmap : Paired (fun (p : A × A) (q : κ × V) => f p.1 = some q.1 ∧ okKey p.1 ∧ RelA K w p.2 q.2) (kvs.map fun p => if p.1.eqv a then (p.1, x) else p) (ws.map fun kv => if kv.1 = k then (kv.1, y) else kv) := by
    clear hany
    induction h with
    | nil => exact .nil
    | @cons p q l₁ l₂ r t ih =>
      rw [List.map_cons, List.map_cons]
      refine .cons ?_ ih
      have e := hf r.1 ha
      by_cases hk : q.1 = k
      · rw [e, decide_eq_true hk, if_pos rfl, if_pos hk]; exact ⟨r.1, r.2.1, rx⟩
      · rw [e, decide_eq_false hk, if_neg (by decide), if_neg hk]; exact r
  have happ : Paired (fun (p : A × A) (q : κ × V) => f p.1 = some q.1 ∧ okKey p.1 ∧ RelA K w p.2 q.2) (kvs ++ [(a, x)]) (ws ++ [(k, y)]) := by
    clear hany hmap
    induction h with
    | nil => exact .cons ⟨ha, ok, rx⟩ .nil
    | cons r t ih => exact .cons r ih
  unfold putO putK
  rw [hany]
  split
  · exact hmap
  · exact happ
end Lt
/-! comparisons, subscripts, built-ins, methods of built-in types: by values -/
namespace Lt
open PySem L2
section
variable {X : Cx} {ad : Ad} {G : Gt}
theorem mkS_one (c : Nat) : mkS [c] = ⟨#[c]⟩ := rfl
/-- in, not in: by one flag -/
theorem opr_in (neg : Bool) (hu : X.A.units + 66 < cLine) {pins : List (Addr × Obj)} {s : Shared} {σ : L2.St} {w : Wd} {x y : V} {v u : Value} {Q : VK} {a b : A} {k : Bool} (I : Inv X pins σ w.H s) (rx : RelV x v) (ry : RelV y u)
    (hs : RelS X.K ad.cls w) (ra : RelA X.K w a x) (rb : RelA X.K w b y) (h : inO w.S a b = some k) (q : Q (.bl (if neg then !k else k)) w.H) :
    wpAny (model X.prog X.w) X.A (compareOp (if neg then .NotIn else .In) v u) (EP X pins σ Q) X.xe s := by
  have seq : ∀ {ys : List A} {p : Addr} {vs : List V}, y = .ref p → (SqL X.K w.H p vs ∨ SqT X.K w.H p vs) → RelAs X.K w ys vs →
      (if A.pures ys && a.pure && decide (min a.depth (A.depths ys) ≤ 63) then some (ys.any fun z => z.eqv a) else none) = some k →
      wpAny (model X.prog X.w) X.A (compareOp (if neg then .NotIn else .In) v u) (EP X pins σ Q) X.xe s := by
    intro ys p vs ey hp rs h
    split at h
    · rename_i hc
      simp only [Bool.and_eq_true, decide_eq_true_eq] at hc
      obtain ⟨⟨h1, h2⟩, h3⟩ := hc
      have hk := Option.some.inj h
      obtain ⟨d, c⟩ := dat_rel a x h2 ra
      obtain ⟨ds, cs⟩ := dats_rel ys vs h1 rs
      refine in_seq neg (d := a.dat) (ds := A.dats ys) hu I rx ry d ?_ c cs (by rw [depth_dat _ h2, depths_dat _ h1]; exact h3) (by rw [mem_any_dats ys a h1 h2, hk]; exact q)
      subst ey
      exact hp.imp (fun z => .lst z ds) (fun z => .tup z ds)
    · cases h
  unfold inO at h
  split at h
  · -- a sign in a text
    rename_i c yy e
    have hb : b = .str yy := by
      rcases der_rel hs rb with e' | ⟨n, xs, p, vs, rfl, e', _⟩
      · rw [e'] at e; exact e
      · rw [e'] at e; cases e
    subst hb
    obtain ⟨e1, _⟩ := relA_str ra
    obtain ⟨e2, _⟩ := relA_str rb
    subst e1 e2
    have hk := Option.some.inj h
    cases neg with
    | false => exact op_in_sign pins s σ w.H _ _ v u Q I rx ry ⟨c, mkS yy, rfl, rfl, by rw [mkS_cps]; rw [← hk] at q; exact q⟩
    | true => exact op_notIn_sign pins s σ w.H _ _ v u Q I rx ry ⟨c, mkS yy, rfl, rfl, by rw [mkS_cps]; rw [← hk] at q; exact q⟩
  · rename_i ys e
    have hb : b = .tup ys := by
      rcases der_rel hs rb with e' | ⟨n, xs, p, vs, rfl, e', _⟩
      · rw [e'] at e; exact e
      · rw [e'] at e; cases e
    subst hb
    obtain ⟨p, vs, ey, hp, rs⟩ := relA_tup rb
    exact seq ey (.inr hp.sq) rs h
  · rename_i ys e
    have hb : b = .ktup ys := by
      rcases der_rel hs rb with e' | ⟨n, xs, p, vs, rfl, e', _⟩
      · rw [e'] at e; exact e
      · rw [e'] at e; cases e
    subst hb
    obtain ⟨p, vs, ey, hp, rs⟩ := seqO_rel hs rb rfl
    exact seq ey hp rs h
  · rename_i ys e
    obtain ⟨p, vs, ey, hp, rs⟩ := der_rd hs rb e
    exact seq ey (.inl (.inl hp)) rs h
  · rename_i n e
    split at h
    · rename_i t kvs hS
      split at h
      · rename_i hk
        have hb : b = .ref n := by
          rcases der_rel hs rb with e' | ⟨n', xs, p, vs, rfl, e', _⟩
          · rw [e'] at e; exact e
          · rw [e'] at e; cases e
        subst hb
        have hd : dicO w.S (.ref n) = some (t, kvs) := by simp only [dicO, hS]
        obtain ⟨p, ey, _, g⟩ := dic_get hs rb ra hd hk
        subst ey
        obtain rfl : u = Value.ref p := ry
        have hk := Option.some.inj h
        have go : ∀ o : Option V, DGet w.H p x o → o.isSome = k → wpAny (model X.prog X.w) X.A (compareOp (if neg then .NotIn else .In) v (.ref p)) (EP X pins σ Q) X.xe s := by
          intro o g ho
          cases neg with
          | false => exact d_in (by omega) I g rx fun s3 I3 => ⟨.bl o.isSome, w.H, I3, rfl, by rw [ho]; exact q⟩
          | true => exact d_notIn (by omega) I g rx fun s3 I3 => ⟨.bl (!o.isSome), w.H, I3, rfl, by rw [ho]; exact q⟩
        rcases g with ⟨e1, g⟩ | ⟨x', y', e1, g, _⟩
        · exact go _ g (by rw [← hk, e1]; rfl)
        · exact go _ g (by rw [← hk, e1]; rfl)
      · cases h
    · cases h
  · cases h
theorem opr_cmp (op : CmpOp) (hu : X.A.units + 66 < cLine) : OpR X (compareOp op) (rCmp X.K ad op) := by
  intro pins s σ H x y v u Q I rx ry h
  obtain ⟨w, a, b, k, rfl, hs, ra, rb, hk, q⟩ := h
  cases op with
  | Eq =>
    simp only [cmpO] at hk
    obtain ⟨d, e, h1, h2, h3, h4, h5, h6⟩ := eqO_rel hs ra rb hk
    exact op_eqM (by omega) pins s σ _ _ _ v u Q I rx ry ⟨d, e, h1, h2, h3, h4, h5, by rw [h6]; exact q⟩
  | NotEq =>
    simp only [cmpO] at hk
    obtain ⟨k', hk', e'⟩ := Option.map_eq_some_iff.mp hk
    obtain ⟨d, e, h1, h2, h3, h4, h5, h6⟩ := eqO_rel hs ra rb hk'
    exact op_neM (by omega) pins s σ _ _ _ v u Q I rx ry ⟨d, e, h1, h2, h3, h4, h5, by rw [h6, e']; exact q⟩
  | In =>
    simp only [cmpO] at hk
    exact opr_in (ad := ad) false hu I rx ry hs ra rb hk q
  | NotIn =>
    simp only [cmpO] at hk
    obtain ⟨k', hk', e'⟩ := Option.map_eq_some_iff.mp hk
    exact opr_in (ad := ad) true hu I rx ry hs ra rb hk' (by rw [if_pos rfl, e']; exact q)
  | Is =>
    simp only [cmpO] at hk
    cases b <;> simp only at hk <;> first | (cases hk; done) | skip
    cases relA_non rb
    refine op_isN pins s σ _ _ _ v u Q I rx ry ⟨rfl, ?_⟩
    have e : decide (x = V.non) = k := by
      cases a <;> simp only [Option.some.injEq] at hk <;> subst hk
      · cases relA_non ra; rfl
      · cases relA_bl ra; rfl
      · cases relA_int ra; rfl
      · obtain ⟨e, _⟩ := relA_str ra; subst e; rfl
      · obtain ⟨_, _, e⟩ := relA_ref ra; subst e; rfl
      · obtain ⟨_, _, e, _⟩ := relA_tup ra; subst e; rfl
      · obtain ⟨_, _, e, _⟩ := relA_lst ra; subst e; rfl
      · simp only [RelA] at ra; obtain ⟨_, _, e, _⟩ := ra; subst e; rfl
      · simp only [RelA] at ra; obtain ⟨_, _, e, _⟩ := ra; subst e; rfl
    rw [e]; exact q
  | IsNot =>
    simp only [cmpO] at hk
    cases b <;> simp only at hk <;> first | (cases hk; done) | skip
    cases relA_non rb
    refine op_notN pins s σ _ _ _ v u Q I rx ry ⟨rfl, ?_⟩
    have e : (!decide (x = V.non)) = k := by
      cases a <;> simp only [Option.some.injEq] at hk <;> subst hk
      · cases relA_non ra; rfl
      · cases relA_bl ra; rfl
      · cases relA_int ra; rfl
      · obtain ⟨e, _⟩ := relA_str ra; subst e; rfl
      · obtain ⟨_, _, e⟩ := relA_ref ra; subst e; rfl
      · obtain ⟨_, _, e, _⟩ := relA_tup ra; subst e; rfl
      · obtain ⟨_, _, e, _⟩ := relA_lst ra; subst e; rfl
      · simp only [RelA] at ra; obtain ⟨_, _, e, _⟩ := ra; subst e; rfl
      · simp only [RelA] at ra; obtain ⟨_, _, e, _⟩ := ra; subst e; rfl
    rw [e]; exact q
  | Lt =>
    simp only [cmpO] at hk
    split at hk
    · cases relA_int ra; cases relA_int rb
      have e := Option.some.inj hk; subst e; exact op_lt pins s σ _ _ _ v u Q I rx ry ⟨_, _, rfl, rfl, q⟩
    · cases hk
  | LtE =>
    simp only [cmpO] at hk
    split at hk
    · cases relA_int ra; cases relA_int rb
      have e := Option.some.inj hk; subst e; exact op_le pins s σ _ _ _ v u Q I rx ry ⟨_, _, rfl, rfl, q⟩
    · cases hk
  | Gt =>
    simp only [cmpO] at hk
    split at hk
    · cases relA_int ra; cases relA_int rb
      have e := Option.some.inj hk; subst e; exact op_gt pins s σ _ _ _ v u Q I rx ry ⟨_, _, rfl, rfl, q⟩
    · cases hk
  | GtE =>
    simp only [cmpO] at hk
    split at hk
    · cases relA_int ra; cases relA_int rb
      have e := Option.some.inj hk; subst e; exact op_ge pins s σ _ _ _ v u Q I rx ry ⟨_, _, rfl, rfl, q⟩
    · cases hk

/-! ### subscripts -/
theorem atI_rel {K : PySem.W.Frag} {w : Wd} {xs : List A} {vs : List V} (r : RelAs K w xs vs) {i : Int} {a : A} (h : atI xs i = some a) : ∃ v, atI vs i = some v ∧ RelA K w a v := by
  unfold atI at h ⊢
  rw [← r.length]
  cases e : ixN xs.length i with
  | none => rw [e] at h; cases h
  | some j =>
    rw [e] at h
    exact r.get h
def rIdx (K : PySem.W.Frag) (ad : Ad) : R2 := fun x y H Q => ∃ w a b c, w.H = H ∧ RelS K ad.cls w ∧ RelA K w a x ∧ RelA K w b y ∧ idxO w.S a b = some c ∧ ∀ v, RelA K w c v → Q v H
theorem ixr_idx (hu : X.A.units + 66 < cLine) : IxR X (rIdx X.K ad) := by
  intro value slice pins s σ H x y v u Q I rx ry h hs'
  obtain ⟨w, a, b, c, rfl, hs, ra, rb, hc, q⟩ := h
  unfold idxO at hc
  split at hc
  · rename_i xx i
    obtain ⟨e, o⟩ := relA_str ra
    subst e
    cases relA_int rb
    obtain ⟨cc, e1, e2⟩ := Option.map_eq_some_iff.mp hc
    subst e2
    refine ix_str value slice pins s σ _ _ _ v u Q I rx ry ⟨mkS xx, i, cc, rfl, rfl, by rw [mkS_length]; exact o.1, by rw [mkS_cps]; exact e1, ?_⟩ hs'
    refine q _ (str_rel (x := [cc]) ⟨?_, fun c hc => ?_⟩)
    · have := o.1
      cases xx with
      | nil => simp [atI, ixN] at e1
      | cons _ _ => simp at this ⊢; omega
    · have : c = cc := by simpa using hc
      subst this
      unfold atI at e1
      cases e3 : ixN xx.length i with
      | none => rw [e3] at e1; cases e1
      | some j => rw [e3] at e1; exact o.2 _ (List.mem_of_getElem? e1)
  · split at hc
    · rename_i xs i hseq _
      cases relA_int rb
      obtain ⟨p, vs, ex, hp, rs⟩ := seqO_rel hs ra hseq
      subst ex
      obtain ⟨vv, e1, r1⟩ := atI_rel rs hc
      rcases hp with hp | hp
      · exact ix_list value slice pins s σ _ _ _ v u Q I rx ry ⟨p, vs, i, vv, rfl, rfl, hp, e1, q _ r1⟩ hs'
      · exact ix_tup value slice pins s σ _ _ _ v u Q I rx ry ⟨p, vs, i, vv, rfl, rfl, hp, e1, q _ r1⟩ hs'
    · split at hc
      · rename_i t kvs hd
        split at hc
        · rename_i hk
          obtain ⟨p, ex, _, g⟩ := dic_get hs ra rb hd hk
          subst ex
          rcases g with ⟨e1, g⟩ | ⟨x', y', e1, g, r⟩
          · rw [e1] at hc; cases hc
          · rw [e1] at hc; cases hc
            obtain rfl : v = Value.ref p := rx
            exact PyProof.Rows.tail_any (dict_typeIs I g) PySem.F.slot_dict_getitem.lookup (d_getItem (by omega) I g ry fun w' s3 I3 rw' => ⟨y', w.H, I3, rw', q _ r⟩) hs'
        · cases hc
      · cases hc
end
end Lt
/-! truth, built-in functions, isinstance, what a loop walks -/
namespace Lt
open PySem L2
theorem relA_scr {K : PySem.W.Frag} {w : Wd} {xs : List A} {v : V} (r : RelA K w (.scr xs) v) : ∃ a vs, v = .ref a ∧ (VL w a vs ∨ KL K a vs) ∧ RelAs K w xs vs := by simpa only [RelA] using r
theorem relA_ktup {K : PySem.W.Frag} {w : Wd} {xs : List A} {v : V} (r : RelA K w (.ktup xs) v) : ∃ a vs, v = .ref a ∧ KT K a vs ∧ RelAs K w xs vs := by simpa only [RelA] using r
theorem RelAs.isEmpty {K : PySem.W.Frag} {w : Wd} {xs : List A} {vs : List V} (h : RelAs K w xs vs) : xs.isEmpty = vs.isEmpty := by
  have := h.length
  cases xs <;> cases vs <;> simp_all
theorem tru_rel {K : PySem.W.Frag} {cls : Nat → Addr} {w : Wd} (s : RelS K cls w) {a : A} {v : V} (r : RelA K w a v) {k : Bool} (h : truO w.S a = some k) : TruV K v w.H k := by
  cases a with
  | non => cases relA_non r; cases h; rfl
  | bl b => cases relA_bl r; cases h; rfl
  | int i => cases relA_int r; cases h; rfl
  | str x =>
    obtain ⟨e, o⟩ := relA_str r
    subst e; cases h
    refine ⟨by rw [mkS_length]; exact o.1, ?_⟩
    rw [mkS_length]
    cases x with
    | nil => rfl
    | cons a l =>
      show true = _
      have : ((l.length + 1 : Nat) : Int) ≠ 0 := by omega
      simpa using this
  | tup xs =>
    obtain ⟨p, vs, e, hp, rs⟩ := relA_tup r
    subst e; cases h
    exact .inr (.inl ⟨vs, hp.sq, by rw [rs.isEmpty]⟩)
  | lst xs =>
    obtain ⟨p, vs, e, hp, rs⟩ := relA_lst r
    subst e; cases h
    exact .inl ⟨vs, hp.sq, by rw [rs.isEmpty]⟩
  | scr xs =>
    obtain ⟨p, vs, e, hp, rs⟩ := relA_scr r
    subst e; cases h
    exact .inl ⟨vs, hp.elim (fun z => z.sq) (fun z => .inr z), by rw [rs.isEmpty]⟩
  | ktup xs =>
    obtain ⟨p, vs, e, hp, rs⟩ := relA_ktup r
    subst e; cases h
    exact .inr (.inl ⟨vs, .inr hp, by rw [rs.isEmpty]⟩)
  | ref n =>
    obtain ⟨p, e, rfl⟩ := relA_ref r
    simp only [truO] at h
    split at h
    · rename_i xs hS
      cases h
      obtain ⟨vs, q, rs⟩ := s.obj n p _ e hS
      exact .inl ⟨vs, SqL.of q, by rw [rs.isEmpty]⟩
    · rename_i kvs hS
      cases h
      obtain ⟨ws, q, rs⟩ := s.obj n p _ e hS
      have hl := rs.length
      refine .inr (.inr ⟨ws, q, ?_⟩)
      cases kvs <;> cases ws <;> simp_all
    · cases h

/-! ### built-in functions -/
theorem lstO_rel {K : PySem.W.Frag} {cls : Nat → Addr} {w : Wd} (s : RelS K cls w) {a : A} {v : V} (r : RelA K w a v) {xs : List A} (e : lstO w.S a = some xs) : ∃ p vs, v = .ref p ∧ SqL K w.H p vs ∧ RelAs K w xs vs := by
  unfold lstO at e
  split at e
  · rename_i ys h
    cases e
    obtain ⟨p, vs, e1, h1, rs⟩ := der_rd s r h
    exact ⟨p, vs, e1, .inl h1, rs⟩
  · rename_i ys h
    cases e
    have ha : a = .scr xs := by
      rcases der_rel s r with e' | ⟨n, ys, p, vs, rfl, e', _⟩
      · rw [e'] at h; exact h
      · rw [e'] at h; cases h
    subst ha
    obtain ⟨p, vs, e, hp, rs⟩ := relA_scr r
    exact ⟨p, vs, e, hp.elim (fun z => z.sq) (fun z => .inr z), rs⟩
  · cases e
theorem bools_rel {K : PySem.W.Frag} {w : Wd} : ∀ {xs : List A} {vs : List V} {bs : List Bool}, RelAs K w xs vs → boolsO xs = some bs → vs = bs.map V.bl
  | [], vs, bs, r, e => by simp only [RelAs] at r; subst r; cases e; rfl
  | x :: xs, vs, bs, r, e => by
    simp only [RelAs] at r
    obtain ⟨v, rr, rfl, h1, h2⟩ := r
    cases x <;> simp only [boolsO] at e <;> first | (cases e; done) | skip
    obtain ⟨cs, e1, e2⟩ := Option.map_eq_some_iff.mp e
    subst e2
    cases relA_bl h1
    rw [bools_rel h2 e1]; rfl
theorem ints_rel {K : PySem.W.Frag} {w : Wd} : ∀ {xs : List A} {vs : List V} {bs : List Int}, RelAs K w xs vs → intsO xs = some bs → vs = bs.map V.int
  | [], vs, bs, r, e => by simp only [RelAs] at r; subst r; cases e; rfl
  | x :: xs, vs, bs, r, e => by
    simp only [RelAs] at r
    obtain ⟨v, rr, rfl, h1, h2⟩ := r
    cases x <;> simp only [intsO] at e <;> first | (cases e; done) | skip
    obtain ⟨cs, e1, e2⟩ := Option.map_eq_some_iff.mp e
    subst e2
    cases relA_int h1
    rw [ints_rel h2 e1]; rfl
theorem strs_rel {K : PySem.W.Frag} {w : Wd} : ∀ {xs : List A} {vs : List V} {bs : List (List Nat)}, RelAs K w xs vs → strsO xs = some bs → vs = bs.map (fun x => V.str (mkS x)) ∧ ∀ b ∈ bs, okS b
  | [], vs, bs, r, e => by simp only [RelAs] at r; subst r; cases e; exact ⟨rfl, fun b h => by cases h⟩
  | x :: xs, vs, bs, r, e => by
    simp only [RelAs] at r
    obtain ⟨v, rr, rfl, h1, h2⟩ := r
    cases x <;> simp only [strsO] at e <;> first | (cases e; done) | skip
    obtain ⟨cs, e1, e2⟩ := Option.map_eq_some_iff.mp e
    subst e2
    obtain ⟨ev, o⟩ := relA_str h1
    subst ev
    obtain ⟨e3, o3⟩ := strs_rel h2 e1
    exact ⟨by rw [e3]; rfl, fun b h => by
      rcases List.mem_cons.mp h with rfl | h
      · exact o
      · exact o3 b h⟩
theorem one_of {K : PySem.W.Frag} {w : Wd} {a : A} {vs : List V} (r : RelAs K w [a] vs) : ∃ v, vs = [v] ∧ RelA K w a v := by
  simp only [RelAs] at r
  obtain ⟨v, _, rfl, h, rfl⟩ := r
  exact ⟨v, rfl, h⟩
theorem two_of {K : PySem.W.Frag} {w : Wd} {a b : A} {vs : List V} (r : RelAs K w [a, b] vs) : ∃ v u, vs = [v, u] ∧ RelA K w a v ∧ RelA K w b u := by
  simp only [RelAs] at r
  obtain ⟨v, _, rfl, h, u, _, rfl, h2, rfl⟩ := r
  exact ⟨v, u, rfl, h, h2⟩

/-- the object that the name gives -/
def biV : Bi → Value
  | .len => .builtin "len" | .all => .builtin "all" | .any => .builtin "any" | .sum => .builtin "sum" | .max => .builtin "max" | .min => .builtin "min" | .abs => .builtin "abs"
  | .int => .type "int" | .bool => .type "bool" | .list _ => .type "list" | .tuple => .type "tuple" | .str => .type "str" | .dict _ => .type "dict" | .repr => .builtin "repr" | .sorted _ => .builtin "sorted" | .ord => .builtin "ord" | .chr => .builtin "chr"
def rBi (K : PySem.W.Frag) (ad : Ad) (G : Gt) (b : Bi) : List V → Hp → VK → Prop := fun vs H Q => ∃ E w as, w.H = H ∧ RelS K ad.cls w ∧ RelAs K w as vs ∧ okR K ad G Q E w (biO b as w.S)
section
variable {X : Cx} {ad : Ad} {G : Gt}
theorem sgn_items {x : List Nat} {acc : Array Value} (h : ItemsOf (SignAt (mkS x)) acc (mkS x).cps.size) : Vals (x.map fun c => V.str (mkS [c])) acc.toList := by
  refine L2.vals_of_at ?_ fun j v u h1 h2 => ?_
  · have e := h.1
    have e2 : acc.toList.length = acc.size := by simp
    rw [List.length_map, e2, e]
    simp [mkS]
  · obtain ⟨c, t, e1, e2⟩ := h.2 j u (by rw [← Array.getElem?_toList]; exact h2)
    have e3 : x[j]? = some c := by
      rw [← Array.getElem?_toList, mkS_cps] at e1
      exact e1
    rw [List.getElem?_map, e3] at h1
    cases h1
    exact ⟨t, e2⟩
theorem call_list_S (hc : X.calm = true) : CallR X (.type "list") (fun vs H Q => ∃ x : List Nat, vs = [.str (mkS x)] ∧ x.length ≤ sizeLine ∧ ∀ l, H l = none → Q (.ref l) (upd H l (.lst (x.map fun c => V.str (mkS [c]))))) := by
  intro pins s σ H vs us Q I r h
  obtain ⟨x, rfl, hz, q⟩ := h
  cases r with
  | cons r rr =>
    cases rr
    obtain ⟨t, rfl⟩ := r
    have hz' : (mkS x).cps.size ≤ sizeLine := by simpa [mkS] using hz
    refine call_list_str (I.ok.hd hc) (mkS x) t (fun h' tk acc c kp e hi => ?_) hz'
    exact ⟨.ref s.heap.objs.size, _, I.laid (t' := tk) kp (Nat.le_refl _) (show ObjOk X.prog X.w _ h' _ (.lst (x.map fun c => V.str (mkS [c]))) from ⟨by rw [List.length_map]; exact hz, acc.toList, c, sgn_items hi, e⟩), rfl, q _ (I.hok.fresh (Nat.le_refl _))⟩
theorem sgn_rel {K : PySem.W.Frag} {w : Wd} {x : List Nat} (o : okS x) : RelAs K w (x.map fun c => A.str [c]) (x.map fun c => V.str (mkS [c])) := by
  have one : ∀ c ∈ x, okS [c] := fun c hc => ⟨by show 1 ≤ sizeLine; decide, fun d hd => by
    have : d = c := by simpa using hd
    subst this
    exact o.2 d hc⟩
  clear o
  induction x with
  | nil => exact RelAs.nil
  | cons a l ih => exact RelAs.cons (str_rel (one a List.mem_cons_self)) (ih fun c hc => one c (List.mem_cons_of_mem _ hc))
end
end Lt
/-! sorted: ints; (int, text) pairs whose ints tell them apart -/
namespace Lt
open PySem L2
theorem insI_perm (x : Int) : ∀ l : List Int, (insI x l).Perm (x :: l)
  | [] => List.Perm.refl _
  | y :: r => by
    unfold insI
    split
    · exact List.Perm.refl _
    · exact ((insI_perm x r).cons y).trans (List.Perm.swap x y r)
theorem srtI_perm : ∀ l : List Int, (srtI l).Perm l
  | [] => List.Perm.refl _
  | x :: r => (insI_perm x (srtI r)).trans ((srtI_perm r).cons x)
theorem insI_srt (x : Int) : ∀ l : List Int, l.Pairwise (· ≤ ·) → (insI x l).Pairwise (· ≤ ·)
  | [], _ => by simp [insI]
  | y :: r, h => by
    obtain ⟨h1, h2⟩ := List.pairwise_cons.mp h
    unfold insI
    split
    · rename_i hxy
      exact List.pairwise_cons.mpr ⟨fun z hz => by
        rcases List.mem_cons.mp hz with rfl | hz
        · exact hxy
        · exact Int.le_trans hxy (h1 z hz), h⟩
    · rename_i hxy
      refine List.pairwise_cons.mpr ⟨fun z hz => ?_, insI_srt x r h2⟩
      rcases List.mem_cons.mp ((insI_perm x r).mem_iff.mp hz) with rfl | hz
      · omega
      · exact h1 z hz
theorem srtI_srt : ∀ l : List Int, (srtI l).Pairwise (· ≤ ·)
  | [] => List.Pairwise.nil
  | x :: r => insI_srt x _ (srtI_srt r)
theorem srt_uniq : ∀ {l m : List Int}, l.Pairwise (· ≤ ·) → m.Pairwise (· ≤ ·) → l.Perm m → l = m
  | [], m, _, _, h => (List.Perm.eq_nil h.symm).symm
  | x :: l, [], _, _, h => absurd h.length_eq (by simp)
  | x :: l, y :: m, hl, hm, h => by
    obtain ⟨h1, h2⟩ := List.pairwise_cons.mp hl
    obtain ⟨h3, h4⟩ := List.pairwise_cons.mp hm
    have e : x = y := by
      have a : y ≤ x := by
        rcases List.mem_cons.mp (h.mem_iff.mp (List.mem_cons_self (a := x) (l := l))) with e | hx
        · omega
        · exact h3 x hx
      have b : x ≤ y := by
        rcases List.mem_cons.mp (h.mem_iff.mpr (List.mem_cons_self (a := y) (l := m))) with e | hy
        · omega
        · exact h1 y hy
      omega
    subst e
    rw [srt_uniq h2 h4 h.cons_inv]
theorem srtI_eq {l m : List Int} (h1 : l.Perm m) (h2 : l.Pairwise (· ≤ ·)) : l = srtI m := srt_uniq h2 (srtI_srt m) (h1.trans (srtI_perm m).symm)

/-! ### pairs of an int and a text -/
section
open PyProof.Rows Srt
variable {prog : Program} {w : World} {A : Around} {E : Value → Shared → Prop} {s : Shared}
def IsPS (h : Heap) (v : Value) (x : Int) (y : Str) : Prop := ∃ a o t u n, v = .ref a ∧ h.get? a = some o ∧ o.cls = .type "tuple" ∧ o.data = .seq #[.int x t, .str y u] n
theorem IsPS.keeps {h h' : Heap} {v : Value} {x : Int} {y : Str} (p : IsPS h v x y) (k : ∀ b o, h.get? b = some o → o.cls = .type "tuple" → h'.get? b = some o) : IsPS h' v x y := by
  obtain ⟨a, o, t, u, n, e, ho, hc, hd⟩ := p
  exact ⟨a, o, t, u, n, e, k _ _ ho hc, hc, hd⟩
theorem ps_cmp {vs : List Value} {k : Value → Int} {g : Value → Str} (hp : ∀ v ∈ vs, IsPS s.heap v (k v) (g v)) (inj : ∀ v ∈ vs, ∀ u ∈ vs, k v = k u → g v = g u) :
    SrtO.Cmp prog w A s (tuples' true) (fun p => p.1 ∈ vs) (SrtO.lt2 fun v u => decide (k v < k u)) := by
  intro p q hm hm'
  have h1 := hp _ hm
  have h2 := hp _ hm'
  have hi := inj _ hm _ hm'
  show wpAny (model prog w) A (keyLt' (tuples' true) p.1 q.1) (fun r s' => s' = s ∧ r = decide (k p.1 < k q.1)) (fun _ _ => False) s
  generalize k p.1 = x at h1 hi ⊢
  generalize k q.1 = x' at h2 hi ⊢
  generalize g p.1 = y at h1 hi
  generalize g q.1 = y' at h2 hi
  obtain ⟨a, o, t, u, n, ep, ho, hc, hd⟩ := h1
  obtain ⟨a', o', t', u', n', eq', ho', hc', hd'⟩ := h2
  rw [ep, eq']
  refine PySem.W.kat_lt ho hd ho' hd' ?_
  show PySem.W.KatLex prog w A true (decide (2 < 2)) _ [(.int x t, .int x' t'), (.str y u, .str y' u')] 0 s
  refine PySem.W.kat_cons (SeqAt.EqAt.int_int x t x' t' prog w _ _ ?_)
  refine PySem.W.kat_go (fun e1 => ?_) (fun e1 => ?_)
  · have ex : x = x' := by simpa using e1
    have ey := hi ex
    refine PySem.W.kat_yes (PySem.W.kat_cons (SeqAt.EqAt.str_str y u y' u' prog w _ _ ?_))
    refine PySem.W.kat_go (fun e2 => ?_) (fun e2 => ?_)
    · have e3 : decide (x < x') = false := decide_eq_false (by omega)
      exact PySem.W.kat_yes (PySem.W.kat_nil ⟨rfl, e3.symm⟩)
    · rw [ey] at e2
      simp at e2
  · exact PySem.W.kat_no (oneLt_int ⟨rfl, rfl⟩)
theorem ps_firsts {h : Heap} {k : Value → Int} {g : Value → Str} : ∀ {vs : List Value}, (∀ v ∈ vs, IsPS h v (k v) (g v)) → ∃ fs : List Value, PySem.W.KatTups h vs fs ∧ fs.length = vs.length ∧ ∀ f ∈ fs, ∃ x t, f = Value.int x t
  | [], _ => ⟨[], PySem.W.KatTups.nil, rfl, fun _ hm => by simp at hm⟩
  | v :: vs, hp => by
    obtain ⟨fs, h1, h2, h3⟩ := ps_firsts (vs := vs) fun v' hm => hp v' (List.mem_cons_of_mem _ hm)
    obtain ⟨a, o, t, u, n, e, ho, hc, hd⟩ := hp v List.mem_cons_self
    rw [e]
    refine ⟨.int (k v) t :: fs, PySem.W.KatTups.cons ho hc hd rfl h1, by simp [h2], fun f hm => ?_⟩
    rcases List.mem_cons.mp hm with rfl | hm
    · exact ⟨_, t, rfl⟩
    · exact h3 f hm
theorem ps_sortable {a : Addr} {vs : List Value} {k : Value → Int} {g : Value → Str} (h0 : 0 < vs.length) (hp : ∀ v ∈ vs, IsPS s.heap v (k v) (g v)) (inj : ∀ v ∈ vs, ∀ u ∈ vs, k v = k u → g v = g u) (ha : ∀ o, s.heap.get? a = some o → o.cls ≠ .type "tuple") :
    SrtO.SortableO prog w A s a vs fun v u => decide (k v < k u) := by
  intro h' keep
  have hp' : ∀ v ∈ vs, IsPS h' v (k v) (g v) := fun v hm => (hp v hm).keeps fun b o e c => keep b o (fun z => by subst z; exact ha o e c) e
  obtain ⟨fs, h1, h2, h3⟩ := ps_firsts hp'
  refine ⟨tuples' true, fun Q E hq => ?_, ps_cmp hp' inj⟩
  refine PySem.W.kat_kind (T := .type "int") h1 (by omega) (fun f hm => ?_) (by rfl) ?_
  · obtain ⟨x, t, rfl⟩ := h3 f hm
    exact PySem.W.Looks.now
  · have e : (Value.type "int" != Value.type "tuple") = true := by first | decide +kernel | rfl | decide
    rw [e]
    exact hq
theorem swo_int {α : Type} (k : α → Int) : SrtO.Swo fun v u => decide (k v < k u) := by
  refine ⟨fun x y h => ?_, fun x y z h1 h2 => ?_⟩
  · have := of_decide_eq_true h; exact decide_eq_false (by omega)
  · have := of_decide_eq_false h1
    have := of_decide_eq_false h2
    exact decide_eq_false (by omega)
end
/-- sorted(xs), xs a list of (int, text), the ints tell the items apart: a new list of the same items -/
def rSortPS (K : PySem.W.Frag) : List V → Hp → VK → Prop := fun vs H Q => ∃ (a : Addr) (xs : List V) (k : V → Int) (g : V → Str), vs = [V.ref a] ∧ SqL K H a xs ∧ (∀ x ∈ xs, ∃ t, x = V.ref t ∧ H t = some (.tup [.int (k x), .str (g x)])) ∧ (∀ v ∈ xs, ∀ u ∈ xs, k v = k u → g v = g u) ∧
  ∀ ys p, ys.Perm xs → ys.Pairwise (fun x y => k x ≤ k y) → H p = none → Q (.ref p) (upd H p (.lst ys))
theorem cr_sortPS {X : Cx} : CallR X (.builtin "sorted") (rSortPS X.K) := by
  intro pins s σ H vs us Q I r h
  obtain ⟨a, xs, k, g, rfl, hs, hx, inj, q⟩ := h
  obtain ⟨its, rv, hl, hz⟩ := I.list hs
  obtain ⟨u, rfl, ru⟩ := vals1 r
  obtain rfl : u = Value.ref a := ru
  obtain ⟨e1, e2⟩ := refs_back rv fun x m => by
    obtain ⟨t, e, _⟩ := hx x m
    exact ⟨t, e⟩
  have hps : ∀ v ∈ its, IsPS s.heap v (k (backV v)) (g (backV v)) := by
    intro v hv
    obtain ⟨t, rfl⟩ := e2 v hv
    have hm : V.ref t ∈ xs := by rw [e1]; exact List.mem_map.mpr ⟨_, hv, rfl⟩
    obtain ⟨t', e, ht⟩ := hx _ hm
    cases e
    obtain ⟨_, its2, r2, o, ho, hc, n, hd⟩ := I.hok _ _ ht
    obtain ⟨u1, u2, rfl, ri, rj⟩ := vals2 r2
    obtain ⟨t1, rfl⟩ := ri
    obtain ⟨t2, rfl⟩ := rj
    exact ⟨t, o, t1, t2, n, rfl, ho, hc, hd⟩
  have hin : ∀ v ∈ its, backV v ∈ xs := fun v hv => by rw [e1]; exact List.mem_map.mpr ⟨v, hv, rfl⟩
  refine SrtO.sorted_ord (swo_int fun v => k (backV v)) hl.isList (by rw [← rv.length]; exact hz) (fun h2 h₁ a' ha' kk => ?_) fun out h1 h2 => ?_
  · refine ps_sortable (s := { s with heap := h₁ }) (by omega) (fun v hm => (hps v hm).keeps fun b o e _ => (kk b o e).2) (fun v hv u hu => inj _ (hin v hv) _ (hin u hu)) fun o e => ?_
    have e' : some o = some (PyProof.Rows.seqObj "list" its.toArray 0) := e.symm.trans ha'
    cases e'
    intro c
    exact absurd (Value.type.inj c) (by decide)
  · have h3 : ∀ u ∈ out, ∃ a, u = Value.ref a := fun u hu => e2 u (h2.perm.mem_iff.mp hu)
    have hb : (out.map backV).Perm xs := by rw [e1]; exact h2.perm.map backV
    have hsrt : (out.map backV).Pairwise (fun x y => k x ≤ k y) := by
      rw [List.pairwise_map]
      exact h1.imp fun {x y} h => by have := of_decide_eq_false h; omega
    obtain ⟨n, hn⟩ := PyProof.Rows.sortedAll_at s.heap its out.toArray
    refine ⟨.ref (s.heap.objs.size + 1), upd H (s.heap.objs.size + 1) (.lst (out.map backV)), I.laid (t' := s.toks) (fun b o e => PyProof.Rows.sortedAll_old e) (Nat.le_succ _) ⟨?_, out, n, vals_back h3, hn⟩, rfl, q _ _ hb hsrt (I.hok.fresh (Nat.le_succ _))⟩
    rw [hb.length_eq]; exact hz

/-! ### by the values -/
def insV (k : V → Int) (x : V) : List V → List V
  | [] => [x]
  | y :: r => if k x ≤ k y then x :: y :: r else y :: insV k x r
def srtV (k : V → Int) : List V → List V
  | [] => []
  | x :: r => insV k x (srtV k r)
theorem insV_perm (k : V → Int) (x : V) : ∀ l : List V, (insV k x l).Perm (x :: l)
  | [] => List.Perm.refl _
  | y :: r => by
    unfold insV
    split
    · exact List.Perm.refl _
    · exact ((insV_perm k x r).cons y).trans (List.Perm.swap x y r)
theorem srtV_perm (k : V → Int) : ∀ l : List V, (srtV k l).Perm l
  | [] => List.Perm.refl _
  | x :: r => (insV_perm k x (srtV k r)).trans ((srtV_perm k r).cons x)
theorem insV_srt (k : V → Int) (x : V) : ∀ l : List V, l.Pairwise (fun x y => k x ≤ k y) → (insV k x l).Pairwise (fun x y => k x ≤ k y)
  | [], _ => by simp [insV]
  | y :: r, h => by
    obtain ⟨h1, h2⟩ := List.pairwise_cons.mp h
    unfold insV
    split
    · rename_i hxy
      exact List.pairwise_cons.mpr ⟨fun z hz => by
        rcases List.mem_cons.mp hz with rfl | hz
        · exact hxy
        · exact Int.le_trans hxy (h1 z hz), h⟩
    · rename_i hxy
      refine List.pairwise_cons.mpr ⟨fun z hz => ?_, insV_srt k x r h2⟩
      rcases List.mem_cons.mp ((insV_perm k x r).mem_iff.mp hz) with rfl | hz
      · omega
      · exact h1 z hz
theorem srtV_srt (k : V → Int) : ∀ l : List V, (srtV k l).Pairwise (fun x y => k x ≤ k y)
  | [] => List.Pairwise.nil
  | x :: r => insV_srt k x _ (srtV_srt k r)
theorem uniqV {k : V → Int} : ∀ {l m : List V}, (∀ x ∈ l, ∀ y ∈ l, k x = k y → x = y) → l.Pairwise (fun x y => k x ≤ k y) → m.Pairwise (fun x y => k x ≤ k y) → l.Perm m → l = m
  | [], m, _, _, _, h => (List.Perm.eq_nil h.symm).symm
  | x :: l, [], _, _, _, h => absurd h.length_eq (by simp)
  | x :: l, y :: m, hi, hl, hm, h => by
    obtain ⟨h1, h2⟩ := List.pairwise_cons.mp hl
    obtain ⟨h3, h4⟩ := List.pairwise_cons.mp hm
    have hy' : y ∈ x :: l := h.mem_iff.mpr List.mem_cons_self
    have e : x = y := by
      refine hi x List.mem_cons_self y hy' ?_
      have a : k y ≤ k x := by
        rcases List.mem_cons.mp (h.mem_iff.mp (List.mem_cons_self (a := x) (l := l))) with e | hx
        · rw [e]; exact Int.le_refl _
        · exact h3 x hx
      have b : k x ≤ k y := by
        rcases List.mem_cons.mp hy' with e | hy
        · rw [e]; exact Int.le_refl _
        · exact h1 y hy
      omega
    subst e
    rw [uniqV (fun a ha b hb => hi a (List.mem_cons_of_mem _ ha) b (List.mem_cons_of_mem _ hb)) h2 h4 h.cons_inv]
theorem ins_rel {K : PySem.W.Frag} {w : Wd} {k : V → Int} {x : A} {v : V} (r : RelA K w x v) (hx : keyI x = k v) : ∀ {xs : List A} {vs : List V}, Paired (fun x v => RelA K w x v ∧ keyI x = k v) xs vs → Paired (fun x v => RelA K w x v ∧ keyI x = k v) (insP x xs) (insV k v vs)
  | _, _, .nil => .cons ⟨r, hx⟩ .nil
  | y :: xs, u :: vs, .cons h t => by
    have ih := ins_rel r hx t
    unfold insP insV
    rw [hx, h.2]
    split
    · exact .cons ⟨r, hx⟩ (.cons h t)
    · exact .cons h ih
theorem srt_rel {K : PySem.W.Frag} {w : Wd} {k : V → Int} : ∀ {xs : List A} {vs : List V}, Paired (fun x v => RelA K w x v ∧ keyI x = k v) xs vs → Paired (fun x v => RelA K w x v ∧ keyI x = k v) (srtP xs) (srtV k vs)
  | _, _, .nil => .nil
  | x :: xs, v :: vs, .cons h t => ins_rel h.1 h.2 (srt_rel t)
/-- the int and the text that stand at an address -/
def psK (H : Hp) : V → Int
  | .ref t => match H t with
    | some (.tup [.int i, .str _]) => i
    | _ => 0
  | _ => 0
def psG (H : Hp) : V → Str
  | .ref t => match H t with
    | some (.tup [.int _, .str s]) => s
    | _ => default
  | _ => default
theorem ps_rel {K : PySem.W.Frag} {w : Wd} : ∀ {xs : List A} {vs : List V}, psO xs = true → RelAs K w xs vs → Paired (fun x v => (RelA K w x v ∧ keyI x = psK w.H v) ∧ ∃ t, v = V.ref t ∧ w.H t = some (.tup [.int (psK w.H v), .str (psG w.H v)])) xs vs
  | [], vs, _, r => by simp only [RelAs] at r; subst r; exact .nil
  | x :: xs, vs, h, r => by
    simp only [RelAs] at r
    obtain ⟨v, rr, rfl, r1, r2⟩ := r
    simp only [psO, List.all_cons, Bool.and_eq_true] at h
    refine .cons ?_ (ps_rel (by simp only [psO]; exact h.2) r2)
    have hx := h.1
    unfold isPS at hx
    split at hx
    · rename_i i s
      obtain ⟨a, us, rfl, hv, rs⟩ := relA_tup r1
      obtain ⟨u1, u2, rfl, q1, q2⟩ := two_of rs
      cases relA_int q1
      obtain ⟨rfl, _⟩ := relA_str q2
      have e : w.H a = some (.tup [.int i, .str (mkS s)]) := hv.1
      refine ⟨⟨r1, ?_⟩, a, rfl, ?_⟩
      · simp only [psK, e]; rfl
      · simp only [psK, psG, e]
    · cases hx
theorem paired_nodup {K : PySem.W.Frag} {w : Wd} {k : V → Int} : ∀ {xs : List A} {vs : List V}, Paired (fun x v => RelA K w x v ∧ keyI x = k v) xs vs → (xs.map keyI).Nodup → ∀ x ∈ vs, ∀ y ∈ vs, k x = k y → x = y
  | _, _, .nil, _, x, hx, _, _, _ => by cases hx
  | a :: xs, v :: vs, .cons h t, hn, x, hx, y, hy, e => by
    rw [List.map_cons, List.nodup_cons] at hn
    have mem : ∀ {xs : List A} {vs : List V}, Paired (fun x v => RelA K w x v ∧ keyI x = k v) xs vs → ∀ z ∈ vs, k z ∈ xs.map keyI := by
      intro xs vs h
      induction h with
      | nil => intro z hz; cases hz
      | cons h t ih =>
        intro z hz
        rcases List.mem_cons.mp hz with rfl | hz
        · rw [List.map_cons, h.2]; exact List.mem_cons_self
        · rw [List.map_cons]; exact List.mem_cons_of_mem _ (ih z hz)
    rcases List.mem_cons.mp hx with ex | hx' <;> rcases List.mem_cons.mp hy with ey | hy'
    · rw [ex, ey]
    · exact absurd (by rw [h.2, ← ex, e]; exact mem t y hy') hn.1
    · exact absurd (by rw [h.2, ← ey, ← e]; exact mem t x hx') hn.1
    · exact paired_nodup t hn.2 x hx' y hy' e
end Lt
/-! built-in functions: what each gives -/
namespace Lt
open PySem L2
section
variable {X : Cx} {ad : Ad} {G : Gt}
theorem ints_rels {K : PySem.W.Frag} {w : Wd} : ∀ ns : List Int, RelAs K w (ns.map A.int) (ns.map V.int)
  | [] => RelAs.nil
  | n :: ns => RelAs.cons int_rel (ints_rels ns)
theorem rel_size {K : PySem.W.Frag} {cls : Nat → Addr} {w : Wd} {xs : List A} {vs : List V} (r : RelAs K w xs vs) : xs.length = vs.length := r.length
theorem kV_rel {K : PySem.W.Frag} {w : Wd} {a : A} {k : Key} (e : keyOf a = some k) (o : okKey a) : RelA K w a (kV k) := by
  cases a <;> simp only [keyOf] at e <;> first | (cases e; done) | skip
  · cases e; exact int_rel
  · cases e; exact str_rel o
theorem fold_rel {K : PySem.W.Frag} {w : Wd} {more acc : List (A × A)} {mw ws : List (Key × V)} (hm : Paired (fun (p : A × A) (q : Key × V) => keyOf p.1 = some q.1 ∧ okKey p.1 ∧ RelA K w p.2 q.2) more mw)
    (h : Paired (fun (p : A × A) (q : Key × V) => keyOf p.1 = some q.1 ∧ okKey p.1 ∧ RelA K w p.2 q.2) acc ws) : Paired (fun (p : A × A) (q : Key × V) => keyOf p.1 = some q.1 ∧ okKey p.1 ∧ RelA K w p.2 q.2) (more.foldl (fun acc p => putO acc p.1 p.2) acc) (mergeK ws mw) := by
  induction hm generalizing acc ws with
  | nil => exact h
  | cons r t ih => exact ih (putO_put (f := keyOf) (fun h1 h2 => eqv_key h1 h2) r.1 r.2.1 r.2.2 h)
theorem pairs_rel {K : PySem.W.Frag} {w : Wd} : ∀ {xs : List A} {vs : List V} {kvs : List (A × A)}, RelAs K w xs vs → pairsO xs = some kvs →
    ∃ (as : List Addr) (kws : List (Key × V)), vs = as.map V.ref ∧ Paired (fun p (kv : Key × V) => SqT K w.H p [kV kv.1, kv.2]) as kws ∧ Paired (fun (p : A × A) (q : Key × V) => keyOf p.1 = some q.1 ∧ okKey p.1 ∧ RelA K w p.2 q.2) kvs kws
  | [], vs, kvs, r, e => by
    simp only [RelAs] at r
    subst r
    cases e
    exact ⟨[], [], rfl, .nil, .nil⟩
  | x :: xs, vs, kvs, r, e => by
    simp only [RelAs] at r
    obtain ⟨v, vs', rfl, r1, r2⟩ := r
    obtain ⟨zs, rfl⟩ : ∃ zs, x = .tup zs := by
      cases x with
      | tup zs => exact ⟨zs, rfl⟩
      | _ => simp [pairsO] at e
    rcases zs with _ | ⟨k, _ | ⟨y, _ | ⟨z, zs⟩⟩⟩ <;> simp only [pairsO] at e <;> first | (cases e; done) | skip
    split at e
    case isFalse => cases e
    rename_i hk
    obtain ⟨kvs', e2, rfl⟩ := Option.map_eq_some_iff.mp e
    obtain ⟨kk, ek⟩ := Option.isSome_iff_exists.mp hk
    obtain ⟨p, us, rfl, hp, rs⟩ := relA_tup r1
    simp only [RelAs] at rs
    obtain ⟨u1, _, rfl, q1, u2, _, rfl, q2, rfl⟩ := rs
    obtain ⟨as, kws, rfl, h1, h2⟩ := pairs_rel r2 e2
    have := keyOf_kV q1 ek
    subst this
    exact ⟨p :: as, (kk, u2) :: kws, rfl, .cons hp.sq h1, .cons ⟨ek, okKey_of q1, q2⟩ h2⟩
/-- what a built-in function gives -/
theorem callR_bi (hc : X.calm = true) : ∀ b : Bi, CallR X (biV b) (rBi X.K ad G b) := by
  intro b pins s σ H vs us Q I r h
  obtain ⟨E, w, as, rfl, hs, ra, ok⟩ := h
  unfold biO at ok
  split at ok
  · -- len
    rename_i a
    obtain ⟨v, rfl, r1⟩ := one_of ra
    obtain ⟨y, e, ok⟩ := ok.of
    obtain ⟨k, e1, rfl⟩ := Option.map_eq_some_iff.mp e
    refine call_len pins s σ _ _ _ Q I r ⟨v, k, rfl, ?_, ok.ret rfl hs int_rel⟩
    unfold lenO at e1
    split at e1
    · obtain ⟨e2, o⟩ := relA_str r1
      subst e2; cases e1
      exact ⟨by rw [mkS_length]; exact o.1, by rw [mkS_length]⟩
    · obtain ⟨xs, e2, rfl⟩ := Option.map_eq_some_iff.mp e1
      obtain ⟨p, vs, rfl, hp, rs⟩ := seqO_rel hs r1 e2
      rcases hp with hp | hp
      · exact .inl ⟨vs, hp, rs.length⟩
      · exact .inr ⟨vs, hp, rs.length⟩
  · -- all
    rename_i a
    obtain ⟨v, rfl, r1⟩ := one_of ra
    obtain ⟨y, e, ok⟩ := ok.of
    obtain ⟨n, e1, rfl⟩ := Option.map_eq_some_iff.mp e
    obtain ⟨xs, e2, e3⟩ := Option.bind_eq_some_iff.mp e1
    obtain ⟨p, vs, rfl, hp, rs⟩ := lstO_rel hs r1 e2
    exact cr_all hc pins s σ _ _ _ Q I r ⟨p, n, rfl, by rw [← bools_rel rs e3]; exact hp, ok.ret rfl hs bl_rel⟩
  · -- any
    rename_i a
    obtain ⟨v, rfl, r1⟩ := one_of ra
    obtain ⟨y, e, ok⟩ := ok.of
    obtain ⟨n, e1, rfl⟩ := Option.map_eq_some_iff.mp e
    obtain ⟨xs, e2, e3⟩ := Option.bind_eq_some_iff.mp e1
    obtain ⟨p, vs, rfl, hp, rs⟩ := lstO_rel hs r1 e2
    exact cr_any hc pins s σ _ _ _ Q I r ⟨p, n, rfl, by rw [← bools_rel rs e3]; exact hp, ok.ret rfl hs bl_rel⟩
  · -- sum
    rename_i a
    obtain ⟨v, rfl, r1⟩ := one_of ra
    obtain ⟨y, e, ok⟩ := ok.of
    obtain ⟨n, e1, rfl⟩ := Option.map_eq_some_iff.mp e
    obtain ⟨xs, e2, e3⟩ := Option.bind_eq_some_iff.mp e1
    obtain ⟨p, vs, rfl, hp, rs⟩ := lstO_rel hs r1 e2
    exact cr_sum hc pins s σ _ _ _ Q I r ⟨p, n, rfl, by rw [← ints_rel rs e3]; exact hp, ok.ret rfl hs int_rel⟩
  · -- max
    obtain ⟨v, u, rfl, r1, r2⟩ := two_of ra
    cases relA_int r1; cases relA_int r2
    exact call_max2 hc pins s σ _ _ _ Q I r ⟨_, _, rfl, ok.ret rfl hs int_rel⟩
  · -- min
    obtain ⟨v, u, rfl, r1, r2⟩ := two_of ra
    cases relA_int r1; cases relA_int r2
    exact call_min2 hc pins s σ _ _ _ Q I r ⟨_, _, rfl, ok.ret rfl hs int_rel⟩
  · -- abs
    obtain ⟨v, rfl, r1⟩ := one_of ra
    cases relA_int r1
    exact call_abs pins s σ _ _ _ Q I r ⟨_, rfl, ok.ret rfl hs int_rel⟩
  · -- int
    obtain ⟨v, rfl, r1⟩ := one_of ra
    cases relA_int r1
    exact call_int1 pins s σ _ _ _ Q I r (.inl ⟨_, rfl, ok.ret rfl hs int_rel⟩)
  · obtain ⟨v, rfl, r1⟩ := one_of ra
    cases relA_bl r1
    exact call_int1 pins s σ _ _ _ Q I r (.inr ⟨_, rfl, ok.ret rfl hs int_rel⟩)
  · -- bool
    obtain ⟨v, rfl, r1⟩ := one_of ra
    cases relA_int r1
    exact call_bool1 pins s σ _ _ _ Q I r (.inl ⟨_, rfl, ok.ret rfl hs bl_rel⟩)
  · obtain ⟨v, rfl, r1⟩ := one_of ra
    cases relA_bl r1
    exact call_bool1 pins s σ _ _ _ Q I r (.inr ⟨_, rfl, ok.ret rfl hs bl_rel⟩)
  · -- list of signs
    rename_i fl x
    obtain ⟨v, rfl, r1⟩ := one_of ra
    obtain ⟨e2, o⟩ := relA_str r1
    subst e2
    exact call_list_S hc pins s σ _ _ _ Q I r ⟨x, rfl, o.1, ok.mkL hs (sgn_rel o)⟩
  · -- list
    rename_i fl a _
    obtain ⟨v, rfl, r1⟩ := one_of ra
    split at ok
    · rename_i xs e
      obtain ⟨p, vs, rfl, hp, rs⟩ := seqO_rel hs r1 e
      exact call_list_of pins s σ _ _ _ Q I r ⟨p, vs, rfl, hp, ok.mkL hs rs⟩
    · split at ok
      · rename_i kvs e
        unfold dicO at e
        split at e
        · obtain ⟨p, e1, rfl⟩ := relA_ref r1
          split at e
          · rename_i t kvs' hS
            cases e
            obtain ⟨ws, q, rs⟩ := hs.obj _ p _ e1 hS
            refine call_list_dK hc pins s σ _ _ _ Q I r ⟨p, ws, rfl, q, ok.mkL hs ?_⟩
            clear ok hS q r ra
            induction rs with
            | nil => exact RelAs.nil
            | cons h t ih => exact RelAs.cons (kV_rel h.1 h.2.1) ih
          · cases e
        · cases e
      · exact ok.elim
  · -- sorted
    rename_i fl a
    obtain ⟨v, rfl, r1⟩ := one_of ra
    split at ok
    · rename_i xs e
      obtain ⟨p, vs, rfl, hp, rs⟩ := lstO_rel hs r1 e
      split at ok
      · rename_i ns e2
        have ev := ints_rel rs e2
        refine cr_sortedI pins s σ _ _ _ Q I r ⟨p, ns, rfl, by rw [← ev]; exact hp, fun ns' p' h1 h2 hf => ?_⟩
        rw [srtI_eq h1 h2]
        exact ok.mkL hs (ints_rels _) p' hf
      · rename_i hno
        clear hno
        split at ok
        · rename_i hc
          have hps := ps_rel hc.1 rs
          have hk : Paired (fun x v => RelA X.K w x v ∧ keyI x = psK w.H v) xs vs := Paired.mapP hps fun _ _ z => z.1
          have inj := paired_nodup hk hc.2
          have hat : ∀ x ∈ vs, ∃ t, x = V.ref t ∧ w.H t = some (.tup [.int (psK w.H x), .str (psG w.H x)]) := by
            clear ok hk inj e hp hc
            induction hps with
            | nil => intro x hx; cases hx
            | cons h t ih =>
              intro x hx
              rcases List.mem_cons.mp hx with rfl | hx
              · exact h.2
              · exact ih (by simp only [RelAs] at rs; obtain ⟨_, _, e, _, rs⟩ := rs; cases e; exact rs) x hx
          refine cr_sortPS pins s σ _ _ _ Q I r ⟨p, vs, psK w.H, psG w.H, rfl, hp, hat, fun x hx y hy e => by rw [inj x hx y hy e], fun ys p' h1 h2 hf => ?_⟩
          have e3 : ys = srtV (psK w.H) vs := uniqV (fun x hx y hy e => inj x (h1.mem_iff.mp hx) y (h1.mem_iff.mp hy) e) h2 (srtV_srt _ _) (h1.trans (srtV_perm _ _).symm)
          rw [e3]
          exact ok.mkL hs (RelAs.paired.mpr (Paired.mapP (srt_rel hk) fun _ _ z => z.1)) p' hf
        · exact ok.elim
    · split at ok
      · rename_i kvs e
        split at ok
        · rename_i ns e2
          split at ok
          · rename_i h64
            unfold dicO at e
            split at e
            · obtain ⟨p, e1, rfl⟩ := relA_ref r1
              split at e
              · rename_i t kvs' hS
                cases e
                obtain ⟨ws, q, rs⟩ := hs.obj _ p _ e1 hS
                have hkeys : ws.map (·.1) = ns.map Sum.inl := by
                  clear ok hS q r ra h64
                  induction rs generalizing ns with
                  | nil => cases e2; rfl
                  | @cons pp qq l1 l2 h t ih =>
                    rw [List.map_cons] at e2
                    obtain ⟨h1, _, _⟩ := h
                    cases hp1 : pp.1 <;> rw [hp1] at e2 h1 <;> simp only [intsO] at e2 <;> first | (cases e2; done) | skip
                    obtain ⟨ms, e3, rfl⟩ := Option.map_eq_some_iff.mp e2
                    simp only [keyOf, Option.some.injEq] at h1
                    rw [List.map_cons, List.map_cons, ih ms e3, ← h1]
                refine call_sortedDI hc pins s σ _ _ _ Q I r ⟨p, ws, ns, rfl, .inl q, hkeys, h64, fun ys p' h1 h2 hf => ?_⟩
                rw [srtI_eq h1 h2]
                exact ok.mkL hs (ints_rels _) p' hf
              · cases e
            · cases e
          · exact ok.elim
        · exact ok.elim
      · exact ok.elim
  · -- dict of pairs
    obtain ⟨v, rfl, r1⟩ := one_of ra
    split at ok
    · rename_i kvs e
      obtain ⟨ps, e2, e3⟩ := Option.bind_eq_some_iff.mp e
      obtain ⟨p, vs, rfl, hp, rs⟩ := lstO_rel hs r1 e2
      obtain ⟨as, kws, rfl, h1, h2⟩ := pairs_rel rs e3
      exact call_dictP hc pins s σ _ _ _ Q I r ⟨p, as, kws, rfl, hp, h1, ok.mkD hs (fold_rel h2 .nil)⟩
    · exact ok.elim
  · -- tuple
    obtain ⟨v, rfl, r1⟩ := one_of ra
    obtain ⟨p, vs, rfl, hp, rs⟩ := relA_tup r1
    exact call_tuple_of pins s σ _ _ _ Q I r ⟨p, vs, rfl, .inr ⟨hp.sq, ok.ret rfl hs r1⟩⟩
  · obtain ⟨v, rfl, r1⟩ := one_of ra
    obtain ⟨p, vs, rfl, hp, rs⟩ := relA_ktup r1
    exact call_tuple_of pins s σ _ _ _ Q I r ⟨p, vs, rfl, .inr ⟨.inr hp, ok.ret rfl hs r1⟩⟩
  · obtain ⟨v, rfl, r1⟩ := one_of ra
    split at ok
    · rename_i xs e
      obtain ⟨p, vs, rfl, hp, rs⟩ := lstO_rel hs r1 e
      exact call_tuple_of pins s σ _ _ _ Q I r ⟨p, vs, rfl, .inl ⟨hp, ok.mkT hs rs⟩⟩
    · exact ok.elim
  · exact ok.elim
end
end Lt
/-! slices; methods of built-in types -/
namespace Lt
open PySem L2
theorem okS.sub {x y : List Nat} (h : okS x) (l : y.length ≤ x.length) (m : ∀ c ∈ y, c ∈ x) : okS y := ⟨Nat.le_trans l h.1, fun c hc => h.2 c (m c hc)⟩
theorem cutA_len {α : Type} (xs : List α) (lo hi : Option Int) : (cutA xs lo hi).length ≤ xs.length := by
  unfold cutA
  rw [List.length_take, List.length_drop]; omega
theorem cutA_mem {α : Type} {xs : List α} {lo hi : Option Int} {c : α} (h : c ∈ cutA xs lo hi) : c ∈ xs := List.mem_of_mem_drop (List.mem_of_mem_take h)
theorem cut_rel {K : PySem.W.Frag} {w : Wd} {xs : List A} {vs : List V} (r : RelAs K w xs vs) (lo hi : Option Int) : RelAs K w (cutA xs lo hi) (cutV vs lo hi) := by
  unfold cutA cutV
  rw [r.length]
  exact (r.drop _).take _
theorem cutS_mk (x : List Nat) (lo hi : Option Int) : cutS (mkS x) lo hi = mkS (cutA x lo hi) := by
  unfold cutS
  rw [mkS_length, mkS_cps]; rfl
theorem cutA_all {α : Type} {xs : List α} {lo hi : Option Int} (h : HT.sIx xs.length 0 lo = 0 ∧ HT.sIx xs.length xs.length hi = xs.length) : cutA xs lo hi = xs := by
  unfold cutA
  rw [h.1, h.2]; simp
def rSl (K : PySem.W.Frag) (ad : Ad) (G : Gt) (fl : Bool) : V → Option Int → Option Int → Hp → VK → Prop := fun x lo hi H Q => ∃ E w a, w.H = H ∧ RelS K ad.cls w ∧ RelA K w a x ∧ okR K ad G Q E w (slO fl a lo hi w.S)
section
variable {X : Cx} {ad : Ad} {G : Gt}
theorem slr_o (fl : Bool) : SlR X (rSl X.K ad G fl) := by
  intro pins s σ H x v vl vu lo hi sl Q I rx hs pl pu h
  obtain ⟨E, w, a, rfl, s', ra, ok⟩ := h
  unfold slO at ok
  split at ok
  · rename_i x e
    have ha : a = .str x := by
      rcases der_rel s' ra with e' | ⟨n, ys, p, vs, rfl, e', _⟩
      · rw [e'] at e; exact e
      · rw [e'] at e; cases e
    subst ha
    obtain ⟨rfl, o⟩ := relA_str ra
    exact sl_str pins s σ _ _ _ vl vu lo hi sl Q I rx hs pl pu ⟨mkS x, rfl, by rw [mkS_length]; exact o.1, by rw [cutS_mk]; exact ok.ret rfl s' (str_rel (o.sub (cutA_len _ _ _) fun c hc => cutA_mem hc))⟩
  · rename_i xs e
    have ha : a = .tup xs := by
      rcases der_rel s' ra with e' | ⟨n, ys, p, vs, rfl, e', _⟩
      · rw [e'] at e; exact e
      · rw [e'] at e; cases e
    subst ha
    obtain ⟨p, vs, rfl, hp, rs⟩ := relA_tup ra
    refine sl_tupA pins s σ _ _ _ vl vu lo hi sl Q I rx hs pl pu ⟨p, vs, rfl, hp.sq, fun hw => ?_, fun hw => ?_⟩
    · rw [← rs.length] at hw
      rw [cutA_all hw] at ok
      exact ok.ret rfl s' ra
    · exact ok.mkT s' (cut_rel rs lo hi)
  · rename_i xs e
    obtain ⟨p, vs, rfl, hp, rs⟩ := der_rd s' ra e
    exact sl_list pins s σ _ _ _ vl vu lo hi sl Q I rx hs pl pu ⟨p, vs, rfl, .inl hp, ok.mkL s' (cut_rel rs lo hi)⟩
  · exact ok.elim
/-! ### methods -/
def bmT : Bm → String
  | .join => "str" | .get => "dict" | .update => "dict" | _ => "list"
def bmN : Bm → Str
  | .append => "append" | .pop => "pop" | .clear => "clear" | .index => "index" | .join => "join" | .get => "get" | .update => "update"
def bmI : Bm → String
  | .append => "list.append" | .pop => "list.pop" | .clear => "list.clear" | .index => "list.index" | .join => "str.join" | .get => "dict.get" | .update => "dict.update"
def rBm (K : PySem.W.Frag) (ad : Ad) (G : Gt) (m : Bm) : V → List V → Hp → VK → Prop := fun x vs H Q => ∃ E w a as, w.H = H ∧ RelS K ad.cls w ∧ RelA K w a x ∧ RelAs K w as vs ∧ okR K ad G Q E w (bmO m a as w.S)
theorem bm_ty {K : PySem.W.Frag} {cls : Nat → Addr} {w : Wd} (s : RelS K cls w) {m : Bm} {a : A} {v : V} (r : RelA K w a v) (h : bmFit m w.S a = true) : tyV K (bmT m) v w.H := by
  have lst : (lstO w.S a).isSome = true → tyV K "list" v w.H := fun h => by
    obtain ⟨xs, e⟩ := Option.isSome_iff_exists.mp h
    obtain ⟨p, vs, rfl, hp, _⟩ := lstO_rel s r e
    exact .inl ⟨rfl, vs, hp⟩
  have dct : (dicO w.S a).isSome = true → tyV K "dict" v w.H := fun h => by
    obtain ⟨⟨t, kvs⟩, e⟩ := Option.isSome_iff_exists.mp (show (dicO w.S a).isSome = true from h)
    unfold dicO at e
    split at e
    · obtain ⟨p, e1, rfl⟩ := relA_ref r
      split at e
      · rename_i t' kvs' hS
        have ro := s.obj _ p _ e1 hS
        refine .inr (.inr (.inl ⟨rfl, ?_⟩))
        cases t' with
        | false => obtain ⟨ws, q, _⟩ := ro; exact .inl ⟨ws, q⟩
        | true => obtain ⟨ws, q, _⟩ := ro; exact .inr ⟨ws, q⟩
      · cases e
    · cases e
  cases m with
  | join =>
    cases a <;> first | (cases h; done) | skip
    obtain ⟨rfl, _⟩ := relA_str r
    rfl
  | get => exact dct h
  | update => exact dct h
  | _ => exact lst h
theorem join_mk (sep : List Nat) : ∀ ys : List (List Nat), Txt.join (mkS sep) (ys.map mkS) = mkS (joinN sep ys) := by
  intro ys
  show Builtin.Str.glued (mkS sep) (ys.map mkS) = _
  rw [StrLaws.glued_eq_join]
  induction ys with
  | nil => rfl
  | cons x r ih =>
    cases r with
    | nil => rfl
    | cons y r =>
      show mkS x ++ mkS sep ++ Str.join (mkS sep) ((y :: r).map mkS) = mkS (x ++ sep ++ joinN sep (y :: r))
      rw [ih, mkS_append, mkS_append]
theorem joinN_len (sep : List Nat) : ∀ ys : List (List Nat), (joinN sep ys).length ≤ (ys.map List.length).sum + ys.length * sep.length
  | [] => by simp [joinN]
  | [x] => by simp [joinN]
  | x :: y :: r => by
    have ih := joinN_len sep (y :: r)
    simp only [joinN, List.length_append, List.map_cons, List.sum_cons, List.length_cons] at ih ⊢
    have : (r.length + 1 + 1) * sep.length = (r.length + 1) * sep.length + sep.length := by rw [Nat.add_mul (r.length + 1) 1]; simp
    omega
theorem joinN_mem (sep : List Nat) : ∀ (ys : List (List Nat)) (c : Nat), c ∈ joinN sep ys → c ∈ sep ∨ ∃ y ∈ ys, c ∈ y
  | [], c, h => by simp [joinN] at h
  | [x], c, h => .inr ⟨x, by simp, h⟩
  | x :: y :: r, c, h => by
    simp only [joinN, List.mem_append] at h
    rcases h with (h | h) | h
    · exact .inr ⟨x, by simp, h⟩
    · exact .inl h
    · rcases joinN_mem sep (y :: r) c h with h | ⟨z, hz, h⟩
      · exact .inl h
      · exact .inr ⟨z, List.mem_cons_of_mem _ hz, h⟩
theorem dats_get {xs : List A} {j : Nat} : ∀ {xs : List A} {j : Nat}, (A.dats xs)[j]? = (xs[j]?).map A.dat
  | [], j => by simp [A.dats]
  | x :: xs, 0 => by simp [A.dats]
  | x :: xs, j + 1 => by simp [A.dats, dats_get (xs := xs) (j := j)]
theorem pures_at {xs : List A} (h : A.pures xs = true) {j : Nat} {x : A} (e : xs[j]? = some x) : x.pure = true := by
  induction xs generalizing j with
  | nil => cases e
  | cons y xs ih =>
    simp only [A.pures, Bool.and_eq_true] at h
    cases j with
    | zero => cases e; exact h.1
    | succ j => exact ih h.2 (by simpa using e)
theorem mt_update : MtR X "dict.update" (fun x vs H Q => ∃ a b kvs more, x = .ref a ∧ vs = [.ref b] ∧ H a = some (.dK kvs) ∧ H b = some (.dK more) ∧ a ≠ b ∧ kvs.length + more.length ≤ sizeLine ∧ Q .non (upd H a (.dK (mergeK kvs more)))) := by
  intro pins s σ H x vs v us Q I rx rv h
  obtain ⟨a, b, kvs, more, rfl, rfl, ha, hb, hab, hz, q⟩ := h
  cases rx
  obtain ⟨u, rfl, ru⟩ := rv.one
  cases ru
  obtain ⟨z1, hd1, v1, r1, d1⟩ := dk_of I.hok ha
  obtain ⟨z2, hd2, v2, r2, d2⟩ := dk_of I.hok hb
  have l1 := r1.length
  have l2 := r2.length
  refine call_meetsIn PySem.F.slot_dict_update d1.typeIs PySem.F.entry_dict_update (PySem.F.args_dict_update_2 _ _) (meets_dict_update (mixKind X.prog X.w) a b hab hd2) ⟨v1, v2, d1, d2, by omega, fun h' e1 e2 hs => ?_⟩
  have he : ∃ q, h'.get? a = some q := let ⟨q, _, _, hq, _⟩ := e1; ⟨q, hq⟩
  have hl : (mergeK kvs more).length ≤ sizeLine := by
    have e3 := (KV.merge r2 r1).length
    have e4 := merged_length_le v1 v2
    omega
  exact ⟨.non, _, d_write (t' := s.toks) I (by rw [ha]; exact True.intro) hs he (dk_new hl hd1 (KV.merge r2 r1) e1), rfl, q⟩
theorem mtr_bm (hu : X.A.units + 66 < cLine) : ∀ m : Bm, MtR X (bmI m) (rBm X.K ad G m) := by
  intro m pins s σ H x vs v us Q I rx rxs h
  obtain ⟨E, w, a, as, rfl, hs, ra, ras, ok⟩ := h
  unfold bmO at ok
  split at ok
  · -- append
    rename_i n y
    obtain ⟨p, e1, rfl⟩ := relA_ref ra
    obtain ⟨u, rfl, r1⟩ := one_of ras
    split at ok
    · rename_i xs hS
      split at ok
      · rename_i hz
        obtain ⟨vs, hH, rs⟩ := hs.obj n p _ e1 hS
        have nd : (O.lst xs) ≠ .dead := by intro z; cases z
        refine mt_append pins s σ _ _ _ v us Q I rx rxs ⟨p, vs, u, rfl, rfl, hH, by rw [← rs.length]; exact hz, ?_⟩
        have le := Le.put (o' := .lst (xs ++ [y])) (h := .lst (vs ++ [u])) hs e1 hS nd
        exact ok _ _ rfl le (hs.put e1 hS nd ⟨_, upd_same, (rs.append (RelAs.cons r1 RelAs.nil)).mono le.mo⟩) non_rel
      · exact ok.elim
    · exact ok.elim
  · -- clear
    rename_i n
    obtain ⟨p, e1, rfl⟩ := relA_ref ra
    simp only [RelAs] at ras
    subst ras
    split at ok
    · rename_i xs hS
      obtain ⟨vs, hH, rs⟩ := hs.obj n p _ e1 hS
      have nd : (O.lst xs) ≠ .dead := by intro z; cases z
      refine mt_clear pins s σ _ _ _ v us Q I rx rxs ⟨p, vs, rfl, rfl, hH, ?_⟩
      have le := Le.put (o' := .lst []) (h := .lst []) hs e1 hS nd
      exact ok _ _ rfl le (hs.put e1 hS nd ⟨_, upd_same, RelAs.nil⟩) non_rel
    · exact ok.elim
  · -- pop
    rename_i n
    obtain ⟨p, e1, rfl⟩ := relA_ref ra
    simp only [RelAs] at ras
    subst ras
    split at ok
    · rename_i xs hS
      split at ok
      · rename_i y hy
        obtain ⟨vs, hH, rs⟩ := hs.obj n p _ e1 hS
        have nd : (O.lst xs) ≠ .dead := by intro z; cases z
        obtain ⟨u, hu', ru⟩ := rs.get hy
        rw [rs.length] at hu'
        refine mt_pop pins s σ _ _ _ v us Q I rx rxs ⟨p, vs, u, rfl, rfl, hH, hu', ?_⟩
        have le := Le.put (o' := .lst xs.dropLast) (h := .lst vs.dropLast) hs e1 hS nd
        have rd : RelAs X.K w xs.dropLast vs.dropLast := by rw [List.dropLast_eq_take, List.dropLast_eq_take, rs.length]; exact rs.take _
        exact ok _ _ rfl le (hs.put e1 hS nd ⟨_, upd_same, rd.mono le.mo⟩) (ru.mono le.mo)
      · exact ok.elim
    · exact ok.elim
  · -- pop at
    rename_i n i
    obtain ⟨p, e1, rfl⟩ := relA_ref ra
    obtain ⟨u0, rfl, r1⟩ := one_of ras
    cases relA_int r1
    split at ok
    · rename_i xs hS
      split at ok
      · rename_i hi
        split at ok
        · rename_i kk hk
          split at ok
          · rename_i y hy
            obtain ⟨vs, hH, rs⟩ := hs.obj n p _ e1 hS
            have nd : (O.lst xs) ≠ .dead := by intro z; cases z
            obtain ⟨u, hu', ru⟩ := rs.get hy
            rw [rs.length] at hk
            refine mt_popAt pins s σ _ _ _ v us Q I rx rxs ⟨p, vs, i, kk, u, rfl, rfl, hH, hi.1, hi.2, hk, hu', ?_⟩
            have le := Le.put (o' := .lst (xs.eraseIdx kk)) (h := .lst (vs.eraseIdx kk)) hs e1 hS nd
            have rd : RelAs X.K w (xs.eraseIdx kk) (vs.eraseIdx kk) := by rw [List.eraseIdx_eq_take_drop_succ, List.eraseIdx_eq_take_drop_succ]; exact (rs.take _).append (rs.drop _)
            exact ok _ _ rfl le (hs.put e1 hS nd ⟨_, upd_same, rd.mono le.mo⟩) (ru.mono le.mo)
          · exact ok.elim
        · exact ok.elim
      · exact ok.elim
    · exact ok.elim
  · -- index
    rename_i y
    obtain ⟨u, rfl, r1⟩ := one_of ras
    split at ok
    · rename_i xs e
      split at ok
      · rename_i hc
        simp only [Bool.and_eq_true, decide_eq_true_eq] at hc
        obtain ⟨⟨⟨h1, h2⟩, h3⟩, h4⟩ := hc
        split at ok
        · rename_i j hj
          obtain ⟨p, vs, rfl, hp, rs⟩ := lstO_rel hs ra e
          obtain ⟨d, cd⟩ := dat_rel _ u h2 r1
          obtain ⟨dd, cds⟩ := dats_rel xs vs h1 rs
          rw [List.findIdx?_eq_some_iff_getElem] at hj
          obtain ⟨hjl, hje, hjn⟩ := hj
          have shl : SeqAt.shaped (.list (A.dats xs)) = true := by
            unfold SeqAt.shaped
            rw [Bool.and_eq_true, decide_eq_true_eq]
            refine ⟨by simp only [PyData.canLay0]; exact cds, ?_⟩
            show PyData.depthAll (A.dats xs) + 1 ≤ 64
            rw [depths_dat _ h1]; omega
          have shd : SeqAt.shaped (A.dat y) = true := by
            unfold SeqAt.shaped
            rw [Bool.and_eq_true, decide_eq_true_eq]
            exact ⟨cd, by rw [depth_dat _ h2]; omega⟩
          refine mt_indexD (by omega) pins s σ _ _ _ v us Q I rx rxs ⟨p, u, A.dat y, A.dats xs, j, A.dat xs[j], rfl, rfl, .lst hp dd, d, shl, shd, ?_, ?_, ?_, ok.ret rfl hs int_rel⟩
          · rw [dats_get (xs := xs) (j := j), List.getElem?_eq_getElem hjl]; rfl
          · rw [eqv_dat _ _ (pures_at h1 (List.getElem?_eq_getElem hjl)) h2]; exact hje
          · intro m z' hm hz
            rw [dats_get (xs := xs) (j := m), List.getElem?_eq_getElem (by omega)] at hz
            cases hz
            rw [eqv_dat _ _ (pures_at h1 (List.getElem?_eq_getElem (by omega : m < xs.length))) h2]
            have := hjn m hm
            simpa using this
        · exact ok.elim
      · exact ok.elim
    · exact ok.elim
  · -- get
    rename_i k
    obtain ⟨u, rfl, r1⟩ := one_of ras
    split at ok
    · rename_i t kvs hd
      split at ok
      · rename_i hk
        obtain ⟨p, rfl, _, g⟩ := dic_get hs ra r1 hd hk
        cases rx
        cases rxs with
        | cons ru rr =>
          cases rr
          rcases g with ⟨e1, g⟩ | ⟨x', y', e1, g, r⟩
          · rw [e1] at ok
            exact d_get1 (by omega) I g ru fun w' s3 I3 rw' => ⟨_, w.H, I3, rw', ok.ret rfl hs non_rel⟩
          · rw [e1] at ok
            exact d_get1 (by omega) I g ru fun w' s3 I3 rw' => ⟨_, w.H, I3, rw', ok.ret rfl hs r⟩
      · exact ok.elim
    · exact ok.elim
  · rename_i k d
    obtain ⟨u, ud, rfl, r1, r2⟩ := two_of ras
    split at ok
    · rename_i t kvs hd
      split at ok
      · rename_i hk
        obtain ⟨p, rfl, _, g⟩ := dic_get hs ra r1 hd hk
        cases rx
        cases rxs with
        | cons ru rr =>
          cases rr with
          | cons rd rr =>
            cases rr
            rcases g with ⟨e1, g⟩ | ⟨x', y', e1, g, r⟩
            · rw [e1] at ok
              exact d_get2 (by omega) I g ru rd fun w' s3 I3 rw' => ⟨_, w.H, I3, rw', ok.ret rfl hs r2⟩
            · rw [e1] at ok
              exact d_get2 (by omega) I g ru rd fun w' s3 I3 rw' => ⟨_, w.H, I3, rw', ok.ret rfl hs r⟩
      · exact ok.elim
    · exact ok.elim
  · -- update
    rename_i n m
    obtain ⟨u, rfl, r1⟩ := one_of ras
    obtain ⟨p, e1, rfl⟩ := relA_ref ra
    obtain ⟨q, e2, rfl⟩ := relA_ref r1
    split at ok
    · rename_i kvs more h1 h2
      split at ok
      · rename_i hc
        obtain ⟨ws, g1, r1'⟩ := hs.obj n p _ e1 h1
        obtain ⟨us', g2, r2'⟩ := hs.obj m q _ e2 h2
        have nd : (O.dic false kvs) ≠ .dead := by intro z; cases z
        have ne : p ≠ q := fun z => by
          subst z
          have q1 := List.getElem?_eq_some_iff.mp e1
          have q2 := List.getElem?_eq_some_iff.mp e2
          exact hc.1 ((List.getElem_inj hs.nd).mp (q1.2.trans q2.2.symm))
        have hz : (1000000 : Nat) ≤ sizeLine := by decide
        have le := Le.put (o' := .dic false (more.foldl (fun acc p => putO acc p.1 p.2) kvs)) (h := .dK (mergeK ws us')) hs e1 h1 nd
        refine mt_update pins s σ _ _ _ v us Q I rx rxs ⟨p, q, ws, us', rfl, rfl, g1, g2, ne, by rw [← r1'.length, ← r2'.length]; omega, ?_⟩
        exact ok _ _ rfl le (hs.put e1 h1 nd ⟨_, upd_same, Paired.mapP (fold_rel r2' r1') fun _ _ z => ⟨z.1, z.2.1, z.2.2.mono le.mo⟩⟩) non_rel
      · exact ok.elim
    · exact ok.elim
  · -- join
    rename_i sep a
    obtain ⟨u, rfl, r1⟩ := one_of ras
    obtain ⟨rfl, o⟩ := relA_str ra
    split at ok
    · rename_i ys e
      split at ok
      · rename_i hz
        obtain ⟨xs, e1, e2⟩ := Option.bind_eq_some_iff.mp e
        obtain ⟨p, vs, rfl, hp, rs⟩ := seqO_rel hs r1 e1
        obtain ⟨e3, o3⟩ := strs_rel rs e2
        have e4 : vs = (ys.map mkS).map V.str := by rw [e3, List.map_map]; rfl
        refine mt_join pins s σ _ _ _ v us Q I rx rxs ⟨mkS sep, p, ys.map mkS, rfl, rfl, by rw [← e4]; exact hp, ?_, ?_⟩
        · rw [List.map_map, List.length_map, mkS_length]
          have : (ys.map ((fun x : Str => x.length) ∘ mkS)) = ys.map List.length := List.map_congr_left fun y _ => mkS_length y
          rw [this]; exact hz
        · rw [join_mk]
          refine ok.ret rfl hs (str_rel ⟨?_, fun c hc => ?_⟩)
          · have := joinN_len sep ys
            have hs' : (16777216 : Nat) ≤ sizeLine := by decide
            omega
          · rcases joinN_mem sep ys c hc with h | ⟨y, hy, h⟩
            · exact o.2 c h
            · exact (o3 y hy).2 c h
      · exact ok.elim
    · exact ok.elim
  · exact ok.elim
end
end Lt
/-! isinstance; what a loop walks; comprehensions' and loops' turns -/
namespace Lt
open PySem L2
def tyN : Ty → String
  | .int => "int" | .str => "str" | .bool => "bool" | .list => "list" | .tuple => "tuple" | .dict => "dict" | .own _ => ""
/-- what is known of an own class, for isinstance -/
structure CF (K : PySem.W.Frag) (cls : Nat → Addr) (nc : Nat) (C : Addr) : Prop where
  cl : Cls K C
  ha : PySem.W.findIn K (.ref C) "__class__" = some (some (.builtin "object.__class__"))
  hn : PySem.W.specialIn K (.builtin "object.__class__") "__get__" = some (some (.builtin "getset_descriptor.__get__"))
  htk : PySem.W.takesIn K (.builtin "object.__class__") = some true
  hm : PySem.W.mroIn K C (.type "object") = some true
  no : ∀ T ∈ ["int", "str", "bool", "list", "tuple", "dict"], PySem.W.kitOne K (.ref C) (.type T) = some false
  is : ∀ T ∈ ["NoneType", "int", "str", "bool", "list", "tuple", "dict"], PySem.W.kitOne K (.type T) (.ref C) = some false
def tyV (cls : Nat → Addr) : Ty → V
  | .own c => .ref (cls c)
  | t => .ty (tyN t)
def tyU (cls : Nat → Addr) : Ty → Value
  | .own c => .ref (cls c)
  | t => .type (tyN t)
theorem tyV_cls {cls : Nat → Addr} (t : Ty) : ClsV (tyV cls t) (tyU cls t) := by cases t <;> first | exact .ty _ | exact .own _
def bt : Ty → Bool | .own _ => false | _ => true
theorem kit_bt {K : PySem.W.Frag} (s t : Ty) (hs : bt s = true) (ht : bt t = true) : PySem.W.kitOne K (.type (tyN s)) (.type (tyN t)) = some (tyK s t) := by
  cases s <;> (try cases hs) <;> cases t <;> (try cases ht) <;> rfl
theorem kit_non {K : PySem.W.Frag} (t : Ty) (ht : bt t = true) : PySem.W.kitOne K (.type "NoneType") (.type (tyN t)) = some false := by
  cases t <;> (try cases ht) <;> rfl
/-- one isinstance, whatever the value -/
theorem isi_rel {K : PySem.W.Frag} {cls : Nat → Addr} {nc : Nat} {w : Wd} (s : RelS K cls w) (cf : ∀ c, c < nc → CF K cls nc (cls c)) (ow : ∀ c d, c < nc → d < nc → PySem.W.kitOne K (.ref (cls c)) (.ref (cls d)) = some (c == d))
    {a : A} {v : V} (r : RelA K w a v) {t : Ty} (ht : ∀ c, t = .own c → c < nc) {k : Bool} (h : tyO nc w.S a t = some k) : ∃ tt, TyX K w.H v tt ∧ PySem.W.kitOne K tt (tyU cls t) = some k := by
  have base : ∀ (s' : Ty), bt s' = true → TyX K w.H v (.type (tyN s')) → tyK s' t = k → ∃ tt, TyX K w.H v tt ∧ PySem.W.kitOne K tt (tyU cls t) = some k := by
    intro s' hb hx e
    refine ⟨_, hx, ?_⟩
    rw [← e]
    cases t with
    | own c =>
      have e2 : tyK s' (.own c) = false := by cases s' <;> rfl
      rw [e2]
      refine (cf c (ht c rfl)).is _ ?_
      cases s' <;> (try cases hb) <;> decide
    | _ => exact kit_bt s' _ hb rfl
  cases a with
  | non =>
    cases relA_non r
    refine ⟨_, .base .non, ?_⟩
    cases h
    cases t <;> first | exact kit_non _ rfl | skip
    rename_i c
    exact (cf c (ht c rfl)).is _ (by decide)
  | bl b =>
    cases relA_bl r
    exact base .bool rfl (.base (.bl b)) (Option.some.inj h)
  | int i =>
    cases relA_int r
    exact base .int rfl (.base (.int i)) (Option.some.inj h)
  | str x =>
    obtain ⟨e, o⟩ := relA_str r
    subst e
    exact base .str rfl (.base (.str _)) (Option.some.inj h)
  | tup xs =>
    obtain ⟨p, vs, e, hp, rs⟩ := relA_tup r
    subst e
    exact base .tuple rfl (.base (.tup hp.1)) (Option.some.inj h)
  | lst xs =>
    obtain ⟨p, vs, e, hp, rs⟩ := relA_lst r
    subst e
    have hx : TyX K w.H (.ref p) (.type "list") := by
      rcases hp.1 with z | ⟨o, z⟩
      · exact .base (.lst z)
      · exact .base (.frz z)
    exact base .list rfl hx (Option.some.inj h)
  | scr xs => cases h
  | ktup xs => cases h
  | ref n =>
    obtain ⟨p, e, rfl⟩ := relA_ref r
    simp only [tyO] at h
    split at h
    · rename_i xs eS
      obtain ⟨vs, q, _⟩ := s.obj n p _ e eS
      exact base .list rfl (.base (.lst q)) (Option.some.inj h)
    · rename_i b kvs eS
      have ro := s.obj n p _ e eS
      have hx : TyX K w.H (.ref p) (.type "dict") := by
        cases b with
        | false => obtain ⟨ws, q, _⟩ := ro; exact .base (.dK q)
        | true => obtain ⟨ws, q, _⟩ := ro; exact .base (.dT q)
      exact base .dict rfl hx (Option.some.inj h)
    · rename_i c fs eS
      obtain ⟨dx, ws, q, _⟩ := s.obj n p _ e eS
      split at h
      · rename_i hc
        have C := cf c hc
        refine ⟨.ref (cls c), .base (.ins q C.cl C.ha C.hn C.htk C.hm), ?_⟩
        cases h
        cases t <;> first | exact C.no _ (by decide) | skip
        rename_i d
        exact ow c d hc (ht d rfl)
      · cases h
    · cases h
end Lt
/-! zip of two of a list, a tuple, a text each -/
namespace Lt
open PySem PySem.Spec PyProof.Rows L2
inductive Zs where
  | l (a : Addr) | t (a : Addr) | s (x : Str)
def Zs.val : Zs → V
  | .l a => .ref a
  | .t a => .ref a
  | .s x => .str x
def Zs.src : Zs → List Addr
  | .l a => [a]
  | .t a => [a]
  | .s _ => []
def signsV (x : Str) : List V := x.cps.toList.map fun c => V.str ⟨#[c]⟩
def Zs.at_ (K : PySem.W.Frag) (H : Hp) (z : Zs) (xs : List V) : Prop := match z with
  | .l a => SqL K H a xs
  | .t a => SqT K H a xs
  | .s x => xs = signsV x
/-- the iterator's own cell -/
def Zs.st (z : Zs) (it : Addr) (i : Nat) (h : Heap) : Prop := match z with
  | .l a => h.IsListIter it a i
  | .t a => h.IsTupleIter it a i
  | .s x => ∃ t, h.IsStrIter it (strIterType x) x t i
theorem Zs.st_obj {z : Zs} {it : Addr} {i : Nat} {h : Heap} (st : z.st it i h) : ∃ o, h.get? it = some o ∧ ∀ v, o.data ≠ .cell v := by
  cases z with
  | l a => obtain ⟨o, e, _, d⟩ := st; exact ⟨o, e, fun v q => by rw [d] at q; cases q⟩
  | t a => obtain ⟨o, e, _, d⟩ := st; exact ⟨o, e, fun v q => by rw [d] at q; cases q⟩
  | s x => obtain ⟨t, o, e, _, d⟩ := st; exact ⟨o, e, fun v q => by rw [d] at q; cases q⟩
theorem Zs.st_at {z : Zs} {it : Addr} {i : Nat} {h h' : Heap} (st : z.st it i h) (k : ∀ o, h.get? it = some o → h'.get? it = some o) : z.st it i h' := by
  cases z with
  | l a => obtain ⟨o, e, r⟩ := st; exact ⟨o, k o e, r⟩
  | t a => obtain ⟨o, e, r⟩ := st; exact ⟨o, k o e, r⟩
  | s x => obtain ⟨t, o, e, r⟩ := st; exact ⟨t, o, k o e, r⟩
theorem signsV_len (x : Str) : (signsV x).length = x.cps.size := by simp [signsV]
section
variable {X : Cx} {pins : List (Addr × Obj)} {σ : L2.St} {H : Hp} {s : Shared}
/-- what it draws -/
theorem Zs.draws (I : Inv X pins σ H s) {A : Around} (hh : A.handled = none) (z : Zs) {it : Addr} {i : Nat} {xs : List V} (hx : z.at_ X.K H xs) (st : z.st it i s.heap) (ne : ∀ a ∈ z.src, a ≠ it) :
    ∃ (P : Nat → Value → Prop) (St : Nat → Heap → Prop), Draws X.prog X.w A it (it :: z.src) xs.length P St ∧ St i s.heap ∧ (∀ j v, P j v → ∃ x, xs[j]? = some x ∧ RelV x v) ∧ ∀ j h, St j h → z.st it j h := by
  cases z with
  | l a =>
    obtain ⟨its, rv, p, _⟩ := I.list hx
    have hl := rv.length
    have hz : its.toArray.size = xs.length := by simp [hl]
    refine ⟨_, _, hz ▸ Draws.list hh it a (ne a (by simp [Zs.src])) its.toArray, ⟨st, p.isList⟩, fun j v e => ?_, fun j h q => q.1⟩
    have e' : its[j]? = some v := by simpa using e
    have hj : j < xs.length := by rw [hl]; exact (List.getElem?_eq_some_iff.mp e').1
    obtain ⟨u, hu, ru⟩ := rv.get (List.getElem?_eq_getElem hj)
    rw [e'] at hu; cases hu
    exact ⟨_, List.getElem?_eq_getElem hj, ru⟩
  | t a =>
    obtain ⟨its, rv, p, _⟩ := I.tuple hx
    have hl := rv.length
    have hz : its.toArray.size = xs.length := by simp [hl]
    refine ⟨_, _, hz ▸ Draws.tuple hh it a (ne a (by simp [Zs.src])) its.toArray, ⟨st, p⟩, fun j v e => ?_, fun j h q => q.1⟩
    have e' : its[j]? = some v := by simpa using e
    have hj : j < xs.length := by rw [hl]; exact (List.getElem?_eq_some_iff.mp e').1
    obtain ⟨u, hu, ru⟩ := rv.get (List.getElem?_eq_getElem hj)
    rw [e'] at hu; cases hu
    exact ⟨_, List.getElem?_eq_getElem hj, ru⟩
  | s x =>
    obtain ⟨t, st⟩ := st
    have hx : xs = signsV x := hx
    subst hx
    refine ⟨_, _, (signsV_len x) ▸ Draws.text hh it x t, st, fun j v e => ?_, fun j h q => ⟨t, q⟩⟩
    obtain ⟨c, u, e1, rfl⟩ := e
    refine ⟨.str ⟨#[c]⟩, ?_, ⟨u, rfl⟩⟩
    have e2 : x.cps.toList[j]? = some c := by simpa using e1
    simp [signsV, e2]
theorem Zs.lt (I : Inv X pins σ H s) (z : Zs) {xs : List V} (hx : z.at_ X.K H xs) : ∀ a ∈ z.src, a < s.heap.objs.size := by
  intro a ha
  cases z with
  | l b =>
    have : a = b := by simpa [Zs.src] using ha
    subst this
    obtain ⟨its, rv, p, _⟩ := I.list hx
    exact p.lt
  | t b =>
    have : a = b := by simpa [Zs.src] using ha
    subst this
    obtain ⟨its, rv, p, _⟩ := I.tuple hx
    obtain ⟨o, e, _⟩ := p
    exact Heap.lt_size e
  | s x => cases ha
theorem Zs.begins (I : Inv X pins σ H s) (z : Zs) {xs : List V} (hx : z.at_ X.K H xs) {u : Value} (r : RelV z.val u) :
    ∃ (o : Obj) (H1 : Heap → Prop), Begins u o H1 ∧ H1 s.heap ∧ ∀ it h, h.get? it = some o → z.st it 0 h := by
  cases z with
  | l a =>
    cases r
    obtain ⟨its, rv, p, _⟩ := I.list hx
    exact ⟨_, _, begins_list a its.toArray, p.isList, fun it h e => ⟨_, e, rfl, rfl⟩⟩
  | t a =>
    cases r
    obtain ⟨its, rv, p, _⟩ := I.tuple hx
    exact ⟨_, _, begins_tuple a its.toArray, p, fun it h e => ⟨_, e, rfl, rfl⟩⟩
  | s x =>
    obtain ⟨t, rfl⟩ := r
    exact ⟨_, _, begins_text x t, trivial, fun it h e => ⟨t, _, e, rfl, rfl⟩⟩
theorem Zs.inj (I : Inv X pins σ H s) {z : Zs} {xs ys : List V} (h : z.at_ X.K H xs) (k : z.at_ X.K H ys) : xs = ys := by
  cases z with
  | l a => exact I.list_inj h k
  | t a => exact I.tuple_inj h k
  | s x => exact (show xs = signsV x from h).trans (show ys = signsV x from k).symm
end
/-- the two as they stand at each turn, the items in new pairs -/
def Itzs (K : PySem.W.Frag) (p q : Zs) : It :=
  ⟨fun i H => ∃ (xs ys : List V) (x y : V), p.at_ K H xs ∧ q.at_ K H ys ∧ xs[i]? = some x ∧ ys[i]? = some y,
    fun i H v H' => ∃ T x y, v = .ref T ∧ H T = none ∧ H' = upd H T (.tup [x, y]) ∧ (∀ xs, p.at_ K H xs → xs[i]? = some x) ∧ ∀ ys, q.at_ K H ys → ys[i]? = some y,
    fun i H => ∃ xs ys : List V, p.at_ K H xs ∧ q.at_ K H ys ∧ i ≤ xs.length ∧ i ≤ ys.length ∧ (i = xs.length ∨ i = ys.length)⟩
theorem turn_zs {P : Program} {w : World} {K : PySem.W.Frag} {elts : List Expr} {kk : Nat} {tpos : Pos} {p q : Zs} {z TI TO i1 i2 : Addr} (D : ZipSep2 z TI TO i1 i2 (i1 :: p.src) (i2 :: q.src)) (ne1 : ∀ a ∈ p.src, a ≠ i1) (ne2 : ∀ a ∈ q.src, a ≠ i2) :
    Turn P w K (.Tuple elts kk tpos) (Itzs K p q) [z, TI, TO, i1, i2] z (fun i h => IsZip h z TI TO .none ∧ IsPair h TI (.ref i1) (.ref i2) ∧ (∃ x y, IsPair h TO x y) ∧ p.st i1 i h ∧ q.st i2 i h) where
  mem := by simp
  obj := fun i h st c hc => by
    obtain ⟨hz, hTI, ⟨x, y, hTO⟩, h1, h2⟩ := st
    have e' : c = z ∨ c = TI ∨ c = TO ∨ c = i1 ∨ c = i2 := by simpa using hc
    rcases e' with q | q | q | q | q
    · rw [q]; exact ⟨_, hz, fun v q => nomatch q⟩
    · rw [q]; exact ⟨_, hTI, fun v q => nomatch q⟩
    · rw [q]; exact ⟨_, hTO, fun v q => nomatch q⟩
    · rw [q]; exact (Zs.st_obj h1)
    · rw [q]; exact (Zs.st_obj h2)
  keep := fun i h h' st k => by
    obtain ⟨hz, hTI, ⟨x, y, hTO⟩, h1, h2⟩ := st
    exact ⟨k z (by simp) _ hz, k TI (by simp) _ hTI, ⟨x, y, k TO (by simp) _ hTO⟩, Zs.st_at h1 fun o q => k i1 (by simp) o q, Zs.st_at h2 fun o q => k i2 (by simp) o q⟩
  item := by
    intro X hP hw hK hc i pins s σ H E I hf st hg
    subst hP hw hK
    obtain ⟨hz, hTI, ⟨x0, y0, hTO⟩, h1, h2⟩ := st
    obtain ⟨xs, ys, x, y, hqx, hqy, hx, hy⟩ := hg
    have hh : X.A.in1.handled = none := I.ok.hd hc
    obtain ⟨P1, St1, D1, s1, g1, k1⟩ := p.draws I hh hqx h1 ne1
    obtain ⟨P2, St2, D2, s2, g2, k2⟩ := q.draws I hh hqy h2 ne2
    have hzl : z < s.heap.objs.size := Heap.lt_size hz
    refine wpAny_pyNext_zipD2_item D D1 D2 hz hTI hTO s1 s2 (List.getElem?_eq_some_iff.mp hx).1 (List.getElem?_eq_some_iff.mp hy).1 fun u u2 h' tk y1 y2 z' TO' h1' h2' hT hsz hk => ?_
    obtain ⟨x', ex, ru⟩ := g1 i u y1
    rw [hx] at ex; cases ex
    obtain ⟨y', ey, ru2⟩ := g2 i u2 y2
    rw [hy] at ey; cases ey
    refine ⟨_, rfl, wpAny_letOwnedTupleGo_zip (s := { s with heap := h', toks := tk }) z' fun h'' z'' sb => ?_⟩
    have hT2 : h''.get? s.heap.objs.size = some { cls := .type "tuple", data := .seq #[u, u2] } := (sb.2 _ (Nat.ne_of_gt hzl)).trans hT
    have new : ObjOk X.prog X.w (upd H s.heap.objs.size (.tup [x, y])) h'' s.heap.objs.size (.tup [x, y]) :=
      ⟨by show 2 ≤ sizeLine; decide, [u, u2], .cons ru (.cons ru2 .nil), ⟨_, hT2, rfl, _, rfl⟩⟩
    have I1 : Inv X pins σ (upd H s.heap.objs.size (.tup [x, y])) { s with heap := h'', toks := tk } :=
      I.turnedNew (t' := tk) (ch := [z, TI, TO, i1, i2]) (fun c o hb q => (sb.2 c (fun q' => hb (by simp [q']))).trans (hk c o (fun q' => hb (by simp [q'])) (fun q' => hb (by simp [q'])) (fun q' => hb (by simp [q'])) (fun q' => hb (by simp [q'])) q)) hf (Nat.le_refl _) new
    refine ⟨.ref s.heap.objs.size, _, I1, rfl, ⟨_, x, y, rfl, I.hok.fresh (Nat.le_refl _), rfl, fun l hl => by rw [Zs.inj I hl hqx]; exact hx, fun l hl => by rw [Zs.inj I hl hqy]; exact hy⟩, ⟨z'', ?_, ⟨u, u2, ?_⟩, ?_, ?_⟩, fun c hcm => ?_⟩
    · exact (sb.2 _ D.TIz).trans (hk _ _ D.TIz D.TITO D.TIi1 D.TIi2 hTI)
    · exact (sb.2 _ D.TOz).trans TO'
    · exact Zs.st_at (k1 _ _ h1') fun o q => (sb.2 _ (Ne.symm D.zi1)).trans q
    · exact Zs.st_at (k2 _ _ h2') fun o q => (sb.2 _ (Ne.symm D.zi2)).trans q
    · have hlt : c < s.heap.objs.size := by
        have e' : c = z ∨ c = TI ∨ c = TO ∨ c = i1 ∨ c = i2 := by simpa using hcm
        rcases e' with q | q | q | q | q
        · rw [q]; exact hzl
        · rw [q]; exact Heap.lt_size hTI
        · rw [q]; exact Heap.lt_size hTO
        · rw [q]; obtain ⟨_, e1, _⟩ := (Zs.st_obj h1); exact Heap.lt_size e1
        · rw [q]; obtain ⟨_, e2, _⟩ := (Zs.st_obj h2); exact Heap.lt_size e2
      rw [upd_ne (Nat.ne_of_lt hlt)]
      exact (hf c hcm).1
  done := by
    intro X hP hw hK hc i pins s σ H E I hf st hg
    subst hP hw hK
    obtain ⟨hz, hTI, ⟨x0, y0, hTO⟩, h1, h2⟩ := st
    obtain ⟨xs, ys, hqx, hqy, l1, l2, hend⟩ := hg
    have hh : X.A.in1.handled = none := I.ok.hd hc
    obtain ⟨P1, St1, D1, s1, g1, k1⟩ := p.draws I hh hqx h1 ne1
    obtain ⟨P2, St2, D2, s2, g2, k2⟩ := q.draws I hh hqy h2 ne2
    exact wpAny_pyNext_zipD2_end D D1 D2 hz hTI hTO s1 s2 l1 l2 hend fun h' tk hk => ⟨rfl, I.turnedL (t' := tk) (ch := [z, TI, TO, i1, i2]) (fun c o hb q =>
      hk c o (fun q' => hb (by simp [q'])) (fun q' => hb (by simp [q'])) (fun q' => hb (by simp [q'])) (fun q' => hb (by simp [q'])) q) hf⟩
  self := fun A i s Q E st h => wpAny_pyIter_zip st.1 h
def iZs (K : PySem.W.Frag) (ta : TA) : TI := fun σ H R => ta σ H fun vs H1 => ∃ (p q : Zs) (xs ys : List V), vs = [p.val, q.val] ∧ p.at_ K H1 xs ∧ q.at_ K H1 ys ∧ R (Itzs K p q) H1
theorem pi_zs {X : Cx} {e e2 : Expr} {ta : TA} {p pos tpos : Pos} {elts : List Expr} {kk : Nat} (hg : Gl X "zip") (hm : X.mg "zip" = none) (ha : PA X [e, e2] ta)
    (hs : starEach [e, e2] X.env = (false, eval e X.env) :: starEach [e2] X.env := by rfl) (hpl : (backTo pos (starEach [e2] X.env)).any (·.1) = false := by rfl) :
    PI X (.Tuple elts kk tpos) (.Call (.Name "zip" p) [e, e2] [] pos) (iZs X.K ta) := by
  refine ⟨fun pins s σ H R I h => ?_⟩
  refine Call_ (ld_blt I hg hm PyProof.Rows.boot_zip (PyProof.Rows.callWith_type1 (thn (ha.run pos pins s σ H _ I h) fun us s1 ⟨vs, H1, I1, r1, q1⟩ => ?_) hs hpl))
  obtain ⟨p', q', xs, ys, ex, hqx, hqy, q⟩ := q1
  subst ex
  cases r1 with
  | cons r rr =>
    cases rr with
    | cons r' rr =>
      cases rr
      obtain ⟨o1, H1', B1, b1, c1⟩ := p'.begins I1 hqx r
      obtain ⟨o2, H2', B2, b2, c2⟩ := q'.begins I1 hqy r'
      have lt1 := p'.lt I1 hqx
      have lt2 := q'.lt I1 hqy
      refine zip_begins2 B1 B2 b1 b2 fun h' hz hTI hTO h1 h2 hsz hk => wpAny_pyIter_zip hz ?_
      have I2 : Inv X pins σ H1 { s1 with heap := h' } := I1.kept (t' := s1.toks) hk
      refine ⟨s1.heap.objs.size + 4, [s1.heap.objs.size + 4, s1.heap.objs.size + 2, s1.heap.objs.size + 3, s1.heap.objs.size, s1.heap.objs.size + 1], _, _, H1, rfl, I2, turn_zs (p := p') (q := q') (zip_sep2 lt1 lt2) (fun a ha => Nat.ne_of_lt (lt1 a ha)) (fun a ha => Nat.ne_of_lt (Nat.lt_succ_of_lt (lt2 a ha))), ⟨hz, hTI, ⟨_, _, hTO⟩, c1 _ _ h1, c2 _ _ h2⟩, fun c hcm => ?_, q⟩
      have e' : c = s1.heap.objs.size + 4 ∨ c = s1.heap.objs.size + 2 ∨ c = s1.heap.objs.size + 3 ∨ c = s1.heap.objs.size ∨ c = s1.heap.objs.size + 1 := by simpa using hcm
      have hle : s1.heap.objs.size ≤ c := by
        rcases e' with z | z | z | z | z
        · rw [z]; exact Nat.le_add_right _ _
        · rw [z]; exact Nat.le_add_right _ _
        · rw [z]; exact Nat.le_add_right _ _
        · rw [z]; exact Nat.le_refl _
        · rw [z]; exact Nat.le_add_right _ _
      exact I1.fpOk hle (I1.hok.fresh hle)
end Lt
/-! a, .., *rest = a tuple -/
namespace Lt
open PySem PySem.Spec PyProof.Rows L2
section
variable {prog : Program} {w : World} {A : Around} {E : Value → Shared → Prop} {s : Shared}
/-- a tuple's iterator from a place on -/
theorem walks_from (hh : A.handled = none) (it t : Addr) (ne : t ≠ it) (items : Array Value) (k : Nat) (hk : k ≤ items.size) :
    Walks prog w A it [it, t] [it] (items.size - k) (fun i v => items[k + i]? = some v) (fun i h => h.IsTupleIter it t (k + i) ∧ h.IsTuple t items) where
  sub := fun b hb => by simp at hb; simp [hb]
  frame := fun _ _ _ st hk => ⟨st.1.at fun o e => hk it (by simp) o e, st.2.at fun o e => hk t (by simp) o e⟩
  item := fun i s Q E hi st hQ => by
    have W := Walks.tuple (prog := prog) (w := w) hh it t ne items
    refine W.item (k + i) s Q E (by omega) st fun v h' tk hv st' kk => hQ v h' tk hv ?_ kk
    rw [← Nat.add_assoc]; exact st'
  done := fun s Q E st hQ => by
    have W := Walks.tuple (prog := prog) (w := w) hh it t ne items
    have e : k + (items.size - k) = items.size := by omega
    exact W.done s Q E (by rw [e] at st; exact st) hQ
  self := fun i s Q E st hQ => (Walks.tuple (prog := prog) (w := w) hh it t ne items).self (k + i) s Q E st hQ
theorem unpack_star {t : Addr} {items : Array Value} {targets : List (Bool × (Value → Sem Unit))} {k : Nat} {Q : Unit → Shared → Prop} (hh : A.handled = none) (ht : IsTup s.heap t items)
    (hn : targets.length = k + 1) (hstar : targets.findIdx? (·.1) = some k) (hk : k ≤ items.size) (hz : items.size ≤ sizeLine)
    (h : ∀ (h' : Heap) tk, (∀ b o, s.heap.get? b = some o → h'.get? b = some o) →
      wpAny (model prog w) A (assignInOrder (targets.map (·.2)) (items.toList.take k ++ [.ref h'.objs.size])) Q E { s with heap := h'.push { cls := .type "list", data := .seq (items.toList.drop k).toArray }, toks := tk }) :
    wpAny (model prog w) A (unpack (.ref t) targets) Q E s := by
  have hlt : t ≠ s.heap.objs.size := by obtain ⟨o, ho, _⟩ := ht; exact Nat.ne_of_lt (Heap.lt_size ho)
  unfold unpack
  rw [hn, hstar]
  refine wpAny_bind (wpAny_holding ?_)
  unfold unpackItems
  refine wpAny_bind ?_
  unfold notIterableAtAll
  refine wpAny_bind (wpAny_specialOf ht.typeIs slot_tuple_iter.lookup ?_)
  refine wpAny_pure ?_
  simp only [Bool.false_eq_true, if_false]
  refine wpAny_bind (wpAny_holding (iter_tuple ht ?_))
  refine wpAny_bind (wpAny_holding (draw_tuple hlt k 0 _ _ ⟨_, Heap.get?_push_size _ rfl, rfl, rfl⟩ (ht.push _) (by omega) fun h₁ hit₁ hs₁ => ?_))
  rw [List.drop_zero]
  rw [if_neg (by simp; omega)]
  have ht₁ : IsTup h₁ t items := (ht.push _).extBut hs₁.extBut hlt
  rw [Nat.zero_add] at hit₁
  have W := (walks_from (prog := prog) (w := w) (A := A.in1) hh s.heap.objs.size t hlt items k hk).toS
  have hlt1 : t < h₁.objs.size := by obtain ⟨o, ho, _⟩ := ht₁; exact Heap.lt_size ho
  have hlt2 : s.heap.objs.size < h₁.objs.size := by obtain ⟨o, ho, _⟩ := hit₁; exact Heap.lt_size ho
  refine wpAny_bind (wpAny_holding (wpAny_collect_iter (T := "tuple_iterator") (.inr (.inr (.inr rfl))) W (fun i s st => ?_) ⟨hit₁, ht₁⟩ (fun b hb => ?_) (by simp) (fun s' acc mv hacc => ?_) (by omega)))
  · exact Heap.IsTupleIter.typeIs st.1
  · have e : b = s.heap.objs.size ∨ b = t := by simpa using hb
    rcases e with rfl | rfl
    · exact hlt2
    · exact hlt1
  · have el : acc.toList = items.toList.drop k := by
      apply List.ext_getElem?
      intro j
      rw [List.getElem?_drop]
      by_cases hj : j < acc.size
      · have := hacc.2 j acc[j] (by simp [hj])
        rw [Array.getElem?_toList, Array.getElem?_toList, this]; simp [hj]
      · have h1 := hacc.1
        rw [List.getElem?_eq_none (by simpa using hj), List.getElem?_eq_none (by simp; omega)]
    show wpAny _ _ (if acc.toList.length < k + 1 - 1 - k then _ else _) _ _ _
    rw [if_neg (by omega)]
    have em : acc.toList.length - (k + 1 - 1 - k) = acc.toList.length := by omega
    rw [em]
    refine wpAny_bind (wpAny_newList ?_ (by rw [List.length_take, el]; simp; omega))
    rw [List.take_length, List.drop_length, List.append_nil, el]
    refine wpAny_pure ?_
    have kp : ∀ b o, s.heap.get? b = some o → s'.heap.get? b = some o := fun b o e => by
      have nb : b ≠ s.heap.objs.size := Nat.ne_of_lt (Heap.lt_size e)
      exact mv.heap b o (by simpa using nb) (hs₁.extBut b o nb (Heap.get?_push_of_some _ e))
    have es : s' = { s with heap := s'.heap, toks := s'.toks } := by
      obtain ⟨hp, g, d, tk, os⟩ := s'
      have e1 : g = s.gens := mv.gens
      have e2 : d = s.drawn := mv.drawn
      have e3 : os = s.os := mv.os
      rw [e1, e2, e3]
    rw [es]
    exact h _ _ kp
end
def gStar (K : PySem.W.Frag) (k : Nat) (t : TGs) : TG := fun v σ H Q => ∃ a xs, v = .ref a ∧ SqT K H a xs ∧ k ≤ xs.length ∧ ∀ p, H p = none → t (xs.take k ++ [.ref p]) σ (upd H p (.lst (xs.drop k))) Q
theorem Paired.take' {α β : Type} {R : α → β → Prop} : ∀ {xs : List α} {ys : List β} (k : Nat), Paired R xs ys → Paired R (xs.take k) (ys.take k)
  | _, _, 0, _ => by simp; exact .nil
  | _, _, k + 1, .nil => by simp; exact .nil
  | _, _, k + 1, .cons a r => by simp only [List.take_succ_cons]; exact .cons a (Paired.take' k r)
theorem Paired.drop' {α β : Type} {R : α → β → Prop} : ∀ {xs : List α} {ys : List β} (k : Nat), Paired R xs ys → Paired R (xs.drop k) (ys.drop k)
  | _, _, 0, h => h
  | _, _, k + 1, .nil => by simp; exact .nil
  | _, _, k + 1, .cons a r => by simp only [List.drop_succ_cons]; exact Paired.drop' k r
theorem Paired.snoc' {α β : Type} {R : α → β → Prop} {x : α} {y : β} (h : R x y) : ∀ {xs : List α} {ys : List β}, Paired R xs ys → Paired R (xs ++ [x]) (ys ++ [y])
  | _, _, .nil => .cons h .nil
  | _, _, .cons a r => .cons a (Paired.snoc' h r)
theorem pg_star {X : Cx} {ts es : List Expr} {kk : Nat} {pos : Pos} {t : TGs} {k : Nat} (hc : X.calm = true) (h : PGs X es t) (he : (assignEach ts X.env).map (·.2) = (assignEach es X.env).map (·.2))
    (hn : (assignEach ts X.env).length = k + 1) (hst : (assignEach ts X.env).findIdx? (·.1) = some k) : PG X (.Tuple ts kk pos) (gStar X.K k t) := by
  refine ⟨fun pins s σ H v u Q I r hw => ?_⟩
  obtain ⟨a, xs, rfl, hq, hl, hw⟩ := hw
  cases r
  obtain ⟨its, rv, ht, hz⟩ := I.tuple hq
  have hlen := rv.length
  rw [assign_Tuple]
  refine wpAny_bind (wpAny_standAt (unpack_star (I.ok.hd hc) ht hn hst (by simp; omega) (by simp; omega) fun h' tk kp => ?_))
  have I0 : Inv X pins σ H { s with heap := h', toks := tk } := I.kept (t' := tk) kp
  have I1 : Inv X pins σ (upd H h'.objs.size (.lst (xs.drop k))) { s with heap := h'.push { cls := .type "list", data := .seq (its.drop k).toArray }, toks := tk } :=
    I0.laid (t' := tk) (a := h'.objs.size) (fun b o e => Heap.get?_push_of_some _ e) (Nat.le_refl _) (show ObjOk X.prog X.w _ _ _ (.lst (xs.drop k)) from ⟨by simp; omega, its.drop k, 0, Paired.drop' k rv, Heap.get?_push_size _ rfl⟩)
  rw [he]
  have r2 : Vals (xs.take k ++ [.ref h'.objs.size]) (its.take k ++ [.ref h'.objs.size]) := Paired.snoc' (R := RelV) (by rfl) (Paired.take' (R := RelV) k rv)
  exact h.run pins _ σ _ _ _ Q I1 r2 (hw h'.objs.size (I0.hok.fresh (Nat.le_refl _)))
end Lt
/-! what a loop walks -/
namespace Lt
open PySem L2
/-- the iterator gives these items, as long as the lists behind it stand -/
def Itm (K : PySem.W.Frag) (ad : Ad) (J : It) (w : Wd) (xs : List A) (g : Gd) : Prop :=
  ∀ w', Mo w w' → RelS K ad.cls w' → g.ok w'.S → ∀ i : Nat, (xs.length = i → J.stop i w'.H) ∧ ∀ a, xs[i]? = some a → J.go i w'.H ∧ ∀ x H', J.yld i w'.H x H' →
    ∃ w'', w''.H = H' ∧ w''.S = w'.S ∧ Le w' w'' ∧ RelS K ad.cls w'' ∧ RelA K w'' a x
theorem Itm.mono {K : PySem.W.Frag} {ad : Ad} {J : It} {w w' : Wd} {xs : List A} {g : Gd} (h : Itm K ad J w xs g) (m : Mo w w') : Itm K ad J w' xs g := fun u mu => h u (m.trans mu)
theorem Gd.ok_one {n : Nat} {xs : List A} {S : List O} (h : Gd.ok [(n, xs)] S) : S[n]? = some (.lst xs) := h (n, xs) (by simp)
theorem Gd.ok_l {g g' : Gd} {S : List O} (h : Gd.ok (g ++ g') S) : g.ok S := fun p hp => h p (List.mem_append_left _ hp)
theorem Gd.ok_r {g g' : Gd} {S : List O} (h : Gd.ok (g ++ g') S) : g'.ok S := fun p hp => h p (List.mem_append_right _ hp)
/-- a list, as it stands later -/
theorem lst_at {K : PySem.W.Frag} {ad : Ad} {w : Wd} (s : RelS K ad.cls w) {a : A} {v : V} (r : RelA K w a v) {xs : List A} (e : lstO w.S a = some xs) :
    ∃ p, v = .ref p ∧ ∀ w', Mo w w' → RelS K ad.cls w' → (gdA a xs).ok w'.S → ∃ vs, SqL K w'.H p vs ∧ RelAs K w' xs vs := by
  unfold lstO at e
  split at e
  · rename_i ys h
    cases e
    cases a with
    | lst zs =>
      cases h
      obtain ⟨p, vs, rfl, hp, rs⟩ := relA_lst r
      exact ⟨p, rfl, fun w' m s' _ => ⟨vs, .inl (m.rd hp.1 hp.2).1, rs.mono m⟩⟩
    | ref n =>
      obtain ⟨p, e1, rfl⟩ := relA_ref r
      refine ⟨p, rfl, fun w' m s' g => ?_⟩
      obtain ⟨vs, q, rs⟩ := s'.obj n p _ (m.ix e1) (Gd.ok_one g)
      exact ⟨vs, SqL.of q, rs⟩
    | _ => cases h
  · rename_i ys h
    cases e
    cases a with
    | scr zs =>
      cases h
      obtain ⟨p, vs, rfl, hp, rs⟩ := relA_scr r
      refine ⟨p, rfl, fun w' m s' _ => ⟨vs, ?_, rs.mono m⟩⟩
      rcases hp with hp | hp
      · exact .inl (m.rd hp.1 hp.2).1
      · exact .inr hp
    | ref n =>
      simp only [der] at h
      split at h <;> cases h
    | _ => cases h
  · cases e
/-- a tuple -/
def tupO (a : A) : Option (List A) := match a with
  | .tup xs => some xs
  | .ktup xs => some xs
  | _ => none
theorem tup_at {K : PySem.W.Frag} {w : Wd} {a : A} {v : V} (r : RelA K w a v) {xs : List A} (e : tupO a = some xs) :
    ∃ p, v = .ref p ∧ ∃ vs, RelAs K w xs vs ∧ ∀ w', Mo w w' → SqT K w'.H p vs := by
  unfold tupO at e
  split at e
  · cases e
    obtain ⟨p, vs, rfl, hp, rs⟩ := relA_tup r
    exact ⟨p, rfl, vs, rs, fun w' m => .inl (.inl (m.keep p _ hp.1 hp.2).1)⟩
  · cases e
    obtain ⟨p, vs, rfl, hp, rs⟩ := relA_ktup r
    exact ⟨p, rfl, vs, rs, fun w' m => .inr hp⟩
  · cases e
theorem seqO_or {S : List O} {a : A} {xs : List A} (e : seqO S a = some xs) : lstO S a = some xs ∨ tupO a = some xs := by
  cases a <;> simp only [seqO] at e <;> first | (cases e; done) | skip
  · rename_i n
    split at e
    · rename_i ys hS
      cases e
      left; simp only [lstO, der, hS]
    · cases e
  · right; exact e
  · left; exact e
  · left; exact e
  · right; exact e
theorem len_at {α : Type} {xs : List α} {i : Nat} {a : α} (h : xs[i]? = some a) : i < xs.length := (List.getElem?_eq_some_iff.mp h).1
theorem itm_list {K : PySem.W.Frag} {ad : Ad} {w : Wd} {p : Addr} {xs : List A} {g : Gd} (h : ∀ w', Mo w w' → RelS K ad.cls w' → g.ok w'.S → ∃ vs, SqL K w'.H p vs ∧ RelAs K w' xs vs) : Itm K ad (Itl K p) w xs g := by
  intro w' m s gk i
  obtain ⟨vs, q, rs⟩ := h w' m s gk
  refine ⟨fun hi => ⟨vs, q, by rw [← rs.length]; exact Nat.le_of_eq hi⟩, fun a ha => ?_⟩
  obtain ⟨v, e, r⟩ := rs.get ha
  refine ⟨⟨vs, v, q, e⟩, fun x H' y => ?_⟩
  obtain ⟨e1, e2⟩ := y
  have := e2 vs q
  rw [e] at this; cases this
  exact ⟨w', e1.symm, rfl, Le.refl w', s, r⟩
theorem itm_tup {K : PySem.W.Frag} {ad : Ad} {w : Wd} {p : Addr} {xs : List A} {g : Gd} {vs : List V} (rs : RelAs K w xs vs) (h : ∀ w', Mo w w' → SqT K w'.H p vs) : Itm K ad (Itt K p) w xs g := by
  intro w' m s gk i
  have q := h w' m
  have rs := rs.mono m
  refine ⟨fun hi => ⟨vs, q, by rw [← rs.length]; exact Nat.le_of_eq hi⟩, fun a ha => ?_⟩
  obtain ⟨v, e, r⟩ := rs.get ha
  refine ⟨⟨vs, v, q, e⟩, fun x H' y => ?_⟩
  obtain ⟨e1, e2⟩ := y
  have := e2 vs q
  rw [e] at this; cases this
  exact ⟨w', e1.symm, rfl, Le.refl w', s, r⟩
theorem rngA_len (n : Nat) : ∀ lo : Int, (rngA lo n).length = n := by
  induction n with
  | zero => intro lo; rfl
  | succ n ih => intro lo; simp [rngA, ih]
theorem rngA_get (n : Nat) : ∀ (lo : Int) (i : Nat) (a : A), (rngA lo n)[i]? = some a → i < n ∧ a = .int (lo + i) := by
  induction n with
  | zero => intro lo i a h; cases h
  | succ n ih =>
    intro lo i a h
    cases i with
    | zero => cases h; exact ⟨by omega, by simp⟩
    | succ i =>
      obtain ⟨h1, h2⟩ := ih (lo + 1) i a (by simpa [rngA] using h)
      refine ⟨by omega, by rw [h2]; congr 1; push_cast; omega⟩
theorem itm_rng {K : PySem.W.Frag} {ad : Ad} {w : Wd} {lo : Int} {n : Nat} : Itm K ad (Itr lo n) w (rngA lo n) [] := by
  intro w' m s gk i
  refine ⟨fun hi => by rw [rngA_len] at hi; exact Nat.le_of_eq hi, fun a ha => ?_⟩
  obtain ⟨h1, rfl⟩ := rngA_get n lo i a ha
  refine ⟨h1, fun x H' y => ?_⟩
  obtain ⟨e1, rfl⟩ := y
  exact ⟨w', e1.symm, rfl, Le.refl w', s, int_rel⟩
theorem itm_str {K : PySem.W.Frag} {ad : Ad} {w : Wd} {x : List Nat} (o : okS x) : Itm K ad (Its (mkS x)) w (x.map fun c => A.str [c]) [] := by
  intro w' m s gk i
  have hz : (mkS x).cps.size = x.length := by simp [mkS]
  refine ⟨fun hi => by show (mkS x).cps.size ≤ i; rw [hz]; simp at hi; omega, fun a ha => ?_⟩
  have hi := len_at ha
  rw [List.length_map] at hi
  refine ⟨by show i < (mkS x).cps.size; rw [hz]; exact hi, fun v H' y => ?_⟩
  obtain ⟨e1, c, e2, rfl⟩ := y
  rw [← Array.getElem?_toList, mkS_cps] at e2
  rw [List.getElem?_map, e2] at ha
  cases ha
  refine ⟨w', e1.symm, rfl, Le.refl w', s, str_rel (x := [c]) ⟨by show 1 ≤ sizeLine; decide, fun d hd => ?_⟩⟩
  have : d = c := by simpa using hd
  subst this
  exact o.2 d (List.mem_of_getElem? e2)
theorem enumA_get : ∀ (xs : List A) (k : Int) (i : Nat) (a : A), (enumA k xs)[i]? = some a → ∃ x, xs[i]? = some x ∧ a = .tup [.int (k + i), x]
  | [], _, _, _, h => by cases h
  | x :: xs, k, 0, a, h => by cases h; exact ⟨x, rfl, by simp⟩
  | x :: xs, k, i + 1, a, h => by
    obtain ⟨y, h1, h2⟩ := enumA_get xs (k + 1) i a (by simpa [enumA] using h)
    exact ⟨y, by simpa using h1, by rw [h2]; congr 3; push_cast; omega⟩
theorem enumA_len : ∀ (xs : List A) (k : Int), (enumA k xs).length = xs.length
  | [], _ => rfl
  | x :: xs, k => by simp [enumA, enumA_len xs]
theorem itm_enum {K : PySem.W.Frag} {ad : Ad} {w : Wd} {p : Addr} {xs : List A} {g : Gd} (h : ∀ w', Mo w w' → RelS K ad.cls w' → g.ok w'.S → ∃ vs, SqL K w'.H p vs ∧ RelAs K w' xs vs) : Itm K ad (Ite K p) w (enumA 0 xs) g := by
  intro w' m s gk i
  obtain ⟨vs, q, rs⟩ := h w' m s gk
  refine ⟨fun hi => ⟨vs, q, by rw [← rs.length]; rw [enumA_len] at hi; exact Nat.le_of_eq hi⟩, fun a ha => ?_⟩
  obtain ⟨x, hx, rfl⟩ := enumA_get xs 0 i a ha
  obtain ⟨v, e, r⟩ := rs.get hx
  refine ⟨⟨vs, v, q, e⟩, fun y H' hy => ?_⟩
  obtain ⟨T, u, rfl, hT, rfl, e2⟩ := hy
  have := e2 vs q
  rw [e] at this; cases this
  refine ⟨⟨w'.ms, w'.S, upd w'.H T (.tup [.int (i : Nat), v]), w'.hid⟩, rfl, rfl, Le.grow (upd_grow hT), s.grow (upd_grow hT), ?_⟩
  have : (0 : Int) + (i : Nat) = (i : Nat) := by omega
  rw [this]
  exact new_tup s (RelAs.cons int_rel (RelAs.cons r RelAs.nil)) hT
theorem zipA_get : ∀ (xs ys : List A) (i : Nat) (a : A), (zipA xs ys)[i]? = some a → ∃ x y, xs[i]? = some x ∧ ys[i]? = some y ∧ a = .tup [x, y]
  | [], _, _, _, h => by simp [zipA] at h
  | _ :: _, [], _, _, h => by simp [zipA] at h
  | x :: xs, y :: ys, 0, a, h => by cases h; exact ⟨x, y, rfl, rfl, rfl⟩
  | x :: xs, y :: ys, i + 1, a, h => by
    obtain ⟨u, v, h1, h2, h3⟩ := zipA_get xs ys i a (by simpa [zipA] using h)
    exact ⟨u, v, by simpa using h1, by simpa using h2, h3⟩
theorem zipA_len : ∀ (xs ys : List A), (zipA xs ys).length = min xs.length ys.length
  | [], _ => by simp [zipA]
  | _ :: _, [] => by simp [zipA]
  | x :: xs, y :: ys => by simp [zipA, zipA_len xs ys]
theorem itm_zs {K : PySem.W.Frag} {ad : Ad} {w : Wd} {p q : Zs} {xs ys : List A} {g : Gd} (h : ∀ w', Mo w w' → RelS K ad.cls w' → g.ok w'.S → ∃ vs, p.at_ K w'.H vs ∧ RelAs K w' xs vs) (k : ∀ w', Mo w w' → RelS K ad.cls w' → g.ok w'.S → ∃ vs, q.at_ K w'.H vs ∧ RelAs K w' ys vs) :
    Itm K ad (Itzs K p q) w (zipA xs ys) g := by
  intro w' m s gk i
  obtain ⟨vs, q1, rs⟩ := h w' m s gk
  obtain ⟨us, q2, ts⟩ := k w' m s gk
  refine ⟨fun hi => ⟨vs, us, q1, q2, by rw [← rs.length]; rw [zipA_len] at hi; omega, by rw [← ts.length]; rw [zipA_len] at hi; omega, by rw [← rs.length, ← ts.length]; rw [zipA_len] at hi; omega⟩, fun a ha => ?_⟩
  obtain ⟨x, y, hx, hy, rfl⟩ := zipA_get xs ys i a ha
  obtain ⟨v, e1, r1⟩ := rs.get hx
  obtain ⟨u, e2, r2⟩ := ts.get hy
  refine ⟨⟨vs, us, v, u, q1, q2, e1, e2⟩, fun z H' hz => ?_⟩
  obtain ⟨T, v', u', rfl, hT, rfl, f1, f2⟩ := hz
  have := f1 vs q1
  rw [e1] at this; cases this
  have := f2 us q2
  rw [e2] at this; cases this
  exact ⟨⟨w'.ms, w'.S, upd w'.H T (.tup [v, u]), w'.hid⟩, rfl, rfl, Le.grow (upd_grow hT), s.grow (upd_grow hT), new_tup s (RelAs.cons r1 (RelAs.cons r2 RelAs.nil)) hT⟩
/-- what zip takes, as it stands later -/
theorem zs_at {K : PySem.W.Frag} {ad : Ad} {w : Wd} (s : RelS K ad.cls w) {a : A} {v : V} (r : RelA K w a v) {xs : List A} (e : zipO w.S a = some xs) :
    ∃ z : Zs, v = z.val ∧ (∃ vs, z.at_ K w.H vs) ∧ ∀ w', Mo w w' → RelS K ad.cls w' → (gdA a xs).ok w'.S → ∃ vs, z.at_ K w'.H vs ∧ RelAs K w' xs vs := by
  have seq : seqO w.S a = some xs → ∃ z : Zs, v = z.val ∧ (∃ vs, z.at_ K w.H vs) ∧ ∀ w', Mo w w' → RelS K ad.cls w' → (gdA a xs).ok w'.S → ∃ vs, z.at_ K w'.H vs ∧ RelAs K w' xs vs := fun e => by
    rcases seqO_or e with e3 | e3
    · obtain ⟨p, rfl, hx⟩ := lst_at s r e3
      obtain ⟨p', vs', ep', h', _⟩ := lstO_rel s r e3
      cases ep'
      exact ⟨.l p, rfl, ⟨vs', h'⟩, hx⟩
    · obtain ⟨p, rfl, vs, rs, hx⟩ := tup_at r e3
      exact ⟨.t p, rfl, ⟨vs, hx w (Mo.refl w)⟩, fun w' m _ _ => ⟨vs, hx w' m, rs.mono m⟩⟩
  cases a with
  | str x =>
    cases e
    obtain ⟨rfl, o⟩ := relA_str r
    have es : x.map (fun c => V.str (mkS [c])) = signsV (mkS x) := by
      unfold signsV
      rw [mkS_cps]; rfl
    exact ⟨.s (mkS x), rfl, ⟨_, rfl⟩, fun w' m _ _ => ⟨_, rfl, by rw [← es]; exact sgn_rel o⟩⟩
  | _ => exact seq e

/-! ### readings of iterations -/
def okI (K : PySem.W.Frag) (ad : Ad) (G : Gt) (Q : It → Hp → Prop) (E : XK) (w : Wd) : R (List A × Gd) → Prop
  | .ok xg S => ∀ w' J, w'.S = S → Le w w' → RelS K ad.cls w' → Itm K ad J w' xg.1 xg.2 → Q J w'.H
  | .ex c fs S => ∀ w' cv d, w'.S = S → Le w w' → RelS K ad.cls w' → ExR K ad G w' c fs cv d → E cv d w'.H
  | .no => False
def tI (K : PySem.W.Frag) (ad : Ad) (G : Gt) (W : WX) (m : Tau → List O → R (List A × Gd)) : TI := fun σ H Q => ∃ w τ, w.H = H ∧ RelS K ad.cls w ∧ RelT K w τ σ ∧ okI K ad G Q (fun c d H' => W c d σ H') w (m τ w.S)
section
variable {K : PySem.W.Frag} {ad : Ad} {G : Gt} {W : WX} {E : XK} {w w' : Wd} {σ : L2.St} {H : Hp}
theorem okI.at {Q : It → Hp → Prop} {r : R (List A × Gd)} (h : okI K ad G Q E w r) (le : Le w w') : okI K ad G Q E w' r := by
  cases r with
  | ok a S => exact fun u J e l s q => h u J e (le.trans l) s q
  | ex c fs S => exact fun u cv d e l s q => h u cv d e (le.trans l) s q
  | no => exact h
theorem okI.of {Q : It → Hp → Prop} {o : Option (List A × Gd)} {S : List O} (h : okI K ad G Q E w (R.of o S)) : ∃ a, o = some a ∧ okI K ad G Q E w (.ok a S) := by
  cases o with
  | none => exact h.elim
  | some a => exact ⟨a, rfl, h⟩
theorem okI.ret {Q : It → Hp → Prop} {a : List A × Gd} {S : List O} {J : It} (h : okI K ad G Q E w (.ok a S)) (e : w.S = S) (s : RelS K ad.cls w) (r : Itm K ad J w a.1 a.2) : Q J w.H := h w J e (Le.refl w) s r
theorem okA.bindI {r : R (List A)} {f : List A → List O → R (List A × Gd)} {Q : List V → Hp → Prop} {Q' : It → Hp → Prop} (h : okI K ad G Q' E w (r.bind f))
    (k : ∀ w' a v, Le w w' → RelS K ad.cls w' → RelAs K w' a v → okI K ad G Q' E w' (f a w'.S) → Q v w'.H) : okA K ad G Q E w r :=
  okA.then (P := fun w x => okI K ad G Q' E w x) h (fun _ _ l h => h.at l) (fun _ _ _ h => h) id k
theorem okR.bindI {r : R A} {f : A → List O → R (List A × Gd)} {Q : VK} {Q' : It → Hp → Prop} (h : okI K ad G Q' E w (r.bind f))
    (k : ∀ w' a v, Le w w' → RelS K ad.cls w' → RelA K w' a v → okI K ad G Q' E w' (f a w'.S) → Q v w'.H) : okR K ad G Q E w r :=
  okR.then (P := fun w x => okI K ad G Q' E w x) h (fun _ _ l h => h.at l) (fun _ _ _ h => h) id k
theorem okI.then {r : R (List A × Gd)} {α : Type} {f : List A × Gd → List O → R α} {P : Wd → R α → Prop} {Q : It → Hp → Prop} (h : P w (r.bind f)) (hP : ∀ w' x, Le w w' → P w x → P w' x)
    (hex : ∀ c fs S, P w (.ex c fs S) → okI K ad G Q E w (.ex c fs S)) (hno : P w .no → False)
    (k : ∀ w' a J, Le w w' → RelS K ad.cls w' → Itm K ad J w' a.1 a.2 → P w' (f a w'.S) → Q J w'.H) : okI K ad G Q E w r := by
  cases r with
  | ok a S =>
    intro w' J e l s q
    exact k w' a J l s q (by rw [e]; exact hP w' _ l h)
  | ex c fs S => exact hex c fs S h
  | no => exact hno h
end
section
variable {X : Cx} {ad : Ad} {G : Gt} {W : WX} {tg e : Expr}
/-- a list or a tuple, whichever it is -/
def iSeq (K : PySem.W.Frag) (te : TE) : TI := fun σ H Q => te σ H fun x H1 => ∃ p, x = .ref p ∧ (((∃ xs, SqL K H1 p xs) ∧ Q (Itl K p) H1) ∨ ((∃ xs, SqT K H1 p xs) ∧ Q (Itt K p) H1))
theorem pi_seq {te : TE} (he : PE X e te) : PI X tg e (iSeq X.K te) := by
  constructor
  intro pins s σ H Q inv hw
  refine thn (he.run pins s σ H _ inv hw) ?_
  rintro u t ⟨x, H1, inv1, rx, p, rfl, hx⟩
  cases rx
  have fp0 : ∀ c ∈ [t.heap.objs.size], FpOk X pins H1 c := by
    intro c hc
    rw [List.mem_singleton.mp hc]
    exact inv1.fpOk (Nat.le_refl _) (inv1.hok.fresh (Nat.le_refl _))
  rcases hx with ⟨⟨xs, hq⟩, hQ⟩ | ⟨⟨xs, hq⟩, hQ⟩
  · obtain ⟨its, _, pl, _⟩ := inv1.list hq
    exact wpAny_pyIter_list pl.isList ⟨_, _, _, _, H1, rfl, inv1.kept (t' := t.toks) (fun c o z => Heap.get?_push_of_some _ z), turn_list p _, ⟨_, Heap.get?_push_size _ rfl, rfl, rfl⟩, fp0, hQ⟩
  · obtain ⟨its, _, pl, _⟩ := inv1.tuple hq
    exact wpAny_pyIter_tuple (items := its.toArray) pl ⟨_, _, _, _, H1, rfl, inv1.kept (t' := t.toks) (fun c o z => Heap.get?_push_of_some _ z), turn_tuple p _, ⟨_, Heap.get?_push_size _ rfl, rfl, rfl⟩, fp0, hQ⟩
end
end Lt
/-! the program's text against the small language's -/
namespace Lt
open PySem L2
/-- a text's context: the names' slots, the scope, which names may be stored -/
structure MC where
  N : List Str
  sc : Scope
  fb : Str → Bool
def MC.blk (m : MC) (scope : Scope) : MC := ⟨m.N, relS scope m.sc, fun x => scope.names.lookup x == some .cell⟩
def seen (sc : Scope) (x : Str) : Bool := match sc.names.lookup x with | some .local => true | some .cell => true | some .free => true | _ => false
def glob (sc : Scope) (x : Str) : Bool := match sc.names.lookup x with | some .globalImplicit => true | _ => false
def odd (x : Str) : Bool := x == ("__debug__" : Str) || x == ("__classdict__" : Str)
def stor (m : MC) (x : Str) : Bool := match m.sc.names.lookup x with | some .local => true | some .cell => m.fb x | _ => false
def biN : Bi → Str
  | .len => "len" | .all => "all" | .any => "any" | .sum => "sum" | .max => "max" | .min => "min" | .abs => "abs"
  | .int => "int" | .bool => "bool" | .list _ => "list" | .tuple => "tuple" | .str => "str" | .dict _ => "dict" | .repr => "repr" | .sorted _ => "sorted" | .ord => "ord" | .chr => "chr"
def tyNm : Ty → Str
  | .int => "int" | .str => "str" | .bool => "bool" | .list => "list" | .tuple => "tuple" | .dict => "dict" | .own _ => ""
/-- the built-in names that a text may use -/
def bltN : List Str := ["len", "all", "any", "sum", "max", "min", "abs", "int", "bool", "list", "tuple", "str", "dict", "repr", "sorted", "ord", "chr", "isinstance", "range", "enumerate", "zip"]
def un : Expr → Expr | .Starred e _ => e | e => e
/-- the last one starred, no other -/
def starLast : List Expr → Bool
  | [] => false
  | [.Starred _ _] => true
  | e :: es => noStar e && starLast es
def mNs (m : MC) : List Nat → List Expr → Bool
  | [], [] => true
  | i :: is, e :: es => (match e with | .Name x _ => m.N[i]? == some x && stor m x | _ => false) && mNs m is es
  | _, _ => false
def isTup : Expr → Bool | .Tuple .. => true | _ => false
def callOf (m : MC) (f : Str) : Expr → Option (List Expr)
  | .Call (.Name g _) args [] _ => if g == f && glob m.sc g then some args else none
  | _ => none
/-- what a walk's expression is made from -/
def srcArgs (m : MC) (k : IK) (tg iter : Expr) : Option (List Expr) := match k with
  | .seq => some [iter]
  | .sgn => some [iter]
  | .rng => callOf m "range" iter
  | .enum => if isTup tg then callOf m "enumerate" iter else none
  | .zip => if isTup tg then callOf m "zip" iter else none
  | _ => none
def rngLen : IK → Nat → Bool
  | .seq, n => n == 1 | .sgn, n => n == 1 | .rng, n => n == 1 || n == 2 | .enum, n => n == 1 | .zip, n => n == 2 | _, _ => false
mutual
def mT (m : MC) : T → Expr → Bool
  | .nm i, .Name x _ => m.N[i]? == some x && stor m x
  | .tup ts, .Tuple es _ _ => mTs m ts es
  | .star is i, .Tuple es _ _ => starLast es && mNs m (is ++ [i]) (es.map un)
  | _, _ => false
def mTs (m : MC) : List T → List Expr → Bool
  | [], [] => true
  | t :: ts, e :: es => noStar e && mT m t e && mTs m ts es
  | _, _ => false
end
def mK : E → Option Expr → Bool
  | .cS x, some (.Constant (.str y) _ _) => y == mkS x && decide (x.length ≤ 100000) && x.all (fun c => decide (c < 0x110000))
  | .cI i, some (.Constant (.int j) _ _) => i == j
  | _, _ => false
def mKs : List E → List (Option Expr) → Bool
  | [], [] => true
  | e :: es, x :: xs => mK e x && mKs es xs
  | _, _ => false
section
variable (G : Gt)
mutual
def mE (m : MC) : E → Expr → Bool
  | .nm i, x_ => (match x_ with | .Name x _ => (m.N[i]? == some x && seen m.sc x && !odd x) | _ => false)
  | .cN, x_ => (match x_ with | .Constant .none _ _ => (true) | _ => false)
  | .cB b, x_ => (match x_ with | .Constant (.bool c) _ _ => (b == c) | _ => false)
  | .cI i, x_ => (match x_ with | .Constant (.int j) _ _ => (i == j) | _ => false)
  | .cS x, x_ => (match x_ with | .Constant (.str y) _ _ => (y == mkS x && decide (x.length ≤ 100000) && x.all (fun c => decide (c < 0x110000))) | _ => false)
  | .gl x, x_ => (match x_ with | .Name y _ => (x == y && glob m.sc y && (G.consts.lookup x).isSome && !odd y) | _ => false)
  | .frz e, x => mE m e x
  | .bin op _ a b, x_ => (match x_ with | .BinOp x op' y _ => (decide (op = op') && mE m a x && mE m b y) | _ => false)
  | .neg a, x_ => (match x_ with | .UnaryOp .USub x _ => (mE m a x) | _ => false)
  | .no_ a, x_ => (match x_ with | .UnaryOp .Not x _ => (mE m a x) | _ => false)
  | .and_ a b, x_ => (match x_ with | .BoolOp .And (x :: y :: r) p => (mE m a x && (match r with | [] => mE m b y | z :: r' => mE m b (.BoolOp .And (y :: z :: r') p))) | _ => false)
  | .or_ a b, x_ => (match x_ with | .BoolOp .Or (x :: y :: r) p => (mE m a x && (match r with | [] => mE m b y | z :: r' => mE m b (.BoolOp .Or (y :: z :: r') p))) | _ => false)
  | .ifx t a b, x_ => (match x_ with | .IfExp x y z _ => (mE m t x && mE m a y && mE m b z) | _ => false)
  | .cmp op a b, x_ => (match x_ with | .Compare x [op'] [y] _ => (decide (op = op') && !behindInMarks op y && mE m a x && mE m b y) | _ => false)
  | .chn p q a b c, x_ => (match x_ with | .Compare x [p', q'] [y, z] _ => (decide (p = p') && decide (q = q') && !behindInMarks q z && mE m a x && mE m b y && mE m c z) | _ => false)
  | .tup es, x_ => (match x_ with | .Tuple xs _ _ => (decide (xs.length ≤ 100000) && mEs m es xs) | _ => false)
  | .lst _ es, x_ => (match x_ with | .List xs _ => (decide (xs.length ≤ 100000) && mEs m es xs) | _ => false)
  | .dic _ [] [], x_ => (match x_ with | .Dict [] [] _ => (true) | _ => false)
  | .dic _ (k :: ks) vs, x_ => (match x_ with | .Dict keys values _ => (mKs (k :: ks) keys && decide (keys.length ≤ 15) && decide (keys.length = values.length) && mEs m vs values) | _ => false)
  | .call d es, x_ => (match x_ with | .Call (.Name x _) xs [] _ => (glob m.sc x && !odd x && decide (G.dnames[d]? = some (some x)) && mEs m es xs) | _ => false)
  | .kcall h es ws, x_ => (match x_ with | .Call (.Name x _) xs (kw :: kws) _ => (glob m.sc x && !odd x && (match G.kwc[h]? with | some kc => decide (G.dnames[kc.d]? = some (some x)) && decide ((kw :: kws).map (·.arg) = kc.ks.map some) | none => false) && mEs m es xs && mEs m ws ((kw :: kws).map (·.value))) | _ => false)
  | .mk c es, x_ => (match x_ with | .Call (.Name x _) xs [] _ => (glob m.sc x && !odd x && (match G.clss[c]? with | some ci => ci.name == x && ci.init.isSome | none => false) && mEs m es xs) | _ => false)
  | .mth f o es, x_ => (match x_ with | .Call (.Attribute x g apos) xs [] pos => (f == g && plainBase x && apos.endLine == pos.line && decide (xs.length < 20) && mE m o x && mEs m es xs) | _ => false)
  | .fld o f, x_ => (match x_ with | .Attribute x g _ => (f == g && plainBase x && mE m o x) | _ => false)
  | .bi b es, x_ => (match x_ with | .Call (.Name x _) xs [] _ => (x == biN b && glob m.sc x && bltN.contains x && !xs.isEmpty && mEs m es xs) | _ => false)
  | .isi e t, x_ => (match x_ with | .Call (.Name x _) [y, .Name z _] [] _ => (x == ("isinstance" : Str) && glob m.sc x && glob m.sc z && mE m e y && noStar y && (match t with | .own c => (match G.clss[c]? with | some ci => ci.name == z && !odd z | none => false) | t => tyNm t == z)) | _ => false)
  | .sl _ a lo hi, x_ => (match x_ with | .Subscript x (.Slice lo' hi' none _) _ => (mE m a x && (match lo' with | none => lo.isEmpty | some y => mEs m lo [y]) && (match hi' with | none => hi.isEmpty | some y => mEs m hi [y])) | _ => false)
  | .bm b o es, x_ => (match x_ with | .Call (.Attribute x f apos) xs [] pos => (f == bmN b && plainBase x && apos.endLine == pos.line && decide (xs.length < 20) && mE m o x && mEs m es xs) | _ => false)
  | .idx a b, x_ => (match x_ with | .Subscript x y _ => (plainSub y && mE m a x && mE m b y) | _ => false)
  | .tab y e, x_ => (match x_ with | .Subscript (.Name z _) i _ => (y == z && glob m.sc z && !odd z && plainSub i && (G.tabs.lookup y).isSome && mE m e i) | _ => false)
  | .tabIn neg y e, x_ => (match x_ with | .Compare l [op] [.Name z p] _ => (y == z && glob m.sc z && !odd z && (G.tabs.lookup y).isSome && decide (op = (if neg then CmpOp.NotIn else CmpOp.In)) && !behindInMarks op (.Name z p) && mE m e l) | _ => false)
  | .dc ke ve t k src ifs own, x_ => (match x_ with | .DictComp ke' ve' [⟨tg, iter, ifs', asy⟩] scope _ => (asy == 0 && noSet iter && (match srcArgs m k tg iter with | some args => rngLen k args.length && mEs m src args | none => false) && mT (m.blk scope) t tg && mE (m.blk scope) ke ke' && mE (m.blk scope) ve ve' && (ifs'.length ≤ 1) && mEs (m.blk scope) ifs ifs' && blkC m.N m.sc scope own && t.slots.all (fun i => (own.map (·.2)).contains i)) | _ => false)
  | .lc _ elt t k src ifs own, x_ => (match x_ with | .ListComp elt' [⟨tg, iter, ifs', asy⟩] scope _ => (asy == 0 && noSet iter && (match srcArgs m k tg iter with | some args => rngLen k args.length && mEs m src args | none => false) && mT (m.blk scope) t tg && mE (m.blk scope) elt elt' && (ifs'.length ≤ 1) && mEs (m.blk scope) ifs ifs' && blkC m.N m.sc scope own && t.slots.all (fun i => (own.map (·.2)).contains i)) | _ => false)
  | _, _ => false
def mEs (m : MC) : List E → List Expr → Bool
  | [], [] => true
  | e :: es, x :: xs => noStar x && mE m e x && mEs m es xs
  | _, _ => false
end
end
/-! ### statements -/
def isLc : E → Bool | .lc .. => true | _ => false
def notDisp : Expr → Bool | .Tuple .. => false | _ => true
/-- name = a comprehension, stored within -/
def swB (m : MC) (t : Str) (tl : Nat) : Expr → Bool
  | .ListComp _ _ s p => (match m.sc.names.lookup t with | some .local => true | _ => false) && tl == p.line && !(s.names.any fun (n, k) => n == t && (k == .local || k == .cell))
  | _ => false
section
variable (G : Gt)
mutual
def mS (m : MC) : Sm → Stmt → Bool
  | .asg (.t (.nm i)) e, s_ => (match s_ with | .Assign [.Name x p] v _ => mT m (.nm i) (.Name x p) && mE G m e v && (noComp v || (isLc e && swB m x p.line v)) | _ => false)
  | .asg (.t (.tup ts)) e, s_ => (match s_ with | .Assign [.Tuple es k p] v _ => mTs m ts es && mE G m e v && noComp v && notDisp v | _ => false)
  | .asg (.sub o i) e, s_ => (match s_ with | .Assign [.Subscript x y _] v _ => mE G m o x && mE G m i y && plainSub y && mE G m e v && noComp v | _ => false)
  | .asg (.fld o f) e, s_ => (match s_ with | .Assign [.Attribute x g _] v _ => f == g && plainBase x && mE G m o x && mE G m e v && noComp v | _ => false)
  | .ex e, s_ => (match s_ with | .Expr v _ => mE G m e v && noComp v | _ => false)
  | .ret e, s_ => (match s_ with | .Return (some v) _ => mE G m e v | _ => false)
  | .retN, s_ => (match s_ with | .Return none _ => true | _ => false)
  | .pass, s_ => (match s_ with | .Pass _ => true | _ => false)
  | .brk, s_ => (match s_ with | .Break _ => true | _ => false)
  | .cont, s_ => (match s_ with | .Continue _ => true | _ => false)
  | .never, _ => true
  | .ifs c a b, s_ => (match s_ with | .If c' a' b' _ => mE G m c c' && mSs m a a' && mSs m b b' | _ => false)
  | .forr t k src b, s_ => (match s_ with | .For tg iter b' [] _ => noSet iter && (match srcArgs m k tg iter with | some args => rngLen k args.length && mEs G m src args | none => false) && mT m t tg && mSs m b b' | _ => false)
  | .whl _ c b, s_ => (match s_ with | .While c' b' [] _ => mE G m c c' && mSs m b b' | _ => false)
  | _, _ => false
def mSs (m : MC) : List Sm → List Stmt → Bool
  | [], [] => true
  | s :: ss, t :: ts => mS m s t && mSs m ss ts
  | _, _ => false
end
end
end Lt
/-! targets; comprehensions -/
namespace Lt
open PySem L2
/-! ### targets -/
/-- only these slots have changed -/
structure Chg (l : List Nat) (σ σ' : L2.St) : Prop where
  len : σ'.length = σ.length
  at_ : ∀ i, i ∉ l → σ'[i]? = σ[i]?
theorem Chg.refl (l : List Nat) (σ : L2.St) : Chg l σ σ := ⟨rfl, fun _ _ => rfl⟩
theorem Chg.trans {l l' : List Nat} {a b c : L2.St} (h : Chg l a b) (k : Chg l' b c) : Chg (l ++ l') a c :=
  ⟨k.len.trans h.len, fun i hi => (k.at_ i fun z => hi (List.mem_append_right _ z)).trans (h.at_ i fun z => hi (List.mem_append_left _ z))⟩
theorem Chg.set {σ : L2.St} (i : Nat) (v : Option V) : Chg [i] σ (σ.set i v) := ⟨by simp, fun j hj => List.getElem?_set_ne (fun z => hj (by simp [z]))⟩
theorem wipe_at (σ : L2.St) : ∀ (vs : List Nat) (i : Nat), (wipe σ vs)[i]? = if i ∈ vs ∧ i < σ.length then some none else σ[i]?
  | [], i => by simp [wipe]
  | v :: vs, i => by
    have ih := wipe_at σ vs i
    have hl := wipe_length σ vs
    unfold wipe
    by_cases h : v = i
    · subst h
      by_cases hi : v < σ.length
      · rw [List.getElem?_set_self (by rw [hl]; exact hi), if_pos ⟨List.mem_cons_self, hi⟩]
      · rw [List.getElem?_eq_none (by simp [hl]; omega), if_neg (by simp [hi]), List.getElem?_eq_none (by omega)]
    · rw [List.getElem?_set_ne h, ih]
      have : (i ∈ v :: vs ∧ i < σ.length) ↔ (i ∈ vs ∧ i < σ.length) := by simp [Ne.symm h]
      simp only [this]
theorem Chg.wipe {l vs : List Nat} {σ σ' : L2.St} (h : Chg l σ σ') (hs : ∀ i ∈ l, i ∈ vs) : L2.wipe σ' vs = L2.wipe σ vs := by
  apply List.ext_getElem?
  intro i
  rw [wipe_at, wipe_at, h.len]
  by_cases hi : i ∈ vs ∧ i < σ.length
  · rw [if_pos hi, if_pos hi]
  · rw [if_neg hi, if_neg hi]
    by_cases hm : i ∈ l
    · have : ¬ i < σ.length := fun z => hi ⟨hs i hm, z⟩
      rw [List.getElem?_eq_none (by rw [h.len]; omega), List.getElem?_eq_none (by omega)]
    · exact h.at_ i hm
theorem wipe_wipe (σ : L2.St) (vs : List Nat) : L2.wipe (L2.wipe σ vs) vs = L2.wipe σ vs := by
  apply List.ext_getElem?
  intro i
  rw [wipe_at, wipe_at, wipe_length]
  split <;> rfl
def gT (K : PySem.W.Frag) (ad : Ad) (t : T) : TG := fun v σ H Q => ∃ w τ a τ', w.H = H ∧ RelS K ad.cls w ∧ RelT K w τ σ ∧ RelA K w a v ∧ T.asg t a τ = some τ' ∧
  ∀ w' σ', w'.S = w.S → Le w w' → RelS K ad.cls w' → RelT K w' τ' σ' → Chg t.slots σ σ' → Q σ' w'.H
def gTs (K : PySem.W.Frag) (ad : Ad) (ts : List T) : TGs := fun vs σ H Q => ∃ w τ xs τ', w.H = H ∧ RelS K ad.cls w ∧ RelT K w τ σ ∧ RelAs K w xs vs ∧ T.asgs ts xs τ = some τ' ∧
  ∀ w' σ', w'.S = w.S → Le w w' → RelS K ad.cls w' → RelT K w' τ' σ' → Chg (T.slotss ts) σ σ' → Q σ' w'.H
theorem PG.imp {X : Cx} {e : Expr} {t t' : TG} (h : PG X e t) (k : ∀ v σ H Q, t' v σ H Q → t v σ H Q) : PG X e t' := ⟨fun pins s σ H v u Q I r q => h.run pins s σ H v u Q I r (k _ _ _ _ q)⟩
theorem PGs.imp {X : Cx} {e : List Expr} {t t' : TGs} (h : PGs X e t) (k : ∀ v σ H Q, t' v σ H Q → t v σ H Q) : PGs X e t' := ⟨fun pins s σ H v u Q I r q => h.run pins s σ H v u Q I r (k _ _ _ _ q)⟩
/-- the context is as the matcher takes it -/
structure Mx (X : Cx) (m : MC) : Prop where
  N : X.N = m.N
  sc : X.env.scope = m.sc
  fb : ∀ x, m.fb x = true → X.fn x = true
  nd : X.N.Nodup
  calm : X.calm = true
theorem assign_one {e : Expr} (h : noStar e = true) (es : List Expr) (env : Env) : assignEach (e :: es) env = (false, assign e env) :: assignEach es env := by
  cases e <;> first | rfl | cases h
theorem assign_len (env : Env) (m : MC) : ∀ {ts : List T} {es : List Expr}, mTs m ts es = true → (assignEach es env).length = es.length ∧ (assignEach es env).findIdx? (·.1) = none ∧ ts.length = es.length
  | [], [], _ => ⟨rfl, rfl, rfl⟩
  | t :: ts, [], h => by simp [mTs] at h
  | [], e :: es, h => by simp [mTs] at h
  | t :: ts, e :: es, h => by
    have h' : (noStar e = true ∧ mT m t e = true) ∧ mTs m ts es = true := by simpa [mTs] using h
    obtain ⟨h1, h2, h3⟩ := assign_len env m h'.2
    rw [assign_one h'.1.1]
    refine ⟨by simp [h1], ?_, by simp [h3]⟩
    rw [List.findIdx?_cons, h2]; rfl
theorem asgs_len : ∀ {ts : List T} {xs : List A} {τ τ' : Tau}, T.asgs ts xs τ = some τ' → xs.length = ts.length
  | [], [], _, _, _ => rfl
  | [], _ :: _, _, _, h => by simp [T.asgs] at h
  | _ :: _, [], _, _, h => by simp [T.asgs] at h
  | t :: ts, x :: xs, τ, τ', h => by
    simp only [T.asgs] at h
    split at h
    · simp [asgs_len h]
    · cases h
section
variable {X : Cx} {ad : Ad} {m : MC}
theorem star_last {es : List Expr} (env : Env) (h : starLast es = true) : (assignEach es env).findIdx? (·.1) = some (es.length - 1) ∧ (assignEach es env).length = es.length ∧ 0 < es.length := by
  induction es with
  | nil => cases h
  | cons e es ih =>
    cases es with
    | nil =>
      cases e <;> first | exact ⟨rfl, rfl, by simp⟩ | (simp [starLast, noStar] at h)
    | cons e2 es =>
      have h' : noStar e = true ∧ starLast (e2 :: es) = true := by
        cases e <;> first | (simpa [starLast] using h) | (simp [starLast, noStar] at h)
      obtain ⟨h1, h2, h3⟩ := ih h'.2
      rw [assign_one h'.1]
      refine ⟨?_, by simp [h2], by simp⟩
      rw [List.findIdx?_cons, h1]
      simp
theorem un_each {es : List Expr} (env : Env) (h : ∀ e ∈ es, noStar (un e) = true) : (assignEach es env).map (·.2) = (assignEach (es.map un) env).map (·.2) := by
  induction es with
  | nil => rfl
  | cons e es ih =>
    have ih := ih fun z hz => h z (List.mem_cons_of_mem _ hz)
    have hc : (assignEach (e :: es) env).map (·.2) = assign (un e) env :: (assignEach es env).map (·.2) := by cases e <;> rfl
    rw [hc, List.map_cons, assign_one (h e List.mem_cons_self), List.map_cons, ih]
theorem sNm (M : Mx X m) {i : Nat} {x : Str} {pos : Pos} (h1 : (m.N[i]? == some x) = true) (h2 : stor m x = true) : PG X (.Name x pos) (gT X.K ad (.nm i)) := by
  rw [beq_iff_eq] at h1
  have h3 : Loc X.env.scope x ∧ (X.fn x = true ∨ X.env.scope.names.lookup x = some .local) := by
    rw [M.sc]
    unfold stor at h2
    split at h2
    · rename_i e; exact ⟨.inl e, .inr e⟩
    · rename_i e; exact ⟨.inr e, .inl (M.fb x h2)⟩
    · cases h2
  refine PG.imp (pg_name (i := i) M.nd (by rw [M.N]; exact h1) h3.1 h3.2) ?_
  rintro v σ H Q ⟨w, τ, a, τ', rfl, s, rt, ra, e, k⟩
  cases e
  exact k w _ rfl (Le.refl w) s (rt.set i ra) (Chg.set i _)
def gNs (K : PySem.W.Frag) (ad : Ad) (is : List Nat) : TGs := fun vs σ H Q => ∃ w τ xs τ', w.H = H ∧ RelS K ad.cls w ∧ RelT K w τ σ ∧ RelAs K w xs vs ∧ asgN is xs τ = some τ' ∧
  ∀ w' σ', w'.S = w.S → Le w w' → RelS K ad.cls w' → RelT K w' τ' σ' → Chg is σ σ' → Q σ' w'.H
theorem sNs (M : Mx X m) : ∀ (is : List Nat) (es : List Expr), mNs m is es = true → PGs X es (gNs X.K ad is) ∧ es.length = is.length ∧ ∀ e ∈ es, noStar e = true
  | [], [], h => by
    refine ⟨PGs.imp pgs_nil ?_, rfl, fun e he => (by cases he)⟩
    rintro v σ H Q ⟨w, τ, xs, τ', rfl, s, rt, ra, e, k⟩
    have hx : xs = [] := by cases xs with | nil => rfl | cons _ _ => simp [asgN] at e
    subst hx
    simp only [RelAs] at ra
    cases e
    exact ⟨ra, k w σ rfl (Le.refl w) s rt (Chg.refl _ _)⟩
  | i :: is, [], h => by simp [mNs] at h
  | [], e :: es, h => by simp [mNs] at h
  | i :: is, e :: es, h => by
    obtain ⟨x, pos, rfl⟩ : ∃ x pos, e = .Name x pos := by
      cases e <;> first | exact ⟨_, _, rfl⟩ | (simp [mNs] at h)
    have h' : ((m.N[i]? == some x) = true ∧ stor m x = true) ∧ mNs m is es = true := by simpa [mNs] using h
    obtain ⟨p, l, ns⟩ := sNs M is es h'.2
    refine ⟨PGs.imp (pgs_cons (sNm (ad := ad) M (pos := pos) h'.1.1 h'.1.2) p (by rfl)) ?_, by simp [l], fun z hz => ?_⟩
    · rintro v σ H Q ⟨w, τ, xs, τ', rfl, s, rt, ra, e, k⟩
      cases xs with
      | nil => simp [asgN] at e
      | cons x xs =>
        simp only [asgN] at e
        simp only [RelAs] at ra
        obtain ⟨v1, r, rfl, r1, r2⟩ := ra
        refine ⟨v1, r, rfl, w, τ, x, τ.set i (some x), rfl, s, rt, r1, rfl, fun w2 σ2 eS l s2 rt2 c => ?_⟩
        exact ⟨w2, _, xs, τ', rfl, s2, rt2, r2.mono l.mo, e, fun w3 σ3 eS3 l3 s3 rt3 c3 => k w3 σ3 (eS3.trans eS) (l.trans l3) s3 rt3 (c.trans c3)⟩
    · rcases List.mem_cons.mp hz with rfl | hz
      · rfl
      · exact ns z hz
mutual
theorem sT (M : Mx X m) : ∀ (t : T) (e : Expr), mT m t e = true → PG X e (gT X.K ad t)
  | .nm i, e, h => by
    cases e <;> simp only [mT] at h <;> first | (cases h; done) | skip
    rename_i x pos
    simp only [Bool.and_eq_true, beq_iff_eq] at h
    obtain ⟨h1, h2⟩ := h
    have h3 : Loc X.env.scope x ∧ (X.fn x = true ∨ X.env.scope.names.lookup x = some .local) := by
      rw [M.sc]
      unfold stor at h2
      split at h2
      · rename_i e; exact ⟨.inl e, .inr e⟩
      · rename_i e; exact ⟨.inr e, .inl (M.fb x h2)⟩
      · cases h2
    refine PG.imp (pg_name (i := i) M.nd (by rw [M.N]; exact h1) h3.1 h3.2) ?_
    rintro v σ H Q ⟨w, τ, a, τ', rfl, s, rt, ra, e, k⟩
    cases e
    exact k w _ rfl (Le.refl w) s (rt.set i ra) (Chg.set i _)
  | .tup ts, e, h => by
    cases e <;> simp only [mT] at h <;> first | (cases h; done) | skip
    rename_i es kk pos
    obtain ⟨h1, h2, h3⟩ := assign_len X.env m h
    refine PG.imp (pg_tup (n := es.length) M.calm (sTs M ts es h) h1 h2) ?_
    rintro v σ H Q ⟨w, τ, a, τ', rfl, s, rt, ra, e, k⟩
    have : ∃ p vs xs, v = .ref p ∧ SqT X.K w.H p vs ∧ RelAs X.K w xs vs ∧ T.asgs ts xs τ = some τ' := by
      cases a <;> simp only [T.asg] at e <;> first | (cases e; done) | skip
      · obtain ⟨p, vs, rfl, hp, rs⟩ := relA_tup ra
        exact ⟨p, vs, _, rfl, hp.sq, rs, e⟩
      · obtain ⟨p, vs, rfl, hp, rs⟩ := relA_ktup ra
        exact ⟨p, vs, _, rfl, .inr hp, rs, e⟩
    obtain ⟨p, vs, xs, rfl, hq, rs, e⟩ := this
    exact ⟨p, vs, rfl, hq, by rw [← rs.length, asgs_len e, h3], w, τ, xs, τ', rfl, s, rt, rs, e, k⟩
  | .star is i, e, h => by
    cases e <;> simp only [mT] at h <;> first | (cases h; done) | skip
    rename_i es kk pos
    simp only [Bool.and_eq_true] at h
    obtain ⟨h1, h2, h3⟩ := star_last X.env h.1
    obtain ⟨p, l, ns⟩ := sNs (ad := ad) M (is ++ [i]) (es.map un) h.2
    rw [List.length_map, List.length_append, List.length_singleton] at l
    have hk : es.length - 1 = is.length := by omega
    refine PG.imp (pg_star (k := is.length) M.calm p (un_each X.env fun e he => ns _ (List.mem_map_of_mem he)) (by rw [h2, l]) (by rw [h1, hk])) ?_
    rintro v σ H Q ⟨w, τ, a, τ', rfl, s, rt, ra, e, k⟩
    have : ∃ q vs xs, v = .ref q ∧ SqT X.K w.H q vs ∧ RelAs X.K w xs vs ∧ is.length ≤ xs.length ∧ asgN (is ++ [i]) (xs.take is.length ++ [.lst (xs.drop is.length)]) τ = some τ' := by
      cases a <;> simp only [T.asg] at e <;> first | (cases e; done) | skip
      · split at e
        · rename_i hl
          obtain ⟨q, vs, rfl, hp, rs⟩ := relA_tup ra
          exact ⟨q, vs, _, rfl, hp.sq, rs, hl, e⟩
        · cases e
      · split at e
        · rename_i hl
          obtain ⟨q, vs, rfl, hp, rs⟩ := relA_ktup ra
          exact ⟨q, vs, _, rfl, .inr hp, rs, hl, e⟩
        · cases e
    obtain ⟨q, vs, xs, rfl, hq, rs, hl, e⟩ := this
    refine ⟨q, vs, rfl, hq, by rw [← rs.length]; exact hl, fun D hD => ?_⟩
    have le : Le w ⟨w.ms, w.S, upd w.H D (.lst (vs.drop is.length)), w.hid⟩ := Le.grow (upd_grow hD)
    exact ⟨⟨w.ms, w.S, upd w.H D (.lst (vs.drop is.length)), w.hid⟩, τ, _, τ', rfl, s.grow (upd_grow hD), rt.mono le.mo, ((rs.take is.length).mono le.mo).append (RelAs.cons (new_lst s (rs.drop is.length) hD) RelAs.nil), e, fun w' σ' eS l' s' rt' c => k w' σ' eS (le.trans l') s' rt' c⟩
theorem sTs (M : Mx X m) : ∀ (ts : List T) (es : List Expr), mTs m ts es = true → PGs X es (gTs X.K ad ts)
  | [], [], h => by
    refine PGs.imp pgs_nil ?_
    rintro v σ H Q ⟨w, τ, xs, τ', rfl, s, rt, ra, e, k⟩
    have hx : xs = [] := by cases xs with | nil => rfl | cons _ _ => simp [T.asgs] at e
    subst hx
    simp only [RelAs] at ra
    cases e
    exact ⟨ra, k w σ rfl (Le.refl w) s rt (Chg.refl _ _)⟩
  | t :: ts, [], h => by simp [mTs] at h
  | [], e :: es, h => by simp [mTs] at h
  | t :: ts, e :: es, h => by
    have h' : (noStar e = true ∧ mT m t e = true) ∧ mTs m ts es = true := by simpa [mTs] using h
    refine PGs.imp (pgs_cons (sT M t e h'.1.2) (sTs M ts es h'.2) (by rw [assign_one h'.1.1]; rfl)) ?_
    rintro v σ H Q ⟨w, τ, xs, τ', rfl, s, rt, ra, e, k⟩
    cases xs with
    | nil => simp [T.asgs] at e
    | cons x xs =>
      simp only [T.asgs] at e
      simp only [RelAs] at ra
      obtain ⟨v1, r, rfl, r1, r2⟩ := ra
      split at e
      · rename_i τ1 e1
        refine ⟨v1, r, rfl, w, τ, x, τ1, rfl, s, rt, r1, e1, fun w2 σ2 eS l s2 rt2 c => ?_⟩
        refine ⟨w2, τ1, xs, τ', rfl, s2, rt2, r2.mono l.mo, e, fun w3 σ3 eS3 l3 s3 rt3 c3 => ?_⟩
        exact k w3 σ3 (eS3.trans eS) (l.trans l3) s3 rt3 (c.trans c3)
      · cases e
end
end
/-! ### a comprehension -/
/-- what was built becomes an object -/
theorem Blt.adopt {K : PySem.W.Frag} {cls : Nat → Addr} {w wc : Wd} {D : Addr} {o : O} (b : Blt w wc D) (nh : D ∉ w.hid) (s : RelS K cls wc) (hD : ∃ h, wc.H D = some h) (ro : ∀ w', w'.H = wc.H → Mo wc w' → RelO K cls w' D o) :
    Le w ⟨wc.ms ++ [D], wc.S ++ [o], wc.H, w.hid⟩ ∧ RelS K cls ⟨wc.ms ++ [D], wc.S ++ [o], wc.H, w.hid⟩ ∧ RelA K ⟨wc.ms ++ [D], wc.S ++ [o], wc.H, w.hid⟩ (.ref wc.S.length) (.ref D) := by
  have hh : D ∈ wc.hid := by rw [b.hid]; exact List.mem_cons_self
  have hm : D ∉ wc.ms := (s.hid D hh).1
  have live : ∀ a, ¬ wc.Live a → ¬ Wd.Live ⟨wc.ms ++ [D], wc.S ++ [o], wc.H, w.hid⟩ a := fun a l hl => by
    rcases hl with hl | ⟨n, o', e1, e2, e3⟩
    · exact l (.inl (by rw [b.hid]; exact List.mem_cons_of_mem _ hl))
    · rcases ms_new e1 with ⟨hn, e1'⟩ | ⟨_, rfl⟩
      · have e2' : wc.S[n]? = some o' := by rw [← e2]; exact (List.getElem?_append_left (by rw [← s.len]; exact hn)).symm
        exact l (.inr ⟨n, o', e1', e2', e3⟩)
      · exact l (.inl hh)
  have m : Mo wc ⟨wc.ms ++ [D], wc.S ++ [o], wc.H, w.hid⟩ := ⟨⟨[D], rfl⟩, fun a h q l => ⟨q, live a l⟩⟩
  refine ⟨⟨b.mo.trans m, rfl, b.hidk⟩, ⟨by simp [s.len], ?_, fun n a h => ?_, fun n a o' h1 h2 => ?_, fun a ha => ?_⟩, new_ref (o := o) (H' := wc.H) (w := ⟨wc.ms, wc.S, wc.H, w.hid⟩) (cls := cls) (K := K) (p := D) ?_⟩
  · show (wc.ms ++ [D]).Nodup
    rw [List.nodup_append]
    exact ⟨s.nd, by simp, fun a ha c hc => by
      have : c = D := by simpa using hc
      subst this
      intro z; subst z
      exact hm ha⟩
  · rcases ms_new h with ⟨hn, h'⟩ | ⟨_, rfl⟩
    · exact s.has n a h'
    · exact hD
  · rcases ms_new h1 with ⟨hn, h1'⟩ | ⟨rfl, rfl⟩
    · have h2' : wc.S[n]? = some o' := by rw [← h2]; exact (List.getElem?_append_left (by rw [← s.len]; exact hn)).symm
      exact (s.obj n a o' h1' h2').mono m rfl
    · have h2' : (wc.S ++ [o])[wc.ms.length]? = some o' := h2
      rw [List.getElem?_append_right (by rw [s.len]; exact Nat.le_refl _)] at h2'
      have eo : o' = o := by simpa using List.mem_of_getElem? h2'
      subst eo
      exact ro _ rfl m
  · have ha : a ∈ w.hid := ha
    have ha' : a ∈ wc.hid := by rw [b.hid]; exact List.mem_cons_of_mem _ ha
    refine ⟨fun hm' => ?_, (s.hid a ha').2⟩
    have hm' : a ∈ wc.ms ++ [D] := hm'
    rcases List.mem_append.mp hm' with z | z
    · exact (s.hid a ha').1 z
    · have : a = D := by simpa using z
      subst this
      exact nh ha
  · exact (s.show_ b.hid)
/-- .. or a value -/
theorem Blt.value {K : PySem.W.Frag} {cls : Nat → Addr} {w wc : Wd} {D : Addr} {acc : List A} {accv : List V} (b : Blt w wc D) (nh : D ∉ w.hid) (s : RelS K cls wc) (hD : wc.H D = some (.lst accv)) (ra : RelAs K wc acc accv) :
    Le w (wc.show_ w.hid) ∧ RelS K cls (wc.show_ w.hid) ∧ RelA K (wc.show_ w.hid) (.lst acc) (.ref D) := by
  have hh : D ∈ wc.hid := by rw [b.hid]; exact List.mem_cons_self
  refine ⟨b.end_, s.show_ b.hid, ?_⟩
  simp only [RelA]
  refine ⟨D, accv, rfl, ⟨.inl hD, fun hl => ?_⟩, ra.mono (Mo.show_ b.hid)⟩
  rcases hl with hl | ⟨n, o, e1, e2, e3⟩
  · exact nh hl
  · exact (s.hid D hh).1 (List.mem_of_getElem? (show wc.ms[n]? = some D from e1))

section
variable {G : Gt} {cal : Cal}
/-- what is walked -/
noncomputable def iD (G : Gt) (cal : Cal) (k : IK) (src : List E) (τ : Tau) (S : List O) : R (List A × Gd) := (dens G cal src τ S).bind fun vs S1 => R.of (srcO k vs S1) S1
noncomputable def condD (G : Gt) (cal : Cal) (ifs : List E) (τ : Tau) (S : List O) : R Bool := (dens G cal ifs τ S).bind fun vs S1 => match vs with | [] => .ok true S1 | [x] => R.of (truO S1 x) S1 | _ => .no
theorem den_lc (fl : Bool) (elt : E) (t : T) (k : IK) (src ifs : List E) (own : List (Str × Nat)) (τ : Tau) (S : List O) :
    den G cal (.lc fl elt t k src ifs own) τ S = (iD G cal k src τ S).bind fun xg S1 => if xg.1.length ≤ sizeLine then (lcD xg.2 (fun a τ => T.asg t a τ) (condD G cal ifs) (fun τ S => den G cal elt τ S) (wipeT τ (own.map (·.2))) [] xg.1 S1).bind fun ys S2 => mkL fl ys S2 else .no := by
  show ((dens G cal src τ S).bind fun vs S1 => _) = _
  unfold iD
  cases dens G cal src τ S with
  | ok vs S1 =>
    simp only [R.bind_ok]
    cases srcO k vs S1 with
    | none => rfl
    | some xg => rfl
  | ex c fs S1 => rfl
  | no => rfl
theorem condD_one (e : E) (τ : Tau) (S : List O) : condD G cal [e] τ S = tst G cal e τ S := by
  show (((den G cal e τ S).bind fun x S1 => _).bind _) = _
  unfold tst
  cases den G cal e τ S <;> rfl
theorem s_lc {K : PySem.W.Frag} {ad : Ad} {W W0 : WX} {fl : Bool} {elt : E} {t : T} {k : IK} {src ifs : List E} {own : List (Str × Nat)} (hsl : ∀ i ∈ t.slots, i ∈ own.map (·.2)) {σ : L2.St} {H : Hp} {Q : VK} (h : tE K ad G W (fun τ S => den G cal (.lc fl elt t k src ifs own) τ S) σ H Q) :
    tLc (tI K ad G W (fun τ S => iD G cal k src τ S)) (gT K ad t) (tT K ad G W0 (fun τ S => condD G cal ifs τ S)) (tE K ad G W0 (fun τ S => den G cal elt τ S)) (own.map (·.2)) σ H Q := by
  obtain ⟨w, τ, e, s, rt, h⟩ := h
  have h : okR K ad G Q (fun c d H' => W c d σ H') w (den G cal (.lc fl elt t k src ifs own) τ w.S) := h
  rw [den_lc] at h
  refine ⟨w, τ, e, s, rt, okI.then (P := fun w x => okR K ad G Q (fun c d H' => W c d σ H') w x) h (fun _ _ l h => h.at l) (fun _ _ _ h => h) id ?_⟩
  rintro w1 ⟨xs, g⟩ J le s1 itm h
  intro D hD0
  have h : okR K ad G Q (fun c d H' => W c d σ H') w1 (if xs.length ≤ sizeLine then (lcD g (fun a τ => T.asg t a τ) (condD G cal ifs) (fun τ S => den G cal elt τ S) (wipeT τ (own.map (·.2))) [] xs w1.S).bind fun ys S2 => mkL fl ys S2 else .no) := h
  split at h
  case isFalse => exact h.elim
  rename_i hz
  have nh : D ∉ w1.hid := fun z => by
    obtain ⟨_, o, q⟩ := s1.hid D z
    rw [hD0] at q; cases q
  have rt1 : RelT K w1 τ σ := rt.mono le.mo
  generalize hvs : own.map (·.2) = vs at h hsl ⊢
  refine ⟨fun i n H => ∃ wc acc accv, wc.H = H ∧ RelS K ad.cls wc ∧ Blt w1 wc D ∧ RelT K wc (wipeT τ vs) (L2.wipe σ vs) ∧ wc.H D = some (.lst accv) ∧ RelAs K wc acc accv ∧ acc.length ≤ i ∧ n = xs.length - i ∧ i ≤ xs.length ∧
    okR K ad G Q (fun c d H' => W c d σ H') w1 ((lcD g (fun a τ => T.asg t a τ) (condD G cal ifs) (fun τ S => den G cal elt τ S) (wipeT τ vs) acc (xs.drop i) wc.S).bind fun ys S2 => mkL fl ys S2), ⟨xs.length, w1.hide D (.lst []), [], [], rfl, s1.hide hD0, Blt.start hD0, (rt1.mono (Mo.hide hD0)).wipe vs, upd_same, RelAs.nil, Nat.zero_le _, by simp, Nat.zero_le _, h⟩, ?_⟩
  rintro i n H2 ⟨wc, acc, accv, rfl, sc, b, rtc, hDc, ra, hacc, rfl, hi, hr⟩
  by_cases hlt : i < xs.length
  · right
    have hdrop : xs.drop i = xs[i] :: xs.drop (i + 1) := List.drop_eq_getElem_cons hlt
    rw [hdrop] at hr
    have gk : g.ok wc.S := by
      by_cases gk : g.ok wc.S
      · exact gk
      · simp only [lcD, if_neg gk] at hr
        exact hr.elim
    simp only [lcD, if_pos gk] at hr
    obtain ⟨go, yl⟩ := (itm wc b.mo sc gk i).2 xs[i] (List.getElem?_eq_getElem hlt)
    refine ⟨go, fun H' => ∃ wc acc accv, wc.H = H' ∧ RelS K ad.cls wc ∧ Blt w1 wc D ∧ RelT K wc (wipeT τ vs) (L2.wipe σ vs) ∧ wc.H D = some (.lst accv) ∧ RelAs K wc acc accv ∧ acc.length ≤ i + 1 ∧
      okR K ad G Q (fun c d H' => W c d σ H') w1 ((lcD g (fun a τ => T.asg t a τ) (condD G cal ifs) (fun τ S => den G cal elt τ S) (wipeT τ vs) acc (xs.drop (i + 1)) wc.S).bind fun ys S2 => mkL fl ys S2), ?_, ?_⟩
    · rintro H' ⟨wd, acc', accv', e1, e2, e3, e4, e5, e6, e7, e8⟩
      exact ⟨xs.length - (i + 1), by omega, wd, acc', accv', e1, e2, e3, e4, e5, e6, e7, rfl, hlt, e8⟩
    · intro x H' hy
      obtain ⟨w2, e2, eS2, l2, s2, r2⟩ := yl x H' hy
      cases ea : T.asg t xs[i] (wipeT τ vs) with
      | none => rw [ea] at hr; exact hr.elim
      | some τ1 =>
        rw [ea] at hr
        have hr : okR K ad G Q (fun c d H' => W c d σ H') w1 (R.bind (match condD G cal ifs τ1 wc.S with
          | .ok true S1 => match den G cal elt τ1 S1 with
            | .ok y S2 => lcD g (fun a τ => T.asg t a τ) (condD G cal ifs) (fun τ S => den G cal elt τ S) (wipeT τ vs) (acc ++ [y]) (xs.drop (i + 1)) S2
            | _ => .no
          | .ok false S1 => lcD g (fun a τ => T.asg t a τ) (condD G cal ifs) (fun τ S => den G cal elt τ S) (wipeT τ vs) acc (xs.drop (i + 1)) S1
          | _ => .no) fun ys S2 => mkL fl ys S2) := hr
        refine ⟨w2, wipeT τ vs, xs[i], τ1, e2, s2, rtc.mono l2.mo, r2, ea, fun w3 σ3 eS3 l3 s3 rt3 chg => ⟨?_, ?_⟩⟩
        · rw [chg.wipe hsl, wipe_wipe]
        · refine ⟨w3, τ1, rfl, s3, rt3, ?_⟩
          show okB K ad G _ _ w3 (condD G cal ifs τ1 w3.S)
          rw [eS3, eS2]
          cases ec : condD G cal ifs τ1 wc.S with
          | no => rw [ec] at hr; exact hr.elim
          | ex c fs S1 => rw [ec] at hr; exact hr.elim
          | ok kk S1 =>
            rw [ec] at hr
            intro w4 eS4 l4 s4
            have l24 : Le wc w4 := l2.trans (l3.trans l4)
            cases kk with
            | false =>
              rw [if_neg (by decide)]
              refine ⟨w4, acc, accv, rfl, s4, b.le l24, rtc.mono l24.mo, ?_, ra.mono l24.mo, by omega, by rw [eS4]; exact hr⟩
              exact l24.hidk D (by rw [b.hid]; exact List.mem_cons_self) _ hDc
            | true =>
              rw [if_pos rfl]
              refine ⟨w4, τ1, rfl, s4, rt3.mono l4.mo, ?_⟩
              show okR K ad G _ _ w4 (den G cal elt τ1 w4.S)
              rw [eS4]
              have hr : okR K ad G Q (fun c d H' => W c d σ H') w1 (R.bind (match den G cal elt τ1 S1 with
                | .ok y S2 => lcD g (fun a τ => T.asg t a τ) (condD G cal ifs) (fun τ S => den G cal elt τ S) (wipeT τ vs) (acc ++ [y]) (xs.drop (i + 1)) S2
                | _ => .no) fun ys S2 => mkL fl ys S2) := hr
              cases ed : den G cal elt τ1 S1 with
              | no => rw [ed] at hr; exact hr.elim
              | ex c fs S1 => rw [ed] at hr; exact hr.elim
              | ok y S2 =>
                rw [ed] at hr
                intro w5 v eS5 l5 s5 r5
                have l25 : Le wc w5 := l24.trans l5
                have b5 := b.le l25
                have hh : D ∈ w5.hid := by rw [b5.hid]; exact List.mem_cons_self
                have hD5 : w5.H D = some (.lst accv) := l25.hidk D (by rw [b.hid]; exact List.mem_cons_self) _ hDc
                have ra5 := ra.mono l25.mo
                have m5 : Mo w5 (w5.poke D (.lst (accv ++ [v]))) := Mo.poke hh
                refine ⟨accv, hD5, by have := ra.length; omega, w5.poke D (.lst (accv ++ [v])), acc ++ [y], accv ++ [v], rfl, s5.poke hh, b5.poke hD0, (rtc.mono l25.mo).mono m5, upd_same, (ra5.append (RelAs.cons r5 RelAs.nil)).mono m5, by simp; omega, ?_⟩
                show okR K ad G Q _ w1 (R.bind (lcD _ _ _ _ _ _ _ w5.S) _)
                rw [eS5]; exact hr
  · left
    have e : i = xs.length := by omega
    subst e
    rw [List.drop_length] at hr
    have gk : g.ok wc.S := by
      by_cases gk : g.ok wc.S
      · exact gk
      · simp only [lcD, if_neg gk] at hr
        exact hr.elim
    simp only [lcD, if_pos gk, R.bind_ok] at hr
    refine ⟨(itm wc b.mo sc gk xs.length).1 rfl, ?_⟩
    cases fl with
    | true =>
      obtain ⟨h1, h2, h3⟩ := b.adopt (o := .lst acc) nh sc ⟨_, hDc⟩ (fun w' e m => ⟨accv, by rw [e]; exact hDc, ra.mono m⟩)
      exact hr ⟨wc.ms ++ [D], wc.S ++ [.lst acc], wc.H, w1.hid⟩ _ rfl h1 h2 h3
    | false =>
      obtain ⟨h1, h2, h3⟩ := b.value nh sc hDc ra
      exact hr (wc.show_ w1.hid) _ rfl h1 h2 h3
/-! ### a dict's comprehension -/
def kvR (K : PySem.W.Frag) (w : Wd) (p : A × A) (q : Key × V) : Prop := keyOf p.1 = some q.1 ∧ okKey p.1 ∧ RelA K w p.2 q.2
theorem kvR.mono {K : PySem.W.Frag} {w w' : Wd} {kvs : List (A × A)} {ws : List (Key × V)} (h : Paired (kvR K w) kvs ws) (m : Mo w w') : Paired (kvR K w') kvs ws := Paired.mapP h fun _ _ z => ⟨z.1, z.2.1, z.2.2.mono m⟩
theorem putO_len (kvs : List (A × A)) (k v : A) : (putO kvs k v).length ≤ kvs.length + 1 := by
  unfold putO
  split <;> simp
noncomputable def kvD (G : Gt) (cal : Cal) (ke ve : E) (τ : Tau) (S : List O) : R (A × A) := (den G cal ke τ S).bind fun a S1 => (den G cal ve τ S1).bind fun b S2 => .ok (a, b) S2
theorem den_dc (ke ve : E) (t : T) (k : IK) (src ifs : List E) (own : List (Str × Nat)) (τ : Tau) (S : List O) :
    den G cal (.dc ke ve t k src ifs own) τ S = (iD G cal k src τ S).bind fun xg S1 => if xg.1.length ≤ 1000000 then (dcD xg.2 (fun a τ => T.asg t a τ) (condD G cal ifs) (kvD G cal ke ve) (wipeT τ (own.map (·.2))) [] xg.1 S1).bind fun ys S2 => R.ok (A.ref S2.length) (S2 ++ [O.dic false ys]) else .no := by
  show ((dens G cal src τ S).bind fun vs S1 => _) = _
  unfold iD
  cases dens G cal src τ S with
  | ok vs S1 =>
    simp only [R.bind_ok]
    cases srcO k vs S1 with
    | none => rfl
    | some xg => rfl
  | ex c fs S1 => rfl
  | no => rfl
theorem s_dc {K : PySem.W.Frag} {ad : Ad} {W W0 : WX} {ke ve : E} {t : T} {k : IK} {src ifs : List E} {own : List (Str × Nat)} (hsl : ∀ i ∈ t.slots, i ∈ own.map (·.2)) {σ : L2.St} {H : Hp} {Q : VK} (h : tE K ad G W (fun τ S => den G cal (.dc ke ve t k src ifs own) τ S) σ H Q) :
    tDc (tI K ad G W (fun τ S => iD G cal k src τ S)) (gT K ad t) (tT K ad G W0 (fun τ S => condD G cal ifs τ S)) (tE K ad G W0 (fun τ S => den G cal ke τ S)) (tE K ad G W0 (fun τ S => den G cal ve τ S)) (own.map (·.2)) σ H Q := by
  obtain ⟨w, τ, e, s, rt, h⟩ := h
  have h : okR K ad G Q (fun c d H' => W c d σ H') w (den G cal (.dc ke ve t k src ifs own) τ w.S) := h
  rw [den_dc] at h
  refine ⟨w, τ, e, s, rt, okI.then (P := fun w x => okR K ad G Q (fun c d H' => W c d σ H') w x) h (fun _ _ l h => h.at l) (fun _ _ _ h => h) id ?_⟩
  rintro w1 ⟨xs, g⟩ J le s1 itm h
  intro D hD0
  have h : okR K ad G Q (fun c d H' => W c d σ H') w1 (if xs.length ≤ 1000000 then (dcD g (fun a τ => T.asg t a τ) (condD G cal ifs) (kvD G cal ke ve) (wipeT τ (own.map (·.2))) [] xs w1.S).bind fun ys S2 => R.ok (A.ref S2.length) (S2 ++ [O.dic false ys]) else .no) := h
  split at h
  case isFalse => exact h.elim
  rename_i hz
  have hbig : (1000000 : Nat) < sizeLine := by decide
  have nh : D ∉ w1.hid := fun z => by
    obtain ⟨_, o, q⟩ := s1.hid D z
    rw [hD0] at q; cases q
  have rt1 : RelT K w1 τ σ := rt.mono le.mo
  generalize hvs : own.map (·.2) = vs at h hsl ⊢
  refine ⟨fun i n H => ∃ wc acc accv, wc.H = H ∧ RelS K ad.cls wc ∧ Blt w1 wc D ∧ RelT K wc (wipeT τ vs) (L2.wipe σ vs) ∧ wc.H D = some (.dK accv) ∧ Paired (kvR K wc) acc accv ∧ acc.length ≤ i ∧ n = xs.length - i ∧ i ≤ xs.length ∧
    okR K ad G Q (fun c d H' => W c d σ H') w1 ((dcD g (fun a τ => T.asg t a τ) (condD G cal ifs) (kvD G cal ke ve) (wipeT τ vs) acc (xs.drop i) wc.S).bind fun ys S2 => R.ok (A.ref S2.length) (S2 ++ [O.dic false ys])), ⟨xs.length, w1.hide D (.dK []), [], [], rfl, s1.hide hD0, Blt.start hD0, (rt1.mono (Mo.hide hD0)).wipe vs, upd_same, .nil, Nat.zero_le _, by simp, Nat.zero_le _, h⟩, ?_⟩
  rintro i n H2 ⟨wc, acc, accv, rfl, sc, b, rtc, hDc, ra, hacc, rfl, hi, hr⟩
  by_cases hlt : i < xs.length
  · right
    have hdrop : xs.drop i = xs[i] :: xs.drop (i + 1) := List.drop_eq_getElem_cons hlt
    rw [hdrop] at hr
    have gk : g.ok wc.S := by
      by_cases gk : g.ok wc.S
      · exact gk
      · simp only [dcD, if_neg gk] at hr
        exact hr.elim
    simp only [dcD, if_pos gk] at hr
    obtain ⟨go, yl⟩ := (itm wc b.mo sc gk i).2 xs[i] (List.getElem?_eq_getElem hlt)
    refine ⟨go, fun H' => ∃ wc acc accv, wc.H = H' ∧ RelS K ad.cls wc ∧ Blt w1 wc D ∧ RelT K wc (wipeT τ vs) (L2.wipe σ vs) ∧ wc.H D = some (.dK accv) ∧ Paired (kvR K wc) acc accv ∧ acc.length ≤ i + 1 ∧
      okR K ad G Q (fun c d H' => W c d σ H') w1 ((dcD g (fun a τ => T.asg t a τ) (condD G cal ifs) (kvD G cal ke ve) (wipeT τ vs) acc (xs.drop (i + 1)) wc.S).bind fun ys S2 => R.ok (A.ref S2.length) (S2 ++ [O.dic false ys])), ?_, ?_⟩
    · rintro H' ⟨wd, acc', accv', e1, e2, e3, e4, e5, e6, e7, e8⟩
      exact ⟨xs.length - (i + 1), by omega, wd, acc', accv', e1, e2, e3, e4, e5, e6, e7, rfl, hlt, e8⟩
    · intro x H' hy
      obtain ⟨w2, e2, eS2, l2, s2, r2⟩ := yl x H' hy
      cases ea : T.asg t xs[i] (wipeT τ vs) with
      | none => rw [ea] at hr; exact hr.elim
      | some τ1 =>
        rw [ea] at hr
        have hr : okR K ad G Q (fun c d H' => W c d σ H') w1 (R.bind (match condD G cal ifs τ1 wc.S with
          | .ok true S1 => match kvD G cal ke ve τ1 S1 with
            | .ok y S2 => if (keyOf y.1).isSome then dcD g (fun a τ => T.asg t a τ) (condD G cal ifs) (kvD G cal ke ve) (wipeT τ vs) (putO acc y.1 y.2) (xs.drop (i + 1)) S2 else .no
            | _ => .no
          | .ok false S1 => dcD g (fun a τ => T.asg t a τ) (condD G cal ifs) (kvD G cal ke ve) (wipeT τ vs) acc (xs.drop (i + 1)) S1
          | _ => .no) fun ys S2 => R.ok (A.ref S2.length) (S2 ++ [O.dic false ys])) := hr
        refine ⟨w2, wipeT τ vs, xs[i], τ1, e2, s2, rtc.mono l2.mo, r2, ea, fun w3 σ3 eS3 l3 s3 rt3 chg => ⟨?_, ?_⟩⟩
        · rw [chg.wipe hsl, wipe_wipe]
        · refine ⟨w3, τ1, rfl, s3, rt3, ?_⟩
          show okB K ad G _ _ w3 (condD G cal ifs τ1 w3.S)
          rw [eS3, eS2]
          cases ec : condD G cal ifs τ1 wc.S with
          | no => rw [ec] at hr; exact hr.elim
          | ex c fs S1 => rw [ec] at hr; exact hr.elim
          | ok kk S1 =>
            rw [ec] at hr
            intro w4 eS4 l4 s4
            have l24 : Le wc w4 := l2.trans (l3.trans l4)
            cases kk with
            | false =>
              rw [if_neg (by decide)]
              refine ⟨w4, acc, accv, rfl, s4, b.le l24, rtc.mono l24.mo, ?_, kvR.mono ra l24.mo, by omega, by rw [eS4]; exact hr⟩
              exact l24.hidk D (by rw [b.hid]; exact List.mem_cons_self) _ hDc
            | true =>
              rw [if_pos rfl]
              refine ⟨w4, τ1, rfl, s4, rt3.mono l4.mo, ?_⟩
              show okR K ad G _ _ w4 (den G cal ke τ1 w4.S)
              rw [eS4]
              have hr : okR K ad G Q (fun c d H' => W c d σ H') w1 (R.bind (match kvD G cal ke ve τ1 S1 with
                | .ok y S2 => if (keyOf y.1).isSome then dcD g (fun a τ => T.asg t a τ) (condD G cal ifs) (kvD G cal ke ve) (wipeT τ vs) (putO acc y.1 y.2) (xs.drop (i + 1)) S2 else .no
                | _ => .no) fun ys S2 => R.ok (A.ref S2.length) (S2 ++ [O.dic false ys])) := hr
              unfold kvD at hr
              cases ed : den G cal ke τ1 S1 with
              | no => rw [ed] at hr; exact hr.elim
              | ex c fs S1 => rw [ed] at hr; exact hr.elim
              | ok y S2 =>
                rw [ed, R.bind_ok] at hr
                intro w5 v eS5 l5 s5 r5
                refine ⟨w5, τ1, rfl, s5, (rt3.mono l4.mo).mono l5.mo, ?_⟩
                show okR K ad G _ _ w5 (den G cal ve τ1 w5.S)
                rw [eS5]
                cases ev : den G cal ve τ1 S2 with
                | no => rw [ev] at hr; exact hr.elim
                | ex c fs S1 => rw [ev] at hr; exact hr.elim
                | ok z S3 =>
                  rw [ev, R.bind_ok] at hr
                  have hr : okR K ad G Q (fun c d H' => W c d σ H') w1 (R.bind (if (keyOf y).isSome then dcD g (fun a τ => T.asg t a τ) (condD G cal ifs) (kvD G cal ke ve) (wipeT τ vs) (putO acc y z) (xs.drop (i + 1)) S3 else .no) fun ys S2 => R.ok (A.ref S2.length) (S2 ++ [O.dic false ys])) := hr
                  split at hr
                  case isFalse => exact hr.elim
                  rename_i hk
                  obtain ⟨kk, ek⟩ := Option.isSome_iff_exists.mp hk
                  intro w6 u eS6 l6 s6 r6
                  have l25 : Le wc w6 := (l24.trans l5).trans l6
                  have b5 := b.le l25
                  have hh : D ∈ w6.hid := by rw [b5.hid]; exact List.mem_cons_self
                  have hD5 : w6.H D = some (.dK accv) := l25.hidk D (by rw [b.hid]; exact List.mem_cons_self) _ hDc
                  have ra5 := kvR.mono ra l25.mo
                  have ev := keyOf_kV r5 ek
                  subst ev
                  have m5 : Mo w6 (w6.poke D (.dK (putK accv kk u))) := Mo.poke hh
                  have rp : Paired (kvR K w6) (putO acc y z) (putK accv kk u) := putO_put (f := keyOf) (fun h1 h2 => eqv_key h1 h2) ek (okKey_of r5) r6 ra5
                  have pl := putO_len acc y z
                  refine ⟨accv, kk, rfl, hD5, by have := ra.length; omega, w6.poke D (.dK (putK accv kk u)), putO acc y z, putK accv kk u, rfl, s6.poke hh, b5.poke hD0, (rtc.mono l25.mo).mono m5, upd_same, kvR.mono rp m5, by omega, ?_⟩
                  show okR K ad G Q _ w1 (R.bind (dcD _ _ _ _ _ _ _ w6.S) _)
                  rw [eS6]; exact hr
  · left
    have e : i = xs.length := by omega
    subst e
    rw [List.drop_length] at hr
    have gk : g.ok wc.S := by
      by_cases gk : g.ok wc.S
      · exact gk
      · simp only [dcD, if_neg gk] at hr
        exact hr.elim
    simp only [dcD, if_pos gk, R.bind_ok] at hr
    refine ⟨(itm wc b.mo sc gk xs.length).1 rfl, ?_⟩
    obtain ⟨h1, h2, h3⟩ := b.adopt (o := .dic false acc) nh sc ⟨_, hDc⟩ (fun w' e m => ⟨accv, by rw [e]; exact hDc, kvR.mono ra m⟩)
    exact hr ⟨wc.ms ++ [D], wc.S ++ [.dic false acc], wc.H, w1.hid⟩ _ rfl h1 h2 h3
end
end Lt
/-! expressions: the program does what the small language says -/
namespace Lt
open PySem L2
def spF (K : PySem.W.Frag) (ad : Ad) (G : Gt) (f : List A → List O → R A) : Sp := fun vs H Q E => ∃ w as, w.H = H ∧ RelS K ad.cls w ∧ RelAs K w as vs ∧ okR K ad G Q E w (f as w.S)
theorem fill_vals {kc : Kc} {vs zs : List V} {us ws : List Value} (r : Vals vs us) (rz : Vals zs ws) : Vals (kc.fill V.non vs zs) (kc.fill Value.none us ws) := by
  unfold Kc.fill
  rw [← r.length, ← rz.length]
  split
  · have q := r.append rz
    generalize kc.out = l
    induction l with
    | nil => exact .nil
    | cons i l ih =>
      refine .cons ?_ ih
      cases e : (vs ++ zs)[i]? with
      | none =>
        have e2 : (us ++ ws)[i]? = none := by rw [List.getElem?_eq_none_iff] at e ⊢; rw [← q.length]; exact e
        simp only [List.getD_eq_getElem?_getD, e, e2, Option.getD_none]; rfl
      | some x =>
        obtain ⟨u, eu, ru⟩ := q.get e
        simp only [List.getD_eq_getElem?_getD, e, eu, Option.getD_some]; exact ru
  · exact .nil
theorem fill_rel {K : PySem.W.Frag} {w : Wd} {kc : Kc} {as bs : List A} {vs zs : List V} (r : RelAs K w as vs) (rz : RelAs K w bs zs) : RelAs K w (kc.fill A.non as bs) (kc.fill V.non vs zs) := by
  unfold Kc.fill
  rw [← r.length, ← rz.length]
  split
  · have q := r.append rz
    generalize kc.out = l
    induction l with
    | nil => exact RelAs.nil
    | cons i l ih =>
      refine RelAs.cons ?_ ih
      cases e : (as ++ bs)[i]? with
      | none =>
        have e2 := q.none e
        simp only [List.getD_eq_getElem?_getD, e, e2, Option.getD_none]; exact non_rel
      | some x =>
        obtain ⟨u, eu, ru⟩ := q.get e
        simp only [List.getD_eq_getElem?_getD, e, eu, Option.getD_some]; exact ru
  · exact RelAs.nil
theorem kw_all {pos : Pos} {env : Env} : ∀ {kws : List Keyword} {ks : List Str}, kws.map (·.arg) = ks.map some → (backToKw pos (keywordEach kws env)).all (·.1.isSome) = true ∧ (backToKw pos (keywordEach kws env)).filterMap (·.1) = ks ∧ (backToKw pos (keywordEach kws env)).any (·.1.isNone) = false
  | [], [], _ => ⟨rfl, rfl, rfl⟩
  | [], _ :: _, h => by cases h
  | _ :: _, [], h => by cases h
  | ⟨nm, e, p⟩ :: kws, k :: ks, h => by
    have h' : nm = some k ∧ kws.map (·.arg) = ks.map some := by simpa using h
    obtain ⟨rfl, h2⟩ := h'
    obtain ⟨a, b, c⟩ := kw_all (pos := pos) (env := env) h2
    refine ⟨?_, ?_, ?_⟩
    · show (true && List.all (backToKw pos (keywordEach kws env)) _) = true
      rw [a]; rfl
    · show k :: List.filterMap _ (backToKw pos (keywordEach kws env)) = k :: ks
      rw [b]
    · show (false || List.any (backToKw pos (keywordEach kws env)) _) = false
      rw [c]; rfl
/-- a class's members -/
structure ClM (K : PySem.W.Frag) (ad : Ad) (c : Nat) (ci : Ci) : Prop where
  init : ∀ d, ci.init = some d → Mk K (ad.cls c) (ad.df d)
  meth : ∀ m d, ci.meths.lookup m = some d → Meth K (ad.cls c) m (ad.df d)
  fld : ∀ f, ci.fields.contains f = true → NoAttr K (ad.cls c) f
/-- a dict of the module: texts to constants -/
structure TabOk (K : PySem.W.Frag) (w : World) (d : Addr) (kvs : List (List Nat × A)) : Prop where
  kd : ∃ es n, KDict K w d es n
  no : ∀ z, kvs.lookup z = none → PySem.W.nsIn K d (mkS z) = some none
  at_ : ∀ z a, kvs.lookup z = some a → ∃ u v, PySem.W.nsIn K d (mkS z) = some (some u) ∧ RelV v u ∧ ∀ wd, RelA K wd a v
/-- what is known of the text behind its top -/
structure Fs (P : Program) (w : World) (K : PySem.W.Frag) (mg : Str → Option Value) (base : Heap) (ad : Ad) (G : Gt) (k : Nat) (cal : Cal) : Prop where
  fns : ∀ d, FnR P w K mg base (L2.CX P w) (4 * k) (ad.df d) (spF K ad G (cal d))
  con : ∀ x a, G.consts.lookup x = some a → ∃ v u, mg x = some u ∧ RelV v u ∧ ∀ w, RelA K w a v
  blt : ∀ x, bltN.contains x = true → mg x = none
  dn : ∀ (d : Nat) (x : Str), G.dnames[d]? = some (some x) → mg x = some (.ref (ad.df d)) ∧ PySem.W.keepIn K (.ref (ad.df d)) = true
  cls : ∀ (c : Nat) (ci : Ci), G.clss[c]? = some ci → mg ci.name = some (.ref (ad.cls c))
  cf : ∀ c, c < G.clss.length → CF K ad.cls G.clss.length (ad.cls c)
  ow : ∀ c d, c < G.clss.length → d < G.clss.length → PySem.W.kitOne K (.ref (ad.cls c)) (.ref (ad.cls d)) = some (c == d)
  mem : ∀ (c : Nat) (ci : Ci), G.clss[c]? = some ci → ClM K ad c ci
  tab : ∀ (x : Str) (kvs : List (List Nat × A)), G.tabs.lookup x = some kvs → mg x = some (.ref (ad.tb x)) ∧ TabOk K w (ad.tb x) kvs
  kwf : ∀ (i : Nat) (kc : Kc), G.kwc[i]? = some kc → ∃ fd ps, FnOk P w K mg base (L2.CX P w) (4 * k) (ad.df kc.d) fd ps (spF K ad G (cal kc.d)) ∧ KBinds K fd ps kc.ks (kc.fill Value.none) (kc.fill V.non)
structure Fx (X : Cx) (ad : Ad) (G : Gt) (W : WX) (k : Nat) (cal : Cal) (m : MC) : Prop extends Mx X m where
  st : Fs X.prog X.w X.K X.mg X.base ad G k cal
  room : Room (4 * k + 3) X.A
  ps : ∀ σ, PassesAt (L2.CX X.prog X.w) X σ (fun c d H => W c d σ H)

theorem str_beq {x y : Str} (h : (x == y) = true) : x = y := by simpa using h
section
variable {X : Cx} {ad : Ad} {G : Gt} {W : WX} {k : Nat} {cal : Cal} {m : MC}
theorem Fx.glob (F : Fx X ad G W k cal m) {x : Str} (h : Lt.glob m.sc x = true) : Gl X x := by
  unfold Lt.glob at h
  show X.env.scope.names.lookup x = _
  rw [F.sc]
  split at h
  · assumption
  · cases h
theorem Fx.see (F : Fx X ad G W k cal m) {x : Str} (h : seen m.sc x = true) : Vis X.env.scope x := by
  unfold seen at h
  rw [F.sc]
  split at h
  · exact .inl (by assumption)
  · exact .inr (.inl (by assumption))
  · exact .inr (.inr (by assumption))
  · cases h
theorem not_odd {x : Str} (h : (!odd x) = true) : (x == ("__debug__" : Str)) = false ∧ (x == ("__classdict__" : Str)) = false := by
  unfold odd at h
  simpa using h
/-- the context of a comprehension's block -/
theorem Fx.blk (F : Fx X ad G W k cal m) (s : Shared) (H : Hp) (scope : Scope) (cl : List (Str × Addr)) (C : Addr) (fp : List Addr) : Fx (X.blk s H scope (compEnvC scope cl C X.env) fp) ad G (fun _ _ _ _ => False) k cal (m.blk scope) := by
  refine { N := F.N, sc := ?_, fb := fun x h => h, nd := F.nd, calm := F.calm, st := F.st, room := F.room, ps := fun σ pins H' s' e s'' I c => ?_ }
  · show relS scope X.env.scope = relS scope m.sc
    rw [F.sc]
  · exact passL (X := X.blk s H scope (compEnvC scope cl C X.env) fp) pins σ H' s' e s'' I c

/-! ### calls -/
def tCalR (sp : Sp) (W : WX) (t : TA) : TE := fun σ H Q => t σ H fun vs H1 => sp vs H1 Q (fun c d H' => W c d σ H')
theorem run_fnRS {CX : CXT} {f : Addr} {sp : Sp} {E : XK} {pins : List (Addr × Obj)} {σ : L2.St} {H : Hp} {s : Shared} {Q : VK} {us : List Value} {vs : List V} (F : FnR X.prog X.w X.K X.mg X.base CX k f sp) (hr : Room k X.A) (hx : PassesAt CX X σ E) (I : L2.Inv X pins σ H s) (r : Vals vs us) (h : sp vs H Q E) :
    wpAny (model X.prog X.w) X.A (call (.ref f) us) (EP X pins σ Q) X.xe s := by
  apply wpAny_call
  refine codeAny_mono (F X.A X.stack s H us vs Q E hr I.env0 r h) ?_
  rintro (e | fl) s' hq
  · exact hx pins H s e s' I hq
  · cases fl with
    | ret u => exact I.after hq
    | _ => exact hq.elim
theorem pe_calR {CX : CXT} {f : Addr} {sp : Sp} {x : Str} {p pos : Pos} {e : Expr} {es : List Expr} {t : TA} (F : FnR X.prog X.w X.K X.mg X.base CX k f sp) (hr : Room k X.A) (hg : Gl X x) (hm : X.mg x = some (.ref f)) (hk : PySem.W.keepIn X.K (.ref f) = true)
    (hx : ∀ σ, PassesAt CX X σ (fun c d H => W c d σ H)) (ha : PA X (e :: es) t) (hdb : (x == ("__debug__" : Str)) = false) (h1 : noStar e = true) (h2 : es.all noStar = true) : PE X (.Call (.Name x p) (e :: es) [] pos) (tCalR sp W t) := by
  constructor
  intro pins s σ H Q I h
  refine wpAny_Call_Name_kw (ld_glob I hg hm ?_ hdb)
  refine PySem.W.callWith_K (h₀ := X.base) I.ok.mod.kin hk (thn (ha.run pos pins s σ H _ I h) ?_) (starEach_one h1 _ _) (starEach_any pos X.env h2)
  rintro us s1 ⟨vs, H1, I1, r, q⟩
  exact ⟨I1.kIn, run_fnRS F hr (hx σ) I1 r q⟩
theorem pe_calR0 {CX : CXT} {f : Addr} {sp : Sp} {x : Str} {p pos : Pos} (F : FnR X.prog X.w X.K X.mg X.base CX k f sp) (hr : Room k X.A) (hg : Gl X x) (hm : X.mg x = some (.ref f)) (hk : PySem.W.keepIn X.K (.ref f) = true)
    (hx : ∀ σ, PassesAt CX X σ (fun c d H => W c d σ H)) (hdb : (x == ("__debug__" : Str)) = false) : PE X (.Call (.Name x p) [] [] pos) (fun σ H Q => sp [] H Q (fun c d H' => W c d σ H')) := by
  constructor
  intro pins s σ H Q I h
  exact wpAny_Call_Name_kw (ld_glob I hg hm (PySem.W.callWith_K0 I.kIn hk (run_fnRS (us := []) F hr (hx σ) I .nil h)) hdb)
/-- a call by names -/
theorem run_kwS {CX : CXT} {j : Nat} {f : Addr} {fd : FuncData} {ps ks : List Str} {sp : Sp} {g : List Value → List Value → List Value} {gV : List V → List V → List V} {E : XK} {pins : List (Addr × Obj)} {σ : L2.St} {H : Hp} {s : Shared} {Q : VK} {us ws : List Value} {vs zs : List V}
    (F : FnOk X.prog X.w X.K X.mg X.base CX j f fd ps sp) (hb : KBinds X.K fd ps ks g gV) (hr : Room j X.A) (hx : PassesAt CX X σ E) (I : L2.Inv X pins σ H s) (r : Vals vs us) (rz : Vals zs ws) (h : sp (gV vs zs) H Q E) :
    wpAny (model X.prog X.w) X.A (call (.ref f) us (ks.zip ws)) (EP X pins σ Q) X.xe s := by
  apply wpAny_call
  have rr := hb.rel r rz
  have len : (g us ws).length = ps.length := rr.length.symm.trans (F.len _ _ _ _ h)
  refine codeAny_mono (F.run _ X.stack s H ⟨us, ks.zip ws⟩ _ _ Q E hr I.env0 (hb.to s us ws I.kIn len) rr h) ?_
  rintro (e | fl) s' hq
  · exact hx pins H s e s' I hq
  · cases fl with
    | ret u => exact I.after hq
    | _ => exact hq.elim
def tKwR (sp : Sp) (gV : List V → List V → List V) (W : WX) (t tk : TA) : TE := fun σ H Q => t σ H fun vs H1 => tk σ H1 fun zs H2 => sp (gV vs zs) H2 Q (fun c d H' => W c d σ H')
theorem pe_kwR {CX : CXT} {j : Nat} {f : Addr} {fd : FuncData} {ps ks : List Str} {sp : Sp} {g : List Value → List Value → List Value} {gV : List V → List V → List V} {x : Str} {p pos : Pos} {e : Expr} {es : List Expr} {kws : List Keyword} {t tk : TA}
    (F : FnOk X.prog X.w X.K X.mg X.base CX j f fd ps sp) (hb : KBinds X.K fd ps ks g gV) (hr : Room j X.A) (hg : Gl X x) (hm : X.mg x = some (.ref f)) (hk : PySem.W.keepIn X.K (.ref f) = true) (hx : ∀ σ, PassesAt CX X σ (fun c d H => W c d σ H))
    (ha : PA X (e :: es) t) (hkw : PK X kws tk) (hn : kws.map (·.arg) = ks.map some) (hdb : (x == ("__debug__" : Str)) = false) (h1 : noStar e = true) (h2 : es.all noStar = true) : PE X (.Call (.Name x p) (e :: es) kws pos) (tKwR sp gV W t tk) := by
  constructor
  intro pins s σ H Q I h
  obtain ⟨n1, n2, n3⟩ := kw_all (pos := pos) (env := X.env) hn
  refine wpAny_Call_Name_kw (ld_glob I hg hm ?_ hdb)
  refine PySem.W.callWith_KW (h₀ := X.base) I.ok.mod.kin hk n1 (thn (ha.run pos pins s σ H _ I h) ?_) (by rw [n3, starEach_any pos X.env (es := e :: es) (by simp [h1, h2])]; rfl) (starEach_one h1 _ _)
  rintro us s1 ⟨vs, H1, I1, r, q⟩
  refine thn (hkw.run pos pins s1 σ H1 _ I1 q) ?_
  rintro ws s2 ⟨zs, H2, I2, rz, q2⟩
  rw [n2]
  exact ⟨I2.kIn, run_kwS F hb hr (hx σ) I2 r rz q2⟩
theorem pe_kwR0 {CX : CXT} {j : Nat} {f : Addr} {fd : FuncData} {ps ks : List Str} {sp : Sp} {g : List Value → List Value → List Value} {gV : List V → List V → List V} {x : Str} {p pos : Pos} {kws : List Keyword} {tk : TA}
    (F : FnOk X.prog X.w X.K X.mg X.base CX j f fd ps sp) (hb : KBinds X.K fd ps ks g gV) (hr : Room j X.A) (hg : Gl X x) (hm : X.mg x = some (.ref f)) (hk : PySem.W.keepIn X.K (.ref f) = true) (hx : ∀ σ, PassesAt CX X σ (fun c d H => W c d σ H))
    (hkw : PK X kws tk) (hn : kws.map (·.arg) = ks.map some) (hdb : (x == ("__debug__" : Str)) = false) : PE X (.Call (.Name x p) [] kws pos) (tKwR sp gV W tNil tk) := by
  constructor
  intro pins s σ H Q I h
  obtain ⟨n1, n2, n3⟩ := kw_all (pos := pos) (env := X.env) hn
  refine wpAny_Call_Name_kw (ld_glob I hg hm ?_ hdb)
  refine PySem.W.callWith_KW0 (h₀ := X.base) I.ok.mod.kin hk n1 (thn (hkw.run pos pins s σ H _ I h) ?_) (by rw [n3]; rfl)
  rintro ws s2 ⟨zs, H2, I2, rz, q2⟩
  rw [n2]
  exact ⟨I2.kIn, run_kwS (us := []) (vs := []) F hb hr (hx σ) I2 .nil rz q2⟩
/-- a new instance -/
theorem run_mkRS {CX : CXT} {j : Nat} {C f : Addr} {sp : Sp} {E : XK} {pins : List (Addr × Obj)} {σ : L2.St} {H : Hp} {s : Shared} {Q : VK} {us : List Value} {vs : List V} (M : Mk X.K C f) (F : FnR X.prog X.w X.K X.mg X.base CX j f sp) (hr : Room (j + 1) X.A) (hx : PassesAt CX X σ E) (I : L2.Inv X pins σ H s) (r : Vals vs us)
    (h : ∀ x dx, H x = none → H dx = none → dx ≠ x → sp (.ref x :: vs) (upd (upd H dx (.own x)) x (.ins C dx [])) (fun v H2 => v = .non ∧ Q (.ref x) H2) E) : wpAny (model X.prog X.w) X.A (call (.ref C) us) (EP X pins σ Q) X.xe s := by
  have J := Inv.made (C := C) I
  have q := h (s.heap.objs.size + 1) s.heap.objs.size (I.hok.fresh (Nat.le_succ _)) (I.hok.fresh (Nat.le_refl _)) (Nat.ne_of_lt (Nat.lt_succ_self _))
  apply wpAny_call
  refine make_map (f := f) I.kIn M.makes M.init (beq_iff_eq.mp M.fn) (codeAny_mono (F _ X.stack _ _ (Value.ref (s.heap.objs.size + 1) :: us) (V.ref (s.heap.objs.size + 1) :: vs) _ E (hr.make C us []) (J.env0.make C us []) (.cons rfl r) q) ?_)
  rintro (e | fl) s' hq
  · exact hx pins _ _ e s' J hq
  · cases fl with
    | ret u =>
      obtain ⟨v, H', J', rv, ev, q'⟩ := J.after hq
      subst ev
      exact ⟨rv, V.ref (s.heap.objs.size + 1), H', J', rfl, q'⟩
    | _ => exact hq.elim
def tMkR (C : Addr) (sp : Sp) (W : WX) (t : TA) : TE := fun σ H Q => t σ H fun vs H1 => ∀ x dx, H1 x = none → H1 dx = none → dx ≠ x → sp (.ref x :: vs) (upd (upd H1 dx (.own x)) x (.ins C dx [])) (fun v H2 => v = .non ∧ Q (.ref x) H2) (fun c d H' => W c d σ H')
theorem pe_mkR {CX : CXT} {j : Nat} {C f : Addr} {sp : Sp} {x : Str} {p pos : Pos} {e : Expr} {es : List Expr} {t : TA} (M : Mk X.K C f) (F : FnR X.prog X.w X.K X.mg X.base CX j f sp) (hr : Room (j + 1) X.A) (hg : Gl X x) (hm : X.mg x = some (.ref C))
    (hx : ∀ σ, PassesAt CX X σ (fun c d H => W c d σ H)) (ha : PA X (e :: es) t) (hdb : (x == ("__debug__" : Str)) = false) (h1 : noStar e = true) (h2 : es.all noStar = true) : PE X (.Call (.Name x p) (e :: es) [] pos) (tMkR C sp W t) := by
  constructor
  intro pins s σ H Q I h
  refine wpAny_Call_Name_kw (ld_glob I hg hm ?_ hdb)
  refine PySem.W.callWith_K (h₀ := X.base) I.ok.mod.kin M.kp (thn (ha.run pos pins s σ H _ I h) ?_) (starEach_one h1 _ _) (starEach_any pos X.env h2)
  rintro us s1 ⟨vs, H1, I1, r, q⟩
  exact ⟨I1.kIn, run_mkRS M F hr (hx σ) I1 r q⟩
theorem pe_mkR0 {CX : CXT} {j : Nat} {C f : Addr} {sp : Sp} {x : Str} {p pos : Pos} (M : Mk X.K C f) (F : FnR X.prog X.w X.K X.mg X.base CX j f sp) (hr : Room (j + 1) X.A) (hg : Gl X x) (hm : X.mg x = some (.ref C))
    (hx : ∀ σ, PassesAt CX X σ (fun c d H => W c d σ H)) (hdb : (x == ("__debug__" : Str)) = false) : PE X (.Call (.Name x p) [] [] pos) (tMkR C sp W tNil) := by
  constructor
  intro pins s σ H Q I h
  exact wpAny_Call_Name_kw (ld_glob I hg hm (PySem.W.callWith_K0 I.kIn M.kp (run_mkRS (us := []) M F hr (hx σ) I .nil h)) hdb)
/-! ### methods of own classes -/
def plOf (o : Expr) (env : Env) : Sem Bool := do return (← importBound o env).getD true
theorem meth_ev {o : Expr} {m : Str} {apos pos : Pos} {args : List Expr} {env : Env} (hb : attributeBase o m env (eval o env) = eval o env) (hs : args.all noStar = true) (hl : args.length < 20) (hline : (apos.endLine == pos.line) = true) :
    eval (.Call (.Attribute o m apos) args [] pos) env = (do
      let ov ← eval o env
      standAt apos.atName
      let (f, first) ← holding [ov] (getMethod ov m (plOf o env))
      callWith pos f first (backTo pos (starEach args env)) (backToKw pos (keywordEach [] env))) := by
  have hform : methodCallForm (args.length + ([] : List Keyword).length) (backTo pos (starEach args env)) (backToKw pos (keywordEach [] env)) = true := by
    unfold methodCallForm
    rw [starEach_all pos env hs]
    have : decide (args.length + ([] : List Keyword).length + (if (backToKw pos (keywordEach [] env)).isEmpty = true then 0 else 1) < 30) = true := by
      rw [decide_eq_true_eq]
      have : (if (backToKw pos (keywordEach [] env)).isEmpty = true then 0 else 1) ≤ 1 := by split <;> omega
      simp only [List.length_nil]; omega
    rw [this]; rfl
  have hpos : methodCallPos true o env apos pos = pure pos := by unfold methodCallPos; simp [hline]
  have e : ∀ ov, methodCall o m apos pos env ov (args.length + ([] : List Keyword).length) (backTo pos (starEach args env)) (backToKw pos (keywordEach [] env)) = (do
      let (f, first) ← holding [ov] (getMethod ov m (plOf o env))
      callWith pos f first (backTo pos (starEach args env)) (backToKw pos (keywordEach [] env))) := by
    intro ov
    unfold methodCall
    rw [hform, hpos]
    rfl
  rw [arm_eval_Call, hb]
  simp only [e]
/-- o.m(..), o an instance of an own class that is known where it runs -/
def rMth (K : PySem.W.Frag) (P : Program) (w : World) (mg : Str → Option Value) (base : Heap) (CX : CXT) (j : Nat) (m : Str) (x : V) (H : Hp) (k : Sp → Prop) : Prop :=
  ∃ a C f dx fs sp, x = .ref a ∧ H a = some (.ins C dx fs) ∧ Cls K C ∧ Meth K C m f ∧ FnR P w K mg base CX j f sp ∧ fs.lookup m = none ∧ k sp
def tMthR (X : Cx) (CX : CXT) (j : Nat) (m : Str) (W : WX) (to : TE) (t : TA) : TE := fun σ H Q => to σ H fun x H1 => rMth X.K X.prog X.w X.mg X.base CX j m x H1 fun sp => t σ H1 fun vs H2 => sp (x :: vs) H2 Q (fun c d H' => W c d σ H')
theorem pe_mthR {CX : CXT} {j : Nat} {o e : Expr} {m : Str} {es : List Expr} {to : TE} {t : TA} {apos pos : Pos} (ho : PE X o to) (ha : PA X (e :: es) t) (hr : Room j X.A) (hx : ∀ σ, PassesAt CX X σ (fun c d H => W c d σ H))
    (hb : plainBase o = true) (hs : (e :: es).all noStar = true) (hl : (e :: es).length < 20) (hline : (apos.endLine == pos.line) = true) : PE X (.Call (.Attribute o m apos) (e :: es) [] pos) (tMthR X CX j m W to t) := by
  have hs' : noStar e = true ∧ es.all noStar = true := by simpa using hs
  constructor
  intro pins s σ H Q I h
  refine PySem.W.methodCall_KW (pl := plOf o X.env) (thn (ho.run pins s σ H _ I h) ?_) (meth_ev (base_plain hb _ _ _) hs hl hline)
  rintro u s1 ⟨x, H1, I1, rx, a, C, f, dx, fs, sp, rfl, ea, c, hm, F, l, q⟩
  obtain rfl : u = Value.ref a := rx
  refine getmeth_ok I1 ea c hm l ?_
  refine PySem.W.callWith_K (first := [.ref a]) (h₀ := X.base) I.ok.mod.kin hm.kp (thn (ha.run pos pins s1 σ H1 _ I1 q) ?_) (starEach_one hs'.1 _ _) (starEach_any pos X.env hs'.2)
  rintro us s2 ⟨vs, H2, I2, r, q2⟩
  exact ⟨I2.kIn, run_fnRS (us := .ref a :: us) (vs := .ref a :: vs) F hr (hx σ) I2 (.cons rfl r) q2⟩
theorem pe_mthR0 {CX : CXT} {j : Nat} {o : Expr} {m : Str} {to : TE} {apos pos : Pos} (ho : PE X o to) (hr : Room j X.A) (hx : ∀ σ, PassesAt CX X σ (fun c d H => W c d σ H))
    (hb : plainBase o = true) (hline : (apos.endLine == pos.line) = true) : PE X (.Call (.Attribute o m apos) [] [] pos) (tMthR X CX j m W to tNil) := by
  constructor
  intro pins s σ H Q I h
  refine PySem.W.methodCall_KW (pl := plOf o X.env) (thn (ho.run pins s σ H _ I h) ?_) (meth_ev (base_plain hb _ _ _) rfl (by show 0 < 20; omega) hline)
  rintro u s1 ⟨x, H1, I1, rx, a, C, f, dx, fs, sp, rfl, ea, c, hm, F, l, q⟩
  obtain rfl : u = Value.ref a := rx
  refine getmeth_ok I1 ea c hm l ?_
  exact PySem.W.callWith_K0 (first := [.ref a]) I1.kIn hm.kp (run_fnRS (us := [.ref a]) (vs := [.ref a]) F hr (hx σ) I1 (.cons rfl .nil) q)
/-- a test that is an IfExp -/
theorem pt_ifx {a b c : Expr} {pos : Pos} {tc ta tb : TT} (hc : PT X c tc) (ha : PT X a ta) (hb : PT X b tb) : PT X (.IfExp c a b pos) (fun σ H Q => tc σ H fun d H1 => if d = true then ta σ H1 Q else tb σ H1 Q) := by
  constructor
  intro pins s σ H Q I h
  rw [arm_isTrue_IfExp]
  refine wpAny_bind (thn (hc.run pins s σ H _ I h) ?_)
  rintro d s1 ⟨H1, I1, q⟩
  cases d with
  | true => exact ha.run pins s1 σ H1 Q I1 q
  | false => exact hb.run pins s1 σ H1 Q I1 q
end

/-! ### readings -/
section
variable {K : PySem.W.Frag} {ad : Ad} {G : Gt} {W : WX} {E : XK} {w w' : Wd} {σ : L2.St} {H : Hp} {cal : Cal}
theorem okB.ret {Q : Bool → Hp → Prop} {b : Bool} {S : List O} (h : okB K ad G Q E w (.ok b S)) (e : w.S = S) (s : RelS K ad.cls w) : Q b w.H := h w e (Le.refl w) s
theorem tst_and (a b : Lt.E) (τ : Tau) (S : List O) : tst G cal (.and_ a b) τ S = (tst G cal a τ S).bind fun c S1 => if c then tst G cal b τ S1 else .ok false S1 := by
  show ((den G cal a τ S).bind _).bind _ = ((den G cal a τ S).bind _).bind _
  cases den G cal a τ S with
  | ok x S1 =>
    simp only [R.bind_ok]
    cases h : truO S1 x with
    | none => rfl
    | some k => cases k with
      | true => rfl
      | false => simp [h]
  | ex c fs S => rfl
  | no => rfl
theorem tst_or (a b : Lt.E) (τ : Tau) (S : List O) : tst G cal (.or_ a b) τ S = (tst G cal a τ S).bind fun c S1 => if c then .ok true S1 else tst G cal b τ S1 := by
  show ((den G cal a τ S).bind _).bind _ = ((den G cal a τ S).bind _).bind _
  cases den G cal a τ S with
  | ok x S1 =>
    simp only [R.bind_ok]
    cases h : truO S1 x with
    | none => rfl
    | some k => cases k with
      | true => simp [h]
      | false => rfl
  | ex c fs S => rfl
  | no => rfl
theorem tst_not (a : Lt.E) (τ : Tau) (S : List O) : tst G cal (.no_ a) τ S = (tst G cal a τ S).bind fun c S1 => .ok (!c) S1 := by
  show ((den G cal a τ S).bind _).bind _ = ((den G cal a τ S).bind _).bind _
  cases den G cal a τ S with
  | ok x S1 =>
    simp only [R.bind_ok]
    cases h : truO S1 x with
    | none => rfl
    | some k => rfl
  | ex c fs S => rfl
  | no => rfl
theorem tst_ifx (t a b : Lt.E) (τ : Tau) (S : List O) : tst G cal (.ifx t a b) τ S = (tst G cal t τ S).bind fun c S1 => if c then tst G cal a τ S1 else tst G cal b τ S1 := by
  show ((den G cal t τ S).bind _).bind _ = ((den G cal t τ S).bind _).bind _
  cases den G cal t τ S with
  | ok x S1 =>
    simp only [R.bind_ok]
    cases h : truO S1 x with
    | none => rfl
    | some k => cases k <;> rfl
  | ex c fs S => rfl
  | no => rfl
theorem den_ifx (t a b : Lt.E) (τ : Tau) (S : List O) : den G cal (.ifx t a b) τ S = (tst G cal t τ S).bind fun c S1 => if c then den G cal a τ S1 else den G cal b τ S1 := by
  show ((den G cal t τ S).bind _) = ((den G cal t τ S).bind _).bind _
  cases den G cal t τ S with
  | ok x S1 =>
    simp only [R.bind_ok]
    cases h : truO S1 x with
    | none => rfl
    | some k => cases k <;> rfl
  | ex c fs S => rfl
  | no => rfl
/-- a test, then the rest -/
theorem tT1 {mt : Tau → List O → R Bool} {f : Bool → Tau → List O → R A} {Q : VK} {r : Bool → Hp → VK → Prop} (h : tE K ad G W (fun τ S => (mt τ S).bind fun a S1 => f a τ S1) σ H Q)
    (k : ∀ w τ b, RelS K ad.cls w → RelT K w τ σ → okR K ad G Q (fun c d H' => W c d σ H') w (f b τ w.S) → r b w.H Q) : tT K ad G W mt σ H fun b H1 => r b H1 Q := by
  obtain ⟨w, τ, e, s, t, h⟩ := h
  exact ⟨w, τ, e, s, t, okB.bindR h fun w1 b l s1 h1 => k w1 τ b s1 (t.mono l.mo) h1⟩
theorem tT2 {mt : Tau → List O → R Bool} {f : Bool → Tau → List O → R Bool} {Q : Bool → Hp → Prop} {r : Bool → Hp → (Bool → Hp → Prop) → Prop} (h : tT K ad G W (fun τ S => (mt τ S).bind fun a S1 => f a τ S1) σ H Q)
    (k : ∀ w τ b, RelS K ad.cls w → RelT K w τ σ → okB K ad G Q (fun c d H' => W c d σ H') w (f b τ w.S) → r b w.H Q) : tT K ad G W mt σ H fun b H1 => r b H1 Q := by
  obtain ⟨w, τ, e, s, t, h⟩ := h
  exact ⟨w, τ, e, s, t, okB.bindB h fun w1 b l s1 h1 => k w1 τ b s1 (t.mono l.mo) h1⟩
theorem tE.congr {m m' : Tau → List O → R A} {Q : VK} (h : tE K ad G W m σ H Q) (e : ∀ τ S, m τ S = m' τ S) : tE K ad G W m' σ H Q := by
  obtain ⟨w, τ, a, b, c, h⟩ := h
  exact ⟨w, τ, a, b, c, by rw [← e]; exact h⟩
theorem tT.congr {m m' : Tau → List O → R Bool} {Q : Bool → Hp → Prop} (h : tT K ad G W m σ H Q) (e : ∀ τ S, m τ S = m' τ S) : tT K ad G W m' σ H Q := by
  obtain ⟨w, τ, a, b, c, h⟩ := h
  exact ⟨w, τ, a, b, c, by rw [← e]; exact h⟩
/-- the arguments, then the rest -/
theorem tA1 {ma : Tau → List O → R (List A)} {f : List A → Tau → List O → R A} {Q : VK} {r : List V → Hp → VK → Prop} (h : tE K ad G W (fun τ S => (ma τ S).bind fun a S1 => f a τ S1) σ H Q)
    (k : ∀ w τ a v, RelS K ad.cls w → RelT K w τ σ → RelAs K w a v → okR K ad G Q (fun c d H' => W c d σ H') w (f a τ w.S) → r v w.H Q) : tL K ad G W ma σ H fun x H1 => r x H1 Q := by
  obtain ⟨w, τ, e, s, t, h⟩ := h
  exact ⟨w, τ, e, s, t, okA.bindR h fun w1 a v l s1 q h1 => k w1 τ a v s1 (t.mono l.mo) q h1⟩
theorem tI1 {ma : Tau → List O → R (List A)} {f : List A → Tau → List O → R (List A × Gd)} {Q : It → Hp → Prop} {r : List V → Hp → (It → Hp → Prop) → Prop} (h : tI K ad G W (fun τ S => (ma τ S).bind fun a S1 => f a τ S1) σ H Q)
    (k : ∀ w τ a v, RelS K ad.cls w → RelT K w τ σ → RelAs K w a v → okI K ad G Q (fun c d H' => W c d σ H') w (f a τ w.S) → r v w.H Q) : tL K ad G W ma σ H fun x H1 => r x H1 Q := by
  obtain ⟨w, τ, e, s, t, h⟩ := h
  exact ⟨w, τ, e, s, t, okA.bindI h fun w1 a v l s1 q h1 => k w1 τ a v s1 (t.mono l.mo) q h1⟩
end
end Lt
/-! what is walked, by the text -/
namespace Lt
open PySem L2
theorem callOf_eq {m : MC} {f : Str} {e : Expr} {args : List Expr} (h : callOf m f e = some args) : ∃ p pos, e = .Call (.Name f p) args [] pos ∧ glob m.sc f = true := by
  unfold callOf at h
  split at h
  · rename_i g p args' pos
    split at h
    · rename_i hc
      simp only [Bool.and_eq_true, beq_iff_eq] at hc
      cases h
      obtain ⟨rfl, h2⟩ := hc
      exact ⟨p, pos, rfl, h2⟩
    · cases h
  · cases h
theorem len_two {α : Type} {xs : List α} (h : xs.length = 2) : ∃ a b, xs = [a, b] := by
  rcases xs with _ | ⟨a, _ | ⟨b, _ | ⟨c, r⟩⟩⟩ <;> simp at h
  exact ⟨a, b, rfl⟩
theorem isTup_eq {e : Expr} (h : isTup e = true) : ∃ es k p, e = .Tuple es k p := by
  cases e <;> first | (cases h; done) | exact ⟨_, _, _, rfl⟩
section
variable {K : PySem.W.Frag} {ad : Ad} {G : Gt} {W : WX} {cal : Cal} {σ : L2.St} {H : Hp}
theorem iD_one (k : IK) (e : Lt.E) (τ : Tau) (S : List O) : iD G cal k [e] τ S = (den G cal e τ S).bind fun a S1 => R.of (srcO k [a] S1) S1 := by
  show ((den G cal e τ S).bind _).bind _ = _
  cases den G cal e τ S <;> rfl
theorem tI_one {k : IK} {e : Lt.E} {Q : It → Hp → Prop} {r : V → Hp → (It → Hp → Prop) → Prop} (h : tI K ad G W (fun τ S => iD G cal k [e] τ S) σ H Q)
    (kk : ∀ w τ a v, RelS K ad.cls w → RelT K w τ σ → RelA K w a v → okI K ad G Q (fun c d H' => W c d σ H') w (R.of (srcO k [a] w.S) w.S) → r v w.H Q) : tE K ad G W (fun τ S => den G cal e τ S) σ H fun x H1 => r x H1 Q := by
  obtain ⟨w, τ, e', s, t, h⟩ := h
  have h : okI K ad G Q (fun c d H' => W c d σ H') w (iD G cal k [e] τ w.S) := h
  rw [iD_one] at h
  exact ⟨w, τ, e', s, t, okR.bindI h fun w1 a v l s1 q h1 => kk w1 τ a v s1 (t.mono l.mo) q h1⟩
theorem dens_len : ∀ {es : List Lt.E} {τ : Tau} {S S' : List O} {xs : List A}, dens G cal es τ S = .ok xs S' → xs.length = es.length
  | [], τ, S, S', xs, h => by cases h; rfl
  | e :: es, τ, S, S', xs, h => by
    have h : ((den G cal e τ S).bind fun x S1 => (dens G cal es τ S1).bind fun xs S2 => .ok (x :: xs) S2) = .ok xs S' := h
    cases h1 : den G cal e τ S with
    | ok x S1 =>
      rw [h1, R.bind_ok] at h
      cases h2 : dens G cal es τ S1 with
      | ok ys S2 =>
        rw [h2, R.bind_ok] at h
        cases h
        simp [dens_len h2]
      | ex c fs S => rw [h2] at h; cases h
      | no => rw [h2] at h; cases h
    | ex c fs S => rw [h1] at h; cases h
    | no => rw [h1] at h; cases h
theorem tI_many {k : IK} {es : List Lt.E} {Q : It → Hp → Prop} {r : List V → Hp → (It → Hp → Prop) → Prop} (h : tI K ad G W (fun τ S => iD G cal k es τ S) σ H Q)
    (kk : ∀ w τ a v, RelS K ad.cls w → RelT K w τ σ → RelAs K w a v → a.length = es.length → okI K ad G Q (fun c d H' => W c d σ H') w (R.of (srcO k a w.S) w.S) → r v w.H Q) : tL K ad G W (fun τ S => dens G cal es τ S) σ H fun x H1 => r x H1 Q := by
  obtain ⟨w, τ, e', s, t, h⟩ := h
  have h : okI K ad G Q (fun c d H' => W c d σ H') w ((dens G cal es τ w.S).bind fun vs S1 => R.of (srcO k vs S1) S1) := h
  refine ⟨w, τ, e', s, t, ?_⟩
  show okA K ad G _ _ w (dens G cal es τ w.S)
  cases hd : dens G cal es τ w.S with
  | ok a S1 =>
    rw [hd] at h
    intro w1 v eS l s1 ra
    exact kk w1 τ a v s1 (t.mono l.mo) ra (dens_len hd) (by rw [eS]; exact h.at l)
  | ex c fs S => rw [hd] at h; exact h
  | no => rw [hd] at h; exact h.elim
end
section
variable {X : Cx} {ad : Ad} {G : Gt} {W : WX} {k : Nat} {cal : Cal} {m : MC}
theorem PI.imp {tg e : Expr} {t t' : TI} (h : PI X tg e t) (k : ∀ σ H Q, t' σ H Q → t σ H Q) : PI X tg e t' := ⟨fun pins s σ H Q I q => h.run pins s σ H Q I (k _ _ _ q)⟩
theorem s_pi (F : Fx X ad G W k cal m) {kk : IK} {src : List Lt.E} {tg iter : Expr} {args : List Expr} (hs : srcArgs m kk tg iter = some args) (hl : rngLen kk args.length = true) (hst : args.all noStar = true) (hlen : src.length = args.length)
    (ha : PA X args (tL X.K ad G W (fun τ S => dens G cal src τ S))) (h1 : ∀ x, args = [x] → ∃ e, src = [e] ∧ PE X x (tE X.K ad G W (fun τ S => den G cal e τ S))) : PI X tg iter (tI X.K ad G W (fun τ S => iD G cal kk src τ S)) := by
  cases kk with
  | seq =>
    cases hs
    obtain ⟨e, rfl, he⟩ := h1 iter rfl
    refine PI.imp (pi_seq he) fun σ H Q h => ?_
    refine tI_one (r := fun x H1 Q => ∃ p, x = .ref p ∧ (((∃ xs, SqL X.K H1 p xs) ∧ Q (Itl X.K p) H1) ∨ ((∃ xs, SqT X.K H1 p xs) ∧ Q (Itt X.K p) H1))) h fun w τ a v s rt ra h => ?_
    obtain ⟨xg, e1, h⟩ := h.of
    obtain ⟨xs, e2, rfl⟩ := Option.map_eq_some_iff.mp e1
    have ok := h
    obtain ⟨p0, vs0, ev, hp0, _⟩ := seqO_rel s ra e2
    subst ev
    refine ⟨p0, rfl, ?_⟩
    rcases seqO_or e2 with e3 | e3
    · obtain ⟨p, ep, hx⟩ := lst_at s ra e3
      cases ep
      left
      refine ⟨?_, ok.ret rfl s (itm_list hx)⟩
      obtain ⟨p', vs', ep', h', _⟩ := lstO_rel s ra e3
      cases ep'
      exact ⟨_, h'⟩
    · obtain ⟨p, ep, vs, rs, hx⟩ := tup_at ra e3
      cases ep
      right
      exact ⟨⟨_, hx w (Mo.refl w)⟩, ok.ret rfl s (itm_tup rs hx)⟩
  | sgn =>
    cases hs
    obtain ⟨e, rfl, he⟩ := h1 iter rfl
    refine PI.imp (pi_str he) fun σ H Q h => ?_
    refine tI_one (r := fun x H1 Q => ∃ y, x = .str y ∧ Q (Its y) H1) h fun w τ a v s rt ra h => ?_
    obtain ⟨xg, e1, h⟩ := h.of
    cases a <;> simp only [srcO] at e1 <;> first | (cases e1; done) | skip
    cases e1
    obtain ⟨e, o⟩ := relA_str ra
    subst e
    exact ⟨_, rfl, h.ret rfl s (itm_str o)⟩
  | rng =>
    obtain ⟨p, pos, rfl, hg⟩ := callOf_eq hs
    have hgl := F.glob hg
    have hm : X.mg "range" = none := F.st.blt _ (by decide +kernel)
    rcases args with _ | ⟨x, _ | ⟨y, _ | ⟨z, r⟩⟩⟩
    · simp [rngLen] at hl
    · have hx : noStar x = true := by simpa using hst
      refine PI.imp (pi_range1 hgl hm ha (by rw [starEach_one hx]; rfl)) fun σ H Q h => ?_
      refine tI_many (r := fun vs H1 Q => ∃ j : Int, vs = [.int j] ∧ -(2 ^ 62) ≤ j ∧ j < 2 ^ 62 ∧ Q (Itr 0 j.toNat) H1) h fun w τ a v s rt ra hla h => ?_
      obtain ⟨xg, e1, h⟩ := h.of
      rw [hlen] at hla
      obtain ⟨a, rfl⟩ := List.length_eq_one_iff.mp hla
      obtain ⟨v, rfl, r1⟩ := one_of ra
      cases a <;> simp only [srcO] at e1 <;> first | (cases e1; done) | skip
      split at e1
      · rename_i hj
        cases e1
        cases relA_int r1
        exact ⟨_, rfl, hj.1, hj.2, h.ret rfl s itm_rng⟩
      · cases e1
    · have hx : noStar x = true ∧ noStar y = true := by simpa using hst
      refine PI.imp (pi_range2 hgl hm ha (by rw [starEach_one hx.1, starEach_one hx.2]; rfl) (by rw [starEach_one hx.2]; rfl)) fun σ H Q h => ?_
      refine tI_many (r := fun vs H1 Q => ∃ i j : Int, vs = [.int i, .int j] ∧ (-(2 ^ 62) ≤ i ∧ i < 2 ^ 62 ∧ -(2 ^ 62) ≤ j ∧ j < 2 ^ 62) ∧ Q (Itr i (j - i).toNat) H1) h fun w τ a v s rt ra hla h => ?_
      obtain ⟨xg, e1, h⟩ := h.of
      rw [hlen] at hla
      obtain ⟨a, b, rfl⟩ := len_two hla
      obtain ⟨v, u, rfl, r1, r2⟩ := two_of ra
      cases a <;> simp only [srcO] at e1 <;> first | (cases e1; done) | skip
      cases b <;> simp only [srcO] at e1 <;> first | (cases e1; done) | skip
      split at e1
      · rename_i hj
        cases e1
        cases relA_int r1
        cases relA_int r2
        exact ⟨_, _, rfl, hj, h.ret rfl s itm_rng⟩
      · cases e1
    · simp [rngLen] at hl
  | enum =>
    simp only [srcArgs] at hs
    by_cases ht : isTup tg = true
    case neg => rw [if_neg ht] at hs; cases hs
    rw [if_pos ht] at hs
    obtain ⟨es, kk, tp, rfl⟩ := isTup_eq ht
    obtain ⟨p, pos, rfl, hg⟩ := callOf_eq hs
    have hgl := F.glob hg
    have hm : X.mg "enumerate" = none := F.st.blt _ (by decide +kernel)
    rcases args with _ | ⟨x, _ | ⟨y, r⟩⟩
    · simp [rngLen] at hl
    · have hx : noStar x = true := by simpa using hst
      refine PI.imp (pi_enum hgl hm ha (by rw [starEach_one hx]; rfl)) fun σ H Q h => ?_
      refine tI_many (r := fun vs H1 Q => ∃ a xs, vs = [.ref a] ∧ SqL X.K H1 a xs ∧ Q (Ite X.K a) H1) h fun w τ a v s rt ra hla h => ?_
      obtain ⟨xg, e1, h⟩ := h.of
      rw [hlen] at hla
      obtain ⟨a, rfl⟩ := List.length_eq_one_iff.mp hla
      obtain ⟨v, rfl, r1⟩ := one_of ra
      obtain ⟨xs, e2, rfl⟩ := Option.map_eq_some_iff.mp (show (lstO w.S a).map _ = some xg from e1)
      obtain ⟨q, rfl, hq⟩ := lst_at s r1 e2
      obtain ⟨q', vs', ep, h', _⟩ := lstO_rel s r1 e2
      cases ep
      exact ⟨q, vs', rfl, h', h.ret rfl s (itm_enum hq)⟩
    · simp [rngLen] at hl
  | zip =>
    simp only [srcArgs] at hs
    by_cases ht : isTup tg = true
    case neg => rw [if_neg ht] at hs; cases hs
    rw [if_pos ht] at hs
    obtain ⟨es, kk, tp, rfl⟩ := isTup_eq ht
    obtain ⟨p, pos, rfl, hg⟩ := callOf_eq hs
    have hgl := F.glob hg
    have hm : X.mg "zip" = none := F.st.blt _ (by decide +kernel)
    rcases args with _ | ⟨x, _ | ⟨y, _ | ⟨z, r⟩⟩⟩
    · simp [rngLen] at hl
    · simp [rngLen] at hl
    · have hx : noStar x = true ∧ noStar y = true := by simpa using hst
      refine PI.imp (pi_zs hgl hm ha (by rw [starEach_one hx.1]) (by rw [starEach_one hx.2]; rfl)) fun σ H Q h => ?_
      refine tI_many (r := fun vs H1 Q => ∃ (p q : Zs) (xs ys : List V), vs = [p.val, q.val] ∧ p.at_ X.K H1 xs ∧ q.at_ X.K H1 ys ∧ Q (Itzs X.K p q) H1) h fun w τ a v s rt ra hla h => ?_
      obtain ⟨xg, e1, h⟩ := h.of
      rw [hlen] at hla
      obtain ⟨a, b, rfl⟩ := len_two hla
      obtain ⟨v, u, rfl, r1, r2⟩ := two_of ra
      simp only [srcO] at e1
      split at e1
      · rename_i xs ys e2 e3
        cases e1
        obtain ⟨z1, rfl, ⟨vs', h1'⟩, hq⟩ := zs_at s r1 e2
        obtain ⟨z2, rfl, ⟨us', h2'⟩, hq2⟩ := zs_at s r2 e3
        exact ⟨z1, z2, vs', us', rfl, h1', h2', h.ret rfl s (itm_zs (fun w' mo s' g => hq w' mo s' (Gd.ok_l g)) (fun w' mo s' g => hq2 w' mo s' (Gd.ok_r g)))⟩
      · cases e1
    · simp [rngLen] at hl
  | keys => cases hs
  | vals => cases hs
  | items => cases hs
end
end Lt
/-! expressions: the program does what the small language says -/
namespace Lt
open PySem L2
def isBO : Expr → Bool | .BoolOp .. => true | _ => false
section
variable {X : Cx} {ad : Ad} {G : Gt} {W : WX} {k : Nat} {cal : Cal} {m : MC}
/-- what is shown of one expression -/
structure Tri (X : Cx) (ad : Ad) (G : Gt) (W : WX) (cal : Cal) (e : Lt.E) (x : Expr) : Prop where
  pe : PE X x (tE X.K ad G W (fun τ S => den G cal e τ S))
  pt : PT X x (tT X.K ad G W (fun τ S => tst G cal e τ S))
  pw : isBO x = true → PW X x (tT X.K ad G W (fun τ S => tst G cal e τ S))
theorem Tri.of {e : Lt.E} {x : Expr} (h : plainTest x = true) (pe : PE X x (tE X.K ad G W (fun τ S => den G cal e τ S))) : Tri X ad G W cal e x := by
  refine ⟨pe, PT.imp (pt_truth pe (test_plain h X.env)) fun σ H Q hh => ?_, fun z => ?_⟩
  · refine tB1 (r := fun x H' Q => ∃ k, TruV X.K x H' k ∧ Q k H') hh fun w τ a v s rt ra ok => ?_
    obtain ⟨b, e1, ok⟩ := ok.of
    exact ⟨b, tru_rel s ra e1, ok.ret rfl s⟩
  · cases x <;> first | (cases z; done) | (cases h; done)
theorem allStar : ∀ {es : List Lt.E} {xs : List Expr}, mEs G m es xs = true → xs.all noStar = true ∧ es.length = xs.length
  | [], [], _ => ⟨rfl, rfl⟩
  | [], _ :: _, h => by simp [mEs] at h
  | _ :: _, [], h => by simp [mEs] at h
  | e :: es, x :: xs, h => by
    have h' : (noStar x = true ∧ mE G m e x = true) ∧ mEs G m es xs = true := by simpa [mEs] using h
    obtain ⟨h1, h2⟩ := allStar h'.2
    exact ⟨by simp [h'.1.1]; simpa using h1, by simp [h2]⟩
theorem PW.imp {X : Cx} {e : Expr} {t t' : TT} (h : PW X e t) (k : ∀ σ H Q, t' σ H Q → t σ H Q) : PW X e t' := ⟨fun wh pins s σ H Q I q => h.run wh pins s σ H Q I (k _ _ _ q)⟩
theorem boot_bi : ∀ b : Bi, bootBuiltins (biN b) = some (biV b) := by
  intro b; cases b <;> first | decide +kernel | (rename_i f; cases f <;> decide +kernel)
theorem boot_ty (t : Ty) (h : bt t = true) : bootBuiltins (tyNm t) = some (.type (tyN t)) := by
  cases t <;> first | (cases h; done) | decide +kernel
theorem bi_odd : ∀ b : Bi, (biN b ≠ "__name__") ∧ (biN b == ("__debug__" : Str)) = false := by
  intro b; cases b <;> first | decide +kernel | (rename_i f; cases f <;> decide +kernel)
theorem ty_odd (t : Ty) (h : bt t = true) : (tyNm t ≠ "__name__") ∧ (tyNm t == ("__debug__" : Str)) = false ∧ bltN.contains (tyNm t) = true := by
  cases t <;> first | (cases h; done) | decide +kernel
/-- a built-in function, called -/
theorem s_bi (F : Fx X ad G W k cal m) {b : Bi} {p pos : Pos} {e : Expr} {es : List Expr} {t : TA} (hg : glob m.sc (biN b) = true) (hc : bltN.contains (biN b) = true) (ha : PA X (e :: es) t) (h1 : noStar e = true) (h2 : es.all noStar = true) :
    PE X (.Call (.Name (biN b) p) (e :: es) [] pos) (tCB (rBi X.K ad G b) t) := by
  have hr := callR_bi (X := X) (ad := ad) (G := G) F.calm b
  have hm := F.st.blt _ hc
  have hv := boot_bi b
  obtain ⟨o1, o2⟩ := bi_odd b
  have hgl := F.glob hg
  cases b <;> first
    | exact pe_callB hr hgl hm hv ha o1 o2 (starEach_one h1 _ _) (starEach_any pos X.env h2)
    | exact pe_callTy hr hgl hm hv ha o1 o2 (starEach_one h1 _ _) (starEach_any pos X.env h2)

/-! ### the cases -/
theorem frz_ok {K : PySem.W.Frag} {w : Wd} {E : XK} {Q : VK} {r : R A} (h : okR K ad G Q E w (r.bind fun a S1 => match a with
    | .ref n => match S1[n]? with
      | some (.lst xs) => .ok (.lst xs) (S1.set n .dead)
      | _ => .no
    | _ => .no)) : okR K ad G Q E w r := by
  cases r with
  | ok a S =>
    intro w' v e l s ra
    cases a <;> first | exact (h : False).elim | skip
    rename_i n
    cases hS : S[n]? with
    | none => simp only [R.bind_ok, hS] at h; exact h.elim
    | some o =>
      cases o <;> simp only [R.bind_ok, hS] at h <;> first | exact (h : False).elim | skip
      rename_i xs
      obtain ⟨p, e1, rfl⟩ := relA_ref ra
      have e2 : w'.S[n]? = some (.lst xs) := by rw [e]; exact hS
      exact h ⟨w'.ms, w'.S.set n .dead, w'.H, w'.hid⟩ _ (by rw [e]) (l.trans (Le.freeze s)) (RelS.freeze s) (frozen s e1 e2)
  | ex c fs S => exact h
  | no => exact h.elim
theorem unitsOk {X : Cx} {W : WX} {m : MC} (F : Fx X ad G W k cal m) : X.A.units + 66 < cLine := by have := F.room.un; omega
theorem tst_frz (e : Lt.E) {w : Wd} {τ : Tau} {K : PySem.W.Frag} {E : XK} {Q : Bool → Hp → Prop} (h : okB K ad G Q E w (tst G cal (.frz e) τ w.S)) : okB K ad G Q E w (tst G cal e τ w.S) := by
  have h : okB K ad G Q E w (((den G cal e τ w.S).bind fun a S1 => match a with
    | .ref n => match S1[n]? with
      | some (.lst xs) => .ok (.lst xs) (S1.set n .dead)
      | _ => .no
    | _ => .no).bind fun x S1 => R.of (truO S1 x) S1) := h
  unfold tst
  cases hd : den G cal e τ w.S with
  | ok a S =>
    rw [hd] at h
    cases a <;> first | exact (h : False).elim | skip
    rename_i n
    cases hS : S[n]? with
    | none => simp only [R.bind_ok, hS] at h; exact (h : False).elim
    | some o =>
      cases o <;> simp only [R.bind_ok, hS] at h <;> first | exact (h : False).elim | skip
      rename_i xs
      simp only [R.bind_ok, truO, hS, R.of_some] at h ⊢
      intro w' e l s
      exact h ⟨w'.ms, w'.S.set n .dead, w'.H, w'.hid⟩ (by rw [e]) (l.trans (Le.freeze s)) (RelS.freeze s)
  | ex c fs S => rw [hd] at h; exact h
  | no => rw [hd] at h; exact h.elim
/-- an expression that gives a bool, as a test -/
theorem tst_bl {K : PySem.W.Frag} {σ : L2.St} {H : Hp} {Q : Bool → Hp → Prop} {mm : Tau → List O → R A} (hb : ∀ τ S a S', mm τ S = .ok a S' → ∃ k, a = .bl k) (h : tT K ad G W (fun τ S => (mm τ S).bind fun x S1 => R.of (truO S1 x) S1) σ H Q) :
    tE K ad G W mm σ H (fun x H' => ∃ k, x = .bl k ∧ Q k H') := by
  obtain ⟨w, τ, e, s, rt, h⟩ := h
  have h : okB K ad G Q (fun c d H' => W c d σ H') w ((mm τ w.S).bind fun x S1 => R.of (truO S1 x) S1) := h
  refine ⟨w, τ, e, s, rt, ?_⟩
  cases hd : mm τ w.S with
  | ok a S =>
    obtain ⟨k, rfl⟩ := hb _ _ _ _ hd
    rw [hd] at h
    intro w' v e l s ra
    cases relA_bl ra
    exact ⟨k, rfl, h w' e l s⟩
  | ex c fs S => rw [hd] at h; exact h
  | no => rw [hd] at h; exact h.elim
theorem of_bl {o : Option Bool} {S S' : List O} {a : A} (h : R.of (o.map .bl) S = .ok a S') : ∃ k, a = .bl k := by
  cases o with
  | none => cases h
  | some k => cases h; exact ⟨k, rfl⟩
theorem bind_ok {α β : Type} {r : R α} {f : α → List O → R β} {b : β} {S : List O} (h : r.bind f = .ok b S) : ∃ a S1, r = .ok a S1 ∧ f a S1 = .ok b S := by
  cases r with
  | ok a S1 => exact ⟨a, S1, rfl, h⟩
  | ex c fs S => cases h
  | no => cases h
theorem cmp_bl {op : CmpOp} {a b : Lt.E} (τ : Tau) (S : List O) (x : A) (S' : List O) (h : den G cal (.cmp op a b) τ S = .ok x S') : ∃ k, x = .bl k := by
  obtain ⟨_, S1, _, h⟩ := bind_ok (show ((den G cal a τ S).bind _) = .ok x S' from h)
  obtain ⟨_, S2, _, h⟩ := bind_ok h
  exact of_bl h
theorem chn_bl {p q : CmpOp} {a b c : Lt.E} (τ : Tau) (S : List O) (x : A) (S' : List O) (h : den G cal (.chn p q a b c) τ S = .ok x S') : ∃ k, x = .bl k := by
  obtain ⟨_, S1, _, h⟩ := bind_ok (show ((den G cal a τ S).bind _) = .ok x S' from h)
  obtain ⟨_, S2, _, h⟩ := bind_ok h
  split at h
  · obtain ⟨_, S2, _, h⟩ := bind_ok h
    exact of_bl h
  · cases h; exact ⟨_, rfl⟩
  · cases h
theorem chn_ok {K : PySem.W.Frag} {p q : CmpOp} {a b c : Lt.E} {σ : L2.St} {H : Hp} {Q : VK} (h : tE K ad G W (fun τ S => den G cal (.chn p q a b c) τ S) σ H Q) :
    tChain (rCmp K ad p) (rCmp K ad q) (tE K ad G W (fun τ S => den G cal a τ S)) (tE K ad G W (fun τ S => den G cal b τ S)) (tE K ad G W (fun τ S => den G cal c τ S)) σ H Q := by
  obtain ⟨w, τ, e, s, rt, h⟩ := h
  refine ⟨w, τ, e, s, rt, okR.bindR (f := fun x S1 => (den G cal b τ S1).bind fun y S2 => match cmpO p x y S2 with
    | some true => (den G cal c τ S2).bind fun z S3 => R.of ((cmpO q y z S3).map .bl) S3
    | some false => .ok (.bl false) S2
    | none => .no) h fun w1 x v l1 s1 r1 h => ?_⟩
  refine ⟨w1, τ, rfl, s1, rt.mono l1.mo, okR.bindR h fun w2 y u l2 s2 r2 h => ?_⟩
  have r1 := r1.mono l2.mo
  split at h
  · rename_i e1
    refine ⟨w2, x, y, true, rfl, s2, r1, r2, e1, true, rfl, ?_⟩
    rw [if_pos rfl]
    refine ⟨w2, τ, rfl, s2, (rt.mono l1.mo).mono l2.mo, okR.bindR h fun w3 z t l3 s3 r3 h => ?_⟩
    obtain ⟨c, e1, ok⟩ := h.of
    obtain ⟨kk, e2, rfl⟩ := Option.map_eq_some_iff.mp e1
    exact ⟨w3, y, z, kk, rfl, s3, r2.mono l3.mo, r3, e2, ok.ret rfl s3 bl_rel⟩
  · rename_i e1
    refine ⟨w2, x, y, false, rfl, s2, r1, r2, e1, false, rfl, ?_⟩
    rw [if_neg (by decide)]
    exact h.ret rfl s2 bl_rel
  · exact h.elim
/-- the arguments, as many as are written, then the rest -/
theorem tA1L {K : PySem.W.Frag} {σ : L2.St} {H : Hp} {es : List Lt.E} {f : List A → Tau → List O → R A} {Q : VK} {r : List V → Hp → VK → Prop} (h : tE K ad G W (fun τ S => (dens G cal es τ S).bind fun a S1 => f a τ S1) σ H Q)
    (kk : ∀ w τ a v, RelS K ad.cls w → RelT K w τ σ → RelAs K w a v → a.length = es.length → okR K ad G Q (fun c d H' => W c d σ H') w (f a τ w.S) → r v w.H Q) : tL K ad G W (fun τ S => dens G cal es τ S) σ H fun x H1 => r x H1 Q := by
  obtain ⟨w, τ, e', s, t, h⟩ := h
  have h : okR K ad G Q (fun c d H' => W c d σ H') w ((dens G cal es τ w.S).bind fun a S1 => f a τ S1) := h
  refine ⟨w, τ, e', s, t, ?_⟩
  show okA K ad G _ _ w (dens G cal es τ w.S)
  cases hd : dens G cal es τ w.S with
  | ok a S1 =>
    rw [hd] at h
    intro w1 v eS l s1 ra
    exact kk w1 τ a v s1 (t.mono l.mo) ra (dens_len hd) (by rw [eS]; exact h.at l)
  | ex c fs S => rw [hd] at h; exact h
  | no => rw [hd] at h; exact h.elim
/-- the values of keywords -/
theorem tKs {X : Cx} {W : WX} : ∀ {ws : List Lt.E} {kws : List Keyword}, Paired (fun e x => PE X x (tE X.K ad G W (fun τ S => den G cal e τ S))) ws (kws.map (·.value)) → PK X kws (tL X.K ad G W (fun τ S => dens G cal ws τ S))
  | [], [], _ => ⟨fun pos pins s σ H Q I h => pk_nil.run pos pins s σ H Q I (by
      obtain ⟨w, τ, rfl, s, rt, ok⟩ := h
      exact ok w [] rfl (Le.refl w) s RelAs.nil)⟩
  | [], _ :: _, h => by cases h
  | _ :: _, [], h => by cases h
  | e :: ws, ⟨nm, x, p⟩ :: kws, h => by
    cases h with
    | cons h1 h2 =>
      refine ⟨fun pos pins s σ H Q I h => (pk_cons h1 (tKs h2)).run pos pins s σ H Q I ?_⟩
      obtain ⟨w, τ, rfl, s, rt, ok⟩ := h
      refine ⟨w, τ, rfl, s, rt, okR.bindA ok fun w1 a v l s1 ra ok1 => ?_⟩
      refine ⟨w1, τ, rfl, s1, rt.mono l.mo, okA.bindA ok1 fun w2 b u l2 s2 rb ok2 => ?_⟩
      exact ok2 w2 (v :: u) rfl (Le.refl w2) s2 (RelAs.cons (ra.mono l2.mo) rb)
theorem small_list : (100000 : Nat) ≤ sizeLine := by decide
/-- a slice's part: left out, or one expression -/
def Prt (K : PySem.W.Frag) (ad : Ad) (G : Gt) (W : WX) (cal : Cal) (es : List Lt.E) (t : TO) : Prop := (es = [] ∧ t = tNoPart) ∨ ∃ e, es = [e] ∧ t = tPart (tE K ad G W (fun τ S => den G cal e τ S))
theorem Prt.run {K : PySem.W.Frag} {es : List Lt.E} {t : TO} (p : Prt K ad G W cal es t) {w : Wd} {τ : Tau} {σ : L2.St} {Q : VK} {Q' : Option Int → Hp → Prop} {f : Option Int → List O → R A} (s : RelS K ad.cls w) (rt : RelT K w τ σ)
    (h : okR K ad G Q (fun c d H' => W c d σ H') w ((dens G cal es τ w.S).bind fun ls S2 => match partO ls with | none => .no | some l => f l S2))
    (k : ∀ w' o, Le w w' → RelS K ad.cls w' → okR K ad G Q (fun c d H' => W c d σ H') w' (f o w'.S) → Q' o w'.H) : t σ w.H Q' := by
  rcases p with ⟨rfl, rfl⟩ | ⟨e, rfl, rfl⟩
  · exact k w none (Le.refl w) s h
  · have h : okR K ad G Q (fun c d H' => W c d σ H') w ((den G cal e τ w.S).bind fun x S1 => match partO [x] with | none => .no | some l => f l S1) := by
      have e1 : ((dens G cal [e] τ w.S).bind fun ls S2 => match partO ls with | none => .no | some l => f l S2) = ((den G cal e τ w.S).bind fun x S1 => match partO [x] with | none => .no | some l => f l S1) := by
        show (((den G cal e τ w.S).bind _).bind _) = _
        cases den G cal e τ w.S <;> rfl
      rw [← e1]; exact h
    refine ⟨w, τ, rfl, s, rt, okR.bindR h fun w1 x v l1 s1 rx h1 => ?_⟩
    cases x <;> first | exact (h1 : False).elim | skip
    rename_i i
    cases relA_int rx
    exact ⟨i, rfl, k w1 (some i) l1 s1 h1⟩
theorem bm_facts (b : Bm) : PlainAttrs (bmT b) ∧ Slot (bmT b) (bmN b) (bmI b) ∧ typeOf (.builtin (bmI b)) = pure (.type "method_descriptor") := by
  cases b
  · exact ⟨F.plainAttrs_list, F.slot_list_append, F.type_list_append⟩
  · exact ⟨F.plainAttrs_list, F.slot_list_pop, F.type_list_pop⟩
  · exact ⟨F.plainAttrs_list, F.slot_list_clear, F.type_list_clear⟩
  · exact ⟨F.plainAttrs_list, F.slot_list_index, F.type_list_index⟩
  · exact ⟨F.plainAttrs_str, F.slot_str_join, F.type_str_join⟩
  · exact ⟨F.plainAttrs_dict, F.slot_dict_get, F.type_dict_get⟩
  · exact ⟨F.plainAttrs_dict, F.slot_dict_update, F.type_dict_update⟩
theorem fewOk {es : List Expr} (h : es.all noStar = true) (hl : es.length < 20) (pos : Pos) (env : Env) : ((backTo pos (starEach es env)).all (fun x => !x.1) && (backToKw pos (keywordEach [] env)).all (fun x => x.1.isSome)
      && decide (es.length + ([] : List Keyword).length + (if ([] : List Keyword).isEmpty then 0 else 1) < 30)) = true := by
  rw [starEach_all pos env h]
  have : decide (es.length + ([] : List Keyword).length + (if ([] : List Keyword).isEmpty then 0 else 1) < 30) = true := by
    rw [decide_eq_true_eq]; simp; omega
  rw [this]; rfl
theorem s_bm0 {X : Cx} {W : WX} {m : MC} (F : Fx X ad G W k cal m) {b : Bm} {x : Expr} {apos pos : Pos} {to : TE} (ho : PE X x to) (hb : plainBase x = true) (hline : (apos.endLine == pos.line) = true) :
    PE X (.Call (.Attribute x (bmN b) apos) [] [] pos) (tBM0 X.K (bmT b) (rBm X.K ad G b) to) := by
  obtain ⟨f1, f2, f3⟩ := bm_facts b
  exact pe_bm0 f1 f2 f3 (mtr_bm (X := X) (ad := ad) (G := G) (unitsOk F) b) ho (base_plain hb _ _ _) hline
theorem s_bm {X : Cx} {W : WX} {m : MC} (F : Fx X ad G W k cal m) {b : Bm} {x e : Expr} {es : List Expr} {apos pos : Pos} {to : TE} {t : TA} (ho : PE X x to) (ha : PA X (e :: es) t) (hb : plainBase x = true) (hline : (apos.endLine == pos.line) = true) (hl : (e :: es).length < 20) (hs : (e :: es).all noStar = true) :
    PE X (.Call (.Attribute x (bmN b) apos) (e :: es) [] pos) (tBM X.K (bmT b) (rBm X.K ad G b) to t) := by
  obtain ⟨f1, f2, f3⟩ := bm_facts b
  have hs' : noStar e = true ∧ es.all noStar = true := by simpa using hs
  exact pe_bm f1 f2 f3 (mtr_bm (X := X) (ad := ad) (G := G) (unitsOk F) b) ho ha (base_plain hb _ _ _) (fewOk hs hl pos X.env) hline (starEach_one hs'.1 _ _) (starEach_any pos X.env hs'.2)
theorem tE_mono {K : PySem.W.Frag} {m : Tau → List O → R A} {σ : L2.St} {H : Hp} {Q Q' : VK} (h : ∀ v H, Q v H → Q' v H) (t : tE K ad G W m σ H Q) : tE K ad G W m σ H Q' := by
  obtain ⟨w, τ, a, b, c, ok⟩ := t
  refine ⟨w, τ, a, b, c, ?_⟩
  cases hm : m τ w.S with
  | ok x S => rw [hm] at ok; exact fun w' v e l s r => h _ _ (ok w' v e l s r)
  | ex c fs S => rw [hm] at ok; exact ok
  | no => rw [hm] at ok; exact ok
theorem exr_mono {K : PySem.W.Frag} {w w' : Wd} (m : Mo w w') (hH : w'.H = w.H) {c : Nat} {fs : List A} {cv : Value} {d : Option Addr} (h : ExR K ad G w c fs cv d) : ExR K ad G w' c fs cv d := by
  obtain ⟨h1, h2⟩ := h
  refine ⟨h1, h2.imp id ?_⟩
  rintro ⟨dd, ws, ci, a, b, c, d, e⟩
  exact ⟨dd, ws, ci, a, by rw [hH]; exact b, c, d, e.mono m⟩
/-! ### displays of dicts -/
def kVA : A → V
  | .str x => .str (mkS x)
  | .int i => .int i
  | _ => .non
/-- a key of a display -/
def KOk (k : A) : Prop := (∃ kk, keyOf k = some kk ∧ kVA k = kV kk) ∧ okKey k
theorem keys_ok {X : Cx} : ∀ {ks : List Lt.E} {keys : List (Option Expr)}, mKs ks keys = true → ∃ kA, keysC ks = some kA ∧ kA.length = keys.length ∧ (∀ k ∈ kA, KOk k) ∧ keys.all (·.isSome) = true ∧ ks.length = keys.length ∧
    ∀ values : List Expr, Paired (fun (k : A) (x : Option Expr) => ∃ y, x = some y ∧ PE X y (tC (kVA k))) kA keys
  | [], [], _ => ⟨[], rfl, rfl, fun k h => (by cases h), rfl, rfl, fun _ => Paired.nil⟩
  | [], _ :: _, h => by simp [mKs] at h
  | _ :: _, [], h => by simp [mKs] at h
  | e :: ks, x :: keys, h => by
    have h' : mK e x = true ∧ mKs ks keys = true := by simpa [mKs] using h
    obtain ⟨kA, e1, e2, e3, e4, e5, e6⟩ := keys_ok (X := X) h'.2
    have one : ∃ k, constK e = some k ∧ KOk k ∧ ∃ y, x = some y ∧ PE X y (tC (kVA k)) := by
      have hk := h'.1
      unfold mK at hk
      split at hk
      · rename_i x y _ _
        simp only [Bool.and_eq_true, beq_iff_eq, decide_eq_true_eq, List.all_eq_true] at hk
        obtain ⟨⟨rfl, g1⟩, g2⟩ := hk
        exact ⟨.str x, rfl, ⟨⟨_, rfl, rfl⟩, ⟨Nat.le_trans g1 small_list, g2⟩⟩, _, rfl, pe_str⟩
      · rename_i i j _ _
        have : i = j := by simpa using hk
        subst this
        exact ⟨.int i, rfl, ⟨⟨_, rfl, rfl⟩, trivial⟩, _, rfl, pe_int⟩
      · cases hk
    obtain ⟨k, k1, k2, y, rfl, k3⟩ := one
    refine ⟨k :: kA, by simp only [keysC, k1, e1], by simp [e2], fun z hz => ?_, (by rw [List.all_cons, e4]; rfl), by simp [e5], fun values => .cons ⟨y, rfl, k3⟩ (e6 values)⟩
    rcases List.mem_cons.mp hz with rfl | hz
    · exact k2
    · exact e3 z hz
theorem pps_of {X : Cx} {W : WX} {pos : Pos} : ∀ {kA : List A} {keys : List (Option Expr)} {vs : List Lt.E} {values : List Expr}, Paired (fun (k : A) (x : Option Expr) => ∃ y, x = some y ∧ PE X y (tC (kVA k))) kA keys →
    Paired (fun e x => PE X x (tE X.K ad G W (fun τ S => den G cal e τ S))) vs values → kA.length = vs.length → PPs X pos keys values (List.zipWith (fun k e => (tC (kVA k), tE X.K ad G W (fun τ S => den G cal e τ S))) kA vs)
  | _, _, _, _, .nil, .nil, _ => pps_nil
  | _, _, _, _, .nil, .cons _ _, h => by simp at h
  | _, _, _, _, .cons _ _, .nil, h => by simp at h
  | _, _, _, _, .cons ⟨y, e, p⟩ t, .cons q u, h => by
    subst e
    exact pps_cons p q (pps_of t u (by simpa using h))
theorem tPairs_mono {σ : L2.St} {K : PySem.W.Frag} : ∀ (kA : List A) (vs : List Lt.E) (H : Hp) {Q Q' : List (V × V) → Hp → Prop}, (∀ ps H, Q ps H → Q' ps H) →
    tPairs (List.zipWith (fun k e => (tC (kVA k), tE K ad G W (fun τ S => den G cal e τ S))) kA vs) σ H Q → tPairs (List.zipWith (fun k e => (tC (kVA k), tE K ad G W (fun τ S => den G cal e τ S))) kA vs) σ H Q'
  | [], vs, H, Q, Q', h, t => by
    have e : List.zipWith (fun k e => (tC (kVA k), tE K ad G W (fun τ S => den G cal e τ S))) ([] : List A) vs = [] := by simp
    rw [e] at t ⊢
    exact h _ _ t
  | k :: kA, [], H, Q, Q', h, t => h _ _ t
  | k :: kA, e :: vs, H, Q, Q', h, t => tE_mono (fun v H t => tPairs_mono kA vs H (fun ps H q => h _ _ q) t) t
theorem pairs_run {K : PySem.W.Frag} {σ : L2.St} : ∀ (kA : List A) (vs : List Lt.E) (w : Wd) (τ : Tau) (Q : List V → Hp → Prop), kA.length = vs.length → RelS K ad.cls w → RelT K w τ σ → okA K ad G Q (fun c d H' => W c d σ H') w (dens G cal vs τ w.S) →
    tPairs (List.zipWith (fun k e => (tC (kVA k), tE K ad G W (fun τ S => den G cal e τ S))) kA vs) σ w.H fun ps H2 => ∃ us, ps = List.zipWith (fun k v => (kVA k, v)) kA us ∧ us.length = kA.length ∧ Q us H2
  | [], [], w, τ, Q, _, s, rt, ok => ⟨[], rfl, rfl, ok w [] rfl (Le.refl w) s RelAs.nil⟩
  | [], _ :: _, _, _, _, h, _, _, _ => by simp at h
  | _ :: _, [], _, _, _, h, _, _, _ => by simp at h
  | k :: kA, e :: vs, w, τ, Q, hl, s, rt, ok => by
    refine ⟨w, τ, rfl, s, rt, okR.bindA ok fun w1 a v l1 s1 ra ok1 => ?_⟩
    have ok2 : okA K ad G (fun us H2 => Q (v :: us) H2) (fun c d H' => W c d σ H') w1 (dens G cal vs τ w1.S) := okA.bindA ok1 fun w2 b u l2 s2 rb ok2 => ok2 w2 (v :: u) rfl (Le.refl w2) s2 (RelAs.cons (ra.mono l2.mo) rb)
    have ih := pairs_run kA vs w1 τ _ (by simpa using hl) s1 (rt.mono l1.mo) ok2
    refine tPairs_mono _ _ _ (fun ps H2 hh => ?_) ih
    obtain ⟨us, rfl, hu, q⟩ := hh
    exact ⟨v :: us, rfl, by simp [hu], q⟩
theorem merge_rel {K : PySem.W.Frag} {w : Wd} : ∀ {kA xs : List A} {us : List V} {acc : List (A × A)} {ws : List (Key × V)}, (∀ k ∈ kA, KOk k) → RelAs K w xs us → kA.length = xs.length →
    Paired (fun (p : A × A) (q : Key × V) => keyOf p.1 = some q.1 ∧ okKey p.1 ∧ RelA K w p.2 q.2) acc ws →
    ∃ kvs : List (Key × V), List.zipWith (fun k v => (kVA k, v)) kA us = kvs.map (fun kv => (kV kv.1, kv.2)) ∧ kvs.length = kA.length ∧ Paired (fun (p : A × A) (q : Key × V) => keyOf p.1 = some q.1 ∧ okKey p.1 ∧ RelA K w p.2 q.2) ((kA.zip xs).foldl (fun acc p => putO acc p.1 p.2) acc) (mergeK ws kvs)
  | [], xs, us, acc, ws, hk, r, hl, h => ⟨[], by simp, rfl, h⟩
  | k :: kA, [], us, acc, ws, hk, r, hl, h => by simp at hl
  | k :: kA, x :: xs, us, acc, ws, hk, r, hl, h => by
    simp only [RelAs] at r
    obtain ⟨v, us', rfl, r1, r2⟩ := r
    obtain ⟨⟨kk, e1, e2⟩, o⟩ := hk k List.mem_cons_self
    obtain ⟨kvs, e3, e4, e5⟩ := merge_rel (kA := kA) (xs := xs) (us := us') (acc := putO acc k x) (ws := putK ws kk v) (fun z hz => hk z (List.mem_cons_of_mem _ hz)) r2 (by simpa using hl) (putO_put (f := keyOf) (fun h1 h2 => eqv_key h1 h2) e1 o r1 h)
    exact ⟨(kk, v) :: kvs, by simp [e3, e2], by simp [e4], e5⟩
theorem disp_ok {X : Cx} {W : WX} {ks vs : List Lt.E} {kA : List A} {keys : List (Option Expr)} {w : Wd} {τ : Tau} {σ : L2.St} {Q : VK} (e1 : keysC ks = some kA) (e2 : kA.length = keys.length) (okk : ∀ k ∈ kA, KOk k) (hl : kA.length = vs.length) (s : RelS X.K ad.cls w) (rt : RelT X.K w τ σ)
    (ok : okR X.K ad G Q (fun c d H' => W c d σ H') w ((dens G cal vs τ w.S).bind fun xs S1 => match keysC ks with
      | some keys => if keys.length ≤ 15 ∧ keys.length = xs.length then .ok (.ref S1.length) (S1 ++ [.dic false (mergeO (keys.zip xs))]) else .no
      | none => .no)) : tDisp (List.zipWith (fun k e => (tC (kVA k), tE X.K ad G W (fun τ S => den G cal e τ S))) kA vs) σ w.H Q := by
  intro p hp
  have nh : p ∉ w.hid := fun z => by
    obtain ⟨_, o, q⟩ := s.hid p z
    rw [hp] at q; cases q
  have b0 : Blt w (w.hide p (.dK [])) p := Blt.start hp
  have okA' : okA X.K ad G (fun us H2 => H2 p = some (.dK []) ∧ ∃ kvs : List (Key × V), List.zipWith (fun k v => (kVA k, v)) kA us = kvs.map (fun kv => (kV kv.1, kv.2)) ∧ kvs.length ≤ 15 ∧ Q (.ref p) (upd H2 p (.dK (mergeK [] kvs)))) (fun c d H' => W c d σ H') (w.hide p (.dK [])) (dens G cal vs τ w.S) := by
    cases hd : dens G cal vs τ w.S with
    | no => rw [hd] at ok; exact ok.elim
    | ex c fs S1 =>
      rw [hd] at ok
      intro w1 cv d e l s1 x
      have b := b0.le l
      exact ok (w1.show_ w.hid) cv d e b.end_ (s1.show_ b.hid) (exr_mono (Mo.show_ b.hid) rfl x)
    | ok xs S1 =>
      rw [hd] at ok
      simp only [R.bind_ok, e1] at ok
      split at ok
      case isFalse => exact ok.elim
      rename_i hz
      intro w1 us e l s1 rs
      have b := b0.le l
      have hh : p ∈ w1.hid := by rw [b.hid]; exact List.mem_cons_self
      have hD : w1.H p = some (.dK []) := l.hidk p List.mem_cons_self _ upd_same
      obtain ⟨kvs, e3, e4, e5⟩ := merge_rel (K := X.K) (w := w1) (acc := []) (ws := []) okk rs hz.2 .nil
      refine ⟨hD, kvs, e3, by omega, ?_⟩
      have b2 := b.poke (o := .dK (mergeK [] kvs)) hp
      have s2 := s1.poke (o := .dK (mergeK [] kvs)) hh
      have m2 : Mo w1 (w1.poke p (.dK (mergeK [] kvs))) := Mo.poke hh
      obtain ⟨l3, s3, r3⟩ := b2.adopt (o := .dic false (mergeO (kA.zip xs))) nh s2 ⟨_, upd_same⟩ (fun w' e m => ⟨mergeK [] kvs, by rw [e]; exact upd_same, Paired.mapP e5 fun _ _ z => ⟨z.1, z.2.1, (z.2.2.mono m2).mono m⟩⟩)
      have e' : w1.S = S1 := e
      subst e'
      exact ok _ _ rfl l3 s3 r3
  have run := pairs_run kA vs (w.hide p (.dK [])) τ _ hl (s.hide hp) (rt.mono (Mo.hide hp)) okA'
  refine tPairs_mono _ _ _ (fun ps H2 hh => ?_) run
  obtain ⟨us, rfl, _, h1, kvs, h2, h3, h4⟩ := hh
  exact ⟨h1, kvs, h2, h3, h4⟩
/-! ### own classes -/
theorem mk_ok {X : Cx} {W : WX} {c d : Nat} {ci : Ci} (ec : G.clss[c]? = some ci) (ei : ci.init = some d) {w : Wd} {σ : L2.St} {Q : VK} {a : List A} {v : List V} (s : RelS X.K ad.cls w) (ra : RelAs X.K w a v)
    (ok : okR X.K ad G Q (fun c d H' => W c d σ H') w (match G.cls c with
            | some ⟨_, some d, _, _⟩ => (cal d (.ref w.S.length :: a) (w.S ++ [.ins c []])).bind fun v S2 => match v with
              | .non => .ok (.ref w.S.length) S2
              | _ => .no
            | _ => .no)) : ∀ x dx, w.H x = none → w.H dx = none → dx ≠ x → spF X.K ad G (cal d) (.ref x :: v) (upd (upd w.H dx (.own x)) x (.ins (ad.cls c) dx [])) (fun v H2 => v = .non ∧ Q (.ref x) H2) (fun c d H' => W c d σ H') := by
  intro x dx hx hdx hne
  obtain ⟨nm, i0, ms, fl⟩ := ci
  have ei : i0 = some d := ei
  subst ei
  have e0 : G.cls c = some ⟨nm, some d, ms, fl⟩ := ec
  rw [e0] at ok
  have g : ∀ b u, w.H b = some u → upd (upd w.H dx (.own x)) x (.ins (ad.cls c) dx []) b = some u := fun b u q => by
    rw [upd_ne (ne_of_none q hx), upd_ne (ne_of_none q hdx)]; exact q
  have le := Le.new (o := .ins c []) (H' := upd (upd w.H dx (.own x)) x (.ins (ad.cls c) dx [])) s hx g
  refine ⟨⟨w.ms ++ [x], w.S ++ [.ins c []], upd (upd w.H dx (.own x)) x (.ins (ad.cls c) dx []), w.hid⟩, .ref w.S.length :: a, rfl, s.new (o := .ins c []) hx g ⟨_, upd_same⟩ ⟨dx, [], upd_same, .nil⟩, RelAs.cons (new_ref s) (ra.mono le.mo), ?_⟩
  show okR X.K ad G _ _ _ (cal d (.ref w.S.length :: a) (w.S ++ [.ins c []]))
  refine okR.bindR (ok.at le) fun w2 y u l2 s2 ry ok2 => ?_
  cases y <;> first | exact (ok2 : False).elim | skip
  refine ⟨relA_non ry, ok2.ret rfl s2 ((new_ref (o := .ins c []) (H' := upd (upd w.H dx (.own x)) x (.ins (ad.cls c) dx [])) s).mono l2.mo)⟩
theorem look_ins {K : PySem.W.Frag} {w : Wd} {f : Str} : ∀ {fs : List (Str × A)} {ws : List (Str × V)}, Paired (fun (p : Str × A) (q : Str × V) => p.1 = q.1 ∧ RelA K w p.2 q.2) fs ws → (fs.lookup f = none ∧ ws.lookup f = none) ∨ ∃ a v, fs.lookup f = some a ∧ ws.lookup f = some v ∧ RelA K w a v
  | _, _, .nil => .inl ⟨rfl, rfl⟩
  | (x, a) :: fs, (y, v) :: ws, .cons h t => by
    obtain ⟨rfl, r⟩ := h
    rw [List.lookup_cons, List.lookup_cons]
    cases e : f == x with
    | true => exact .inr ⟨a, v, rfl, rfl, r⟩
    | false => exact look_ins t
theorem mth_ok {X : Cx} {W : WX} {m : MC} (F : Fx X ad G W k cal m) {w : Wd} {σ : L2.St} {Q : VK} {a : A} {v : V} {mn : Str} {f : Nat → Nat → R A} (s : RelS X.K ad.cls w)
    (ok : okR X.K ad G Q (fun c d H' => W c d σ H') w (match a with
    | .ref n => match w.S[n]? with
      | some (.ins c fs) => if fs.lookup mn = none then match G.cls c with
        | some ci => match ci.meths.lookup mn with
          | some d => f n d
          | none => .no
        | none => .no else .no
      | _ => .no
    | _ => .no)) (ra : RelA X.K w a v) {P : Sp → Prop} (kk : ∀ n d, a = .ref n → True → okR X.K ad G Q (fun c d H' => W c d σ H') w (f n d) → P (spF X.K ad G (cal d))) : rMth X.K X.prog X.w X.mg X.base (L2.CX X.prog X.w) (4 * k) mn v w.H P := by
  cases a <;> first | exact (ok : False).elim | skip
  rename_i n
  obtain ⟨p, e1, rfl⟩ := relA_ref ra
  simp only at ok
  split at ok
  · rename_i c fs hS
    split at ok
    · rename_i hl
      split at ok
      · rename_i ci ec
        split at ok
        · rename_i d hd
          obtain ⟨dx, ws, q, rs⟩ := s.obj n p _ e1 hS
          have hc : c < G.clss.length := (List.getElem?_eq_some_iff.mp ec).1
          have hl' : ws.lookup mn = none := by
            rcases look_ins (f := mn) rs with ⟨_, h⟩ | ⟨_, _, h, _⟩
            · exact h
            · rw [hl] at h; cases h
          exact ⟨p, ad.cls c, ad.df d, dx, ws, spF X.K ad G (cal d), rfl, q, (F.st.cf c hc).cl, (F.st.mem c ci ec).meth mn d hd, F.st.fns d, hl', kk n d rfl trivial ok⟩
        · exact ok.elim
      · exact ok.elim
    · exact ok.elim
  · exact ok.elim
theorem fld_ok {X : Cx} {W : WX} {m : MC} (F : Fx X ad G W k cal m) {w : Wd} {σ : L2.St} {Q : VK} {a : A} {v : V} {f : Str} (s : RelS X.K ad.cls w)
    (ok : okR X.K ad G Q (fun c d H' => W c d σ H') w (match a with
    | .ref n => match w.S[n]? with
      | some (.ins c fs) => match G.cls c with
        | some ci => if ci.fields.contains f then R.of (fs.lookup f) w.S else .no
        | none => .no
      | _ => .no
    | _ => .no)) (ra : RelA X.K w a v) : ∃ a C dx fs u, v = .ref a ∧ w.H a = some (.ins C dx fs) ∧ Cls X.K C ∧ NoAttr X.K C f ∧ fs.lookup f = some u ∧ Q u w.H := by
  cases a <;> first | exact (ok : False).elim | skip
  rename_i n
  obtain ⟨p, e1, rfl⟩ := relA_ref ra
  simp only at ok
  split at ok
  · rename_i c fs hS
    split at ok
    · rename_i ci ec
      split at ok
      · rename_i hf
        obtain ⟨y, ey, ok⟩ := ok.of
        obtain ⟨dx, ws, q, rs⟩ := s.obj n p _ e1 hS
        have hc : c < G.clss.length := (List.getElem?_eq_some_iff.mp ec).1
        rcases look_ins (f := f) rs with ⟨h, _⟩ | ⟨a', u, h1, h2, r⟩
        · rw [ey] at h; cases h
        · rw [ey] at h1; cases h1
          exact ⟨p, ad.cls c, dx, ws, u, rfl, q, (F.st.cf c hc).cl, (F.st.mem c ci ec).fld f hf, h2, ok.ret rfl s r⟩
      · exact ok.elim
    · exact ok.elim
  · exact ok.elim
/-- the parts of a comprehension -/
structure Lcp (X : Cx) (ad : Ad) (G : Gt) (W : WX) (cal : Cal) (elt : Lt.E) (t : T) (ik : IK) (src ifs : List Lt.E) (own : List (Str × Nat)) (elt' tg iter : Expr) (ifs' : List Expr) (scope : Scope) : Prop where
  pi : PI X tg iter (tI X.K ad G W (fun τ S => iD G cal ik src τ S))
  ok : BlkOk X.N X.env.scope scope own
  pg : ∀ (s : Shared) (H : Hp) (C : Addr) (cl : List (Str × Addr)) (fp : List Addr), PG (X.blk s H scope (compEnvC scope cl C X.env) fp) tg (gT X.K ad t)
  pt : ∀ (s : Shared) (H : Hp) (C : Addr) (cl : List (Str × Addr)) (fp : List Addr), PTs (X.blk s H scope (compEnvC scope cl C X.env) fp) ifs' (tT X.K ad G (fun _ _ _ _ => False) (fun τ S => condD G cal ifs τ S))
  pe : ∀ (s : Shared) (H : Hp) (C : Addr) (cl : List (Str × Addr)) (fp : List Addr), PE (X.blk s H scope (compEnvC scope cl C X.env) fp) elt' (tE X.K ad G (fun _ _ _ _ => False) (fun τ S => den G cal elt τ S))
theorem lcParts {X : Cx} {W : WX} {m : MC} (F : Fx X ad G W k cal m) {elt : Lt.E} {t : T} {ik : IK} {src ifs : List Lt.E} {own : List (Str × Nat)} {elt' tg iter : Expr} {ifs' args : List Expr} {scope : Scope} (h1 : noSet iter = true) (ha : srcArgs m ik tg iter = some args) (h9 : rngLen ik args.length = true)
    (h10 : mEs G m src args = true) (U : PA X args (tL X.K ad G W (fun τ S => dens G cal src τ S)) ∧ (∀ x, args = [x] → ∃ e, src = [e] ∧ PE X x (tE X.K ad G W (fun τ S => den G cal e τ S)) ∧ PT X x (tT X.K ad G W (fun τ S => tst G cal e τ S))))
    (h3 : mT (m.blk scope) t tg = true) (h5 : ifs'.length ≤ 1) (h6 : mEs G (m.blk scope) ifs ifs' = true) (h7 : blkC m.N m.sc scope own = true)
    (V : ∀ (s : Shared) (H : Hp) (C : Addr) (cl : List (Str × Addr)) (fp : List Addr), PA (X.blk s H scope (compEnvC scope cl C X.env) fp) ifs' (tL X.K ad G (fun _ _ _ _ => False) (fun τ S => dens G cal ifs τ S)) ∧ (∀ x, ifs' = [x] → ∃ e, ifs = [e] ∧ PE (X.blk s H scope (compEnvC scope cl C X.env) fp) x (tE X.K ad G (fun _ _ _ _ => False) (fun τ S => den G cal e τ S)) ∧ PT (X.blk s H scope (compEnvC scope cl C X.env) fp) x (tT X.K ad G (fun _ _ _ _ => False) (fun τ S => tst G cal e τ S))))
    (E' : ∀ (s : Shared) (H : Hp) (C : Addr) (cl : List (Str × Addr)) (fp : List Addr), PE (X.blk s H scope (compEnvC scope cl C X.env) fp) elt' (tE X.K ad G (fun _ _ _ _ => False) (fun τ S => den G cal elt τ S))) :
    Lcp X ad G W cal elt t ik src ifs own elt' tg iter ifs' scope := by
  have S := allStar h10
  refine ⟨s_pi F ha h9 S.1 S.2 U.1 (fun x hx => let ⟨e, a, b, _⟩ := U.2 x hx; ⟨e, a, b⟩), by rw [F.N, F.sc]; exact blkOk_by h7, fun s H C cl fp => sT (ad := ad) (F.blk s H scope cl C fp).toMx t tg h3, fun s H C cl fp => ?_, E'⟩
  have V := V s H C cl fp
  rcases ifs' with _ | ⟨c, _ | ⟨c2, r⟩⟩
  · have : ifs = [] := by
      have := (allStar h6).2
      cases ifs with
      | nil => rfl
      | cons _ _ => simp at this
    subst this
    refine ⟨fun pins s' σ H' Q I hw => pts_nil.run pins s' σ H' Q I ?_⟩
    obtain ⟨w, τ, rfl, sw, rt, okk⟩ := hw
    exact okB.ret (b := true) okk rfl sw
  · obtain ⟨e, rfl, _, pt⟩ := V.2 c rfl
    refine ⟨fun pins s' σ H' Q I hw => (pts_one pt).run pins s' σ H' Q I ?_⟩
    exact tT.congr hw fun τ S => condD_one e τ S
  · simp at h5
mutual
theorem sE : ∀ (e : Lt.E) {X : Cx} {W : WX} {m : MC} (F : Fx X ad G W k cal m) (x : Expr), mE G m e x = true → Tri X ad G W cal e x
  | .nm i, X, W, m, F, x, h => by
    cases x <;> simp only [mE] at h <;> first | (cases h; done) | skip
    rename_i x pos
    simp only [Bool.and_eq_true, beq_iff_eq] at h
    obtain ⟨⟨h1, h2⟩, h3⟩ := h
    obtain ⟨o1, o2⟩ := not_odd h3
    refine Tri.of rfl (PE.imp (pe_var (i := i) (by rw [F.N]; exact h1) (F.see h2) o1 o2) ?_)
    rintro σ H Q ⟨w, τ, rfl, s, rt, ok⟩
    have ok : okR X.K ad G Q (fun c d H' => W c d σ H') w (match τ[i]? with | some (some a) => .ok a w.S | _ => .no) := ok
    split at ok
    · rename_i a e
      obtain ⟨v, e1, r⟩ := rt.at_ i a e
      exact ⟨v, e1, ok.ret rfl s r⟩
    · exact ok.elim
  | .cN, X, W, m, F, x, h => by
    cases x <;> simp only [mE] at h <;> first | (cases h; done) | skip
    rename_i c j pos
    cases c <;> simp only at h <;> first | (cases h; done) | skip
    refine Tri.of rfl (PE.imp pe_non ?_)
    rintro σ H Q ⟨w, τ, rfl, s, rt, ok⟩
    exact okR.ret ok rfl s non_rel
  | .cB b, X, W, m, F, x, h => by
    cases x <;> simp only [mE] at h <;> first | (cases h; done) | skip
    rename_i c j pos
    cases c <;> simp only [beq_iff_eq] at h <;> first | (cases h; done) | skip
    refine Tri.of rfl (PE.imp pe_bl ?_)
    rintro σ H Q ⟨w, τ, rfl, s, rt, ok⟩
    exact okR.ret (a := .bl b) ok rfl s (by rw [h]; exact bl_rel)
  | .cI b, X, W, m, F, x, h => by
    cases x <;> simp only [mE] at h <;> first | (cases h; done) | skip
    rename_i c j pos
    cases c <;> simp only [beq_iff_eq] at h <;> first | (cases h; done) | skip
    refine Tri.of rfl (PE.imp pe_int ?_)
    rintro σ H Q ⟨w, τ, rfl, s, rt, ok⟩
    exact okR.ret (a := .int b) ok rfl s (by rw [h]; exact int_rel)
  | .cS b, X, W, m, F, x, h => by
    cases x <;> simp only [mE] at h <;> first | (cases h; done) | skip
    rename_i c j pos
    cases c <;> simp only [Bool.and_eq_true, beq_iff_eq, decide_eq_true_eq, List.all_eq_true] at h <;> first | (cases h; done) | skip
    refine Tri.of rfl (PE.imp pe_str ?_)
    rintro σ H Q ⟨w, τ, rfl, s, rt, ok⟩
    exact okR.ret (a := .str b) ok rfl s (by rw [h.1.1]; exact str_rel ⟨Nat.le_trans h.1.2 (by decide), h.2⟩)
  | .gl y, X, W, m, F, x, h => by
    cases x <;> simp only [mE] at h <;> first | (cases h; done) | skip
    rename_i c pos
    simp only [Bool.and_eq_true, beq_iff_eq] at h
    obtain ⟨⟨⟨rfl, h2⟩, h3⟩, h4⟩ := h
    obtain ⟨a, ea⟩ := Option.isSome_iff_exists.mp h3
    obtain ⟨v, u, h5, h6, h7⟩ := F.st.con _ _ ea
    refine Tri.of rfl (PE.imp (pe_glob (F.glob h2) h5 h6 (not_odd h4).1) ?_)
    rintro σ H Q ⟨w, τ, rfl, s, rt, ok⟩
    have ok : okR X.K ad G Q (fun c d H' => W c d σ H') w (R.of (G.consts.lookup y) w.S) := ok
    rw [ea] at ok
    exact okR.ret ok rfl s (h7 w)
  | .frz e, X, W, m, F, x, h => by
    have T := sE e F x h
    refine ⟨PE.imp T.pe ?_, PT.imp T.pt ?_, fun z => PW.imp (T.pw z) ?_⟩
    · rintro σ H Q ⟨w, τ, rfl, s, rt, ok⟩
      exact ⟨w, τ, rfl, s, rt, frz_ok ok⟩
    · rintro σ H Q ⟨w, τ, rfl, s, rt, ok⟩
      exact ⟨w, τ, rfl, s, rt, tst_frz e ok⟩
    · rintro σ H Q ⟨w, τ, rfl, s, rt, ok⟩
      exact ⟨w, τ, rfl, s, rt, tst_frz e ok⟩
  | .bin op fl a b, X, W, m, F, x, h => by
    cases x <;> simp only [mE] at h <;> first | (cases h; done) | skip
    rename_i x op' y pos
    simp only [Bool.and_eq_true, decide_eq_true_eq] at h
    obtain ⟨⟨rfl, h1⟩, h2⟩ := h
    refine Tri.of rfl (PE.imp (pe_op (opr_bin (ad := ad) (G := G) op fl) (sE a F x h1).pe (sE b F y h2).pe) ?_)
    intro σ H Q hh
    refine tE2 (f := fun a b τ S => binO op fl a b S) (r := rBin X.K ad G op fl) hh fun w τ a b v u s rt ra rb ok => ?_
    exact ⟨w, a, b, _, rfl, s, ra, rb, ok⟩
  | .neg a, X, W, m, F, x, h => by
    cases x <;> simp only [mE] at h <;> first | (cases h; done) | skip
    rename_i op x pos
    cases op <;> simp only at h <;> first | (cases h; done) | skip
    refine Tri.of rfl (PE.imp (pe_un un_neg (sE a F x h).pe) ?_)
    intro σ H Q hh
    refine tE1 (r := fun x H1 Q => rU (fun i => V.int (-i)) x H1 Q) hh fun w τ a v s rt ra ok => ?_
    cases a <;> simp only at ok <;> first | exact (ok : False).elim | skip
    cases relA_int ra
    exact ⟨_, rfl, ok.ret rfl s int_rel⟩
  | .no_ a, X, W, m, F, x, h => by
    cases x <;> simp only [mE] at h <;> first | (cases h; done) | skip
    rename_i op x pos
    cases op <;> simp only at h <;> first | (cases h; done) | skip
    have T := sE a F x h
    refine ⟨PE.imp (pe_notT T.pe) ?_, PT.imp (pt_not T.pt) ?_, fun z => by cases z⟩
    · intro σ H Q hh
      refine tE1 (r := fun x H1 Q => ∃ k, TruV X.K x H1 k ∧ Q (.bl (!k)) H1) hh fun w τ a v s rt ra ok => ?_
      obtain ⟨b, e1, ok⟩ := ok.of
      obtain ⟨kk, e2, rfl⟩ := Option.map_eq_some_iff.mp e1
      exact ⟨kk, tru_rel s ra e2, ok.ret rfl s bl_rel⟩
    · intro σ H Q hh
      refine tT2 (f := fun c τ S => .ok (!c) S) (r := fun c H1 Q => Q (!c) H1) (hh.congr fun τ S => tst_not a τ S) fun w τ b s rt ok => ?_
      exact okB.ret ok rfl s
  | .and_ a b, X, W, m, F, x, h => by
    cases x <;> simp only [mE] at h <;> first | (cases h; done) | skip
    rename_i op xs pos
    cases op <;> first | (cases h; done) | skip
    rcases xs with _ | ⟨x, _ | ⟨y, r⟩⟩ <;> first | (cases h; done) | skip
    simp only [Bool.and_eq_true] at h
    obtain ⟨h1, h2⟩ := h
    have T := sE a F x h1
    have U : PE X (.BoolOp .And (y :: r) pos) (tE X.K ad G W (fun τ S => den G cal b τ S)) ∧ PW X (.BoolOp .And (y :: r) pos) (tT X.K ad G W (fun τ S => tst G cal b τ S)) := by
      cases r with
      | nil => have V := sE b F y h2; exact ⟨pe_one V.pe, pw_and1 V.pt⟩
      | cons z r => have V := sE b F _ h2; exact ⟨V.pe, V.pw rfl⟩
    have pw : PW X (.BoolOp .And (x :: y :: r) pos) (tT X.K ad G W (fun τ S => tst G cal (.and_ a b) τ S)) := by
      refine PW.imp (pw_and T.pt U.2) ?_
      intro σ H Q hh
      refine tT2 (f := fun c τ S => if c then tst G cal b τ S else .ok false S) (r := fun c H1 Q => if c = true then tT X.K ad G W (fun τ S => tst G cal b τ S) σ H1 Q else Q false H1) (hh.congr fun τ S => tst_and a b τ S) fun w τ c s rt ok => ?_
      cases c with
      | true => exact ⟨w, τ, rfl, s, rt, ok⟩
      | false => exact okB.ret ok rfl s
    refine ⟨PE.imp (pe_andT T.pe U.1) ?_, pw.pt, fun _ => pw⟩
    intro σ H Q hh
    refine tE1 (r := fun x H1 Q => ∃ k, TruV X.K x H1 k ∧ if k = true then tE X.K ad G W (fun τ S => den G cal b τ S) σ H1 Q else Q x H1) hh fun w τ a v s rt ra ok => ?_
    split at ok
    · rename_i e; exact ⟨true, tru_rel s ra e, w, τ, rfl, s, rt, ok⟩
    · rename_i e; exact ⟨false, tru_rel s ra e, ok.ret rfl s ra⟩
    · exact ok.elim
  | .or_ a b, X, W, m, F, x, h => by
    cases x <;> simp only [mE] at h <;> first | (cases h; done) | skip
    rename_i op xs pos
    cases op <;> first | (cases h; done) | skip
    rcases xs with _ | ⟨x, _ | ⟨y, r⟩⟩ <;> first | (cases h; done) | skip
    simp only [Bool.and_eq_true] at h
    obtain ⟨h1, h2⟩ := h
    have T := sE a F x h1
    have U : PE X (.BoolOp .Or (y :: r) pos) (tE X.K ad G W (fun τ S => den G cal b τ S)) ∧ PW X (.BoolOp .Or (y :: r) pos) (tT X.K ad G W (fun τ S => tst G cal b τ S)) := by
      cases r with
      | nil => have V := sE b F y h2; exact ⟨pe_one V.pe, pw_or1 V.pt⟩
      | cons z r => have V := sE b F _ h2; exact ⟨V.pe, V.pw rfl⟩
    have pw : PW X (.BoolOp .Or (x :: y :: r) pos) (tT X.K ad G W (fun τ S => tst G cal (.or_ a b) τ S)) := by
      refine PW.imp (pw_or T.pt U.2) ?_
      intro σ H Q hh
      refine tT2 (f := fun c τ S => if c then .ok true S else tst G cal b τ S) (r := fun c H1 Q => if c = true then Q true H1 else tT X.K ad G W (fun τ S => tst G cal b τ S) σ H1 Q) (hh.congr fun τ S => tst_or a b τ S) fun w τ c s rt ok => ?_
      cases c with
      | true => exact okB.ret ok rfl s
      | false => exact ⟨w, τ, rfl, s, rt, ok⟩
    refine ⟨PE.imp (pe_orT T.pe U.1) ?_, pw.pt, fun _ => pw⟩
    intro σ H Q hh
    refine tE1 (r := fun x H1 Q => ∃ k, TruV X.K x H1 k ∧ if k = true then Q x H1 else tE X.K ad G W (fun τ S => den G cal b τ S) σ H1 Q) hh fun w τ a v s rt ra ok => ?_
    split at ok
    · rename_i e; exact ⟨false, tru_rel s ra e, w, τ, rfl, s, rt, ok⟩
    · rename_i e; exact ⟨true, tru_rel s ra e, ok.ret rfl s ra⟩
    · exact ok.elim
  | .ifx c a b, X, W, m, F, x, h => by
    cases x <;> simp only [mE] at h <;> first | (cases h; done) | skip
    rename_i x y z pos
    simp only [Bool.and_eq_true] at h
    obtain ⟨⟨h1, h2⟩, h3⟩ := h
    have T := sE c F x h1
    have U := sE a F y h2
    have V := sE b F z h3
    refine ⟨PE.imp (pe_ifExp T.pt U.pe V.pe) ?_, PT.imp (pt_ifx T.pt U.pt V.pt) ?_, fun z => by cases z⟩
    · intro σ H Q hh
      refine tT1 (f := fun c τ S => if c then den G cal a τ S else den G cal b τ S) (r := fun c H1 Q => if c = true then tE X.K ad G W (fun τ S => den G cal a τ S) σ H1 Q else tE X.K ad G W (fun τ S => den G cal b τ S) σ H1 Q) (hh.congr fun τ S => den_ifx c a b τ S) fun w τ c s rt ok => ?_
      cases c <;> exact ⟨w, τ, rfl, s, rt, ok⟩
    · intro σ H Q hh
      refine tT2 (f := fun c τ S => if c then tst G cal a τ S else tst G cal b τ S) (r := fun c H1 Q => if c = true then tT X.K ad G W (fun τ S => tst G cal a τ S) σ H1 Q else tT X.K ad G W (fun τ S => tst G cal b τ S) σ H1 Q) (hh.congr fun τ S => tst_ifx c a b τ S) fun w τ c s rt ok => ?_
      cases c <;> exact ⟨w, τ, rfl, s, rt, ok⟩
  | .cmp op a b, X, W, m, F, x, h => by
    cases x <;> simp only [mE] at h <;> first | (cases h; done) | skip
    rename_i x ops ys pos
    split at h
    case h_2 => cases h
    rename_i x op' y p0 e0
    cases e0
    simp only [Bool.and_eq_true, decide_eq_true_eq, Bool.not_eq_true'] at h
    obtain ⟨⟨⟨rfl, h0⟩, h1⟩, h2⟩ := h
    have T := sE a F x h1
    have U := sE b F y h2
    refine ⟨PE.imp (pe_cmpR (opr_cmp (ad := ad) op (unitsOk F)) T.pe U.pe h0) ?_, PT.imp (pt_cmpR (opr_cmp (ad := ad) op (unitsOk F)) T.pe U.pe h0) ?_, fun z => by cases z⟩
    · intro σ H Q hh
      refine tE2 (f := fun a b τ S => R.of ((cmpO op a b S).map .bl) S) (r := rCmp X.K ad op) hh fun w τ a b v u s rt ra rb ok => ?_
      obtain ⟨c, e1, ok⟩ := ok.of
      obtain ⟨kk, e2, rfl⟩ := Option.map_eq_some_iff.mp e1
      exact ⟨w, a, b, kk, rfl, s, ra, rb, e2, ok.ret rfl s bl_rel⟩
    · intro σ H Q hh
      refine tE2 (G := G) (W := W) (Q := fun x H' => ∃ k, x = .bl k ∧ Q k H') (f := fun a b τ S => R.of ((cmpO op a b S).map .bl) S) (r := rCmp X.K ad op) (tst_bl (mm := fun τ S => den G cal (.cmp op a b) τ S) cmp_bl hh) fun w τ a b v u s rt ra rb ok => ?_
      obtain ⟨c, e1, ok⟩ := ok.of
      obtain ⟨kk, e2, rfl⟩ := Option.map_eq_some_iff.mp e1
      exact ⟨w, a, b, kk, rfl, s, ra, rb, e2, ok.ret rfl s bl_rel⟩
  | .chn p q a b c, X, W, m, F, x, h => by
    cases x <;> simp only [mE] at h <;> first | (cases h; done) | skip
    rename_i x ops ys pos
    split at h
    case h_2 => cases h
    rename_i x op' oq' y z p0 e0
    cases e0
    simp only [Bool.and_eq_true, decide_eq_true_eq, Bool.not_eq_true'] at h
    obtain ⟨⟨⟨⟨⟨rfl, rfl⟩, h0⟩, h1⟩, h2⟩, h3⟩ := h
    have T := sE a F x h1
    have U := sE b F y h2
    have V := sE c F z h3
    refine ⟨PE.imp (pe_chain (opr_cmp (ad := ad) p (unitsOk F)) (opr_cmp (ad := ad) q (unitsOk F)) T.pe U.pe V.pe h0) ?_, PT.imp (pt_chain (opr_cmp (ad := ad) p (unitsOk F)) (opr_cmp (ad := ad) q (unitsOk F)) T.pe U.pe V.pe h0) ?_, fun z => by cases z⟩
    · intro σ H Q hh
      exact chn_ok hh
    · intro σ H Q hh
      exact chn_ok (tst_bl (mm := fun τ S => den G cal (.chn p q a b c) τ S) chn_bl hh)
  | .tup es, X, W, m, F, x, h => by
    cases x <;> simp only [mE] at h <;> first | (cases h; done) | skip
    rename_i xs kk pos
    simp only [Bool.and_eq_true, decide_eq_true_eq] at h
    obtain ⟨h0, h⟩ := h
    refine Tri.of rfl (PE.imp (pe_tup (sEs es F xs h).1) ?_)
    intro σ H Q hh
    refine tA1L (f := fun xs τ S => .ok (.tup xs) S) (r := fun xs H1 Q => xs.length ≤ sizeLine ∧ ∀ p, H1 p = none → Q (.ref p) (upd H1 p (.tup xs))) hh fun w τ a v s rt ra hl ok => ?_
    have hz : v.length ≤ 100000 := by rw [← ra.length, hl, (allStar h).2]; exact h0
    exact ⟨Nat.le_trans hz small_list, ok.mkT s ra⟩
  | .lst fl es, X, W, m, F, x, h => by
    cases x <;> simp only [mE] at h <;> first | (cases h; done) | skip
    rename_i xs pos
    simp only [Bool.and_eq_true, decide_eq_true_eq] at h
    obtain ⟨h0, h⟩ := h
    refine Tri.of rfl (PE.imp (pe_lst (sEs es F xs h).1) ?_)
    intro σ H Q hh
    refine tA1L (f := fun xs τ S => mkL fl xs S) (r := fun xs H1 Q => xs.length ≤ sizeLine ∧ ∀ p, H1 p = none → Q (.ref p) (upd H1 p (.lst xs))) hh fun w τ a v s rt ra hl ok => ?_
    have hz : v.length ≤ 100000 := by rw [← ra.length, hl, (allStar h).2]; exact h0
    exact ⟨Nat.le_trans hz small_list, ok.mkL s ra⟩
  | .dic t [] [], X, W, m, F, x, h => by
    cases x <;> simp only [mE] at h <;> first | (cases h; done) | skip
    rename_i ks vs pos
    cases ks <;> first | (cases h; done) | skip
    cases vs <;> first | (cases h; done) | skip
    cases t with
    | false =>
      refine Tri.of rfl (PE.imp pe_dnewK ?_)
      rintro σ H Q ⟨w, τ, rfl, s, rt, ok⟩ p hp
      have g := upd_grow (o := .dK []) hp
      exact ok ⟨w.ms ++ [p], w.S ++ [.dic false []], upd w.H p (.dK []), w.hid⟩ _ rfl (Le.new s hp g) (s.new (o := .dic false []) hp g ⟨_, upd_same⟩ ⟨[], upd_same, .nil⟩) (new_ref s)
    | true =>
      refine Tri.of rfl (PE.imp pe_dnewT ?_)
      rintro σ H Q ⟨w, τ, rfl, s, rt, ok⟩ p hp
      have g := upd_grow (o := .dT []) hp
      exact ok ⟨w.ms ++ [p], w.S ++ [.dic true []], upd w.H p (.dT []), w.hid⟩ _ rfl (Le.new s hp g) (s.new (o := .dic true []) hp g ⟨_, upd_same⟩ ⟨[], upd_same, .nil⟩) (new_ref s)
  | .dic t (k0 :: ks) vs, X, W, m, F, x, h => by
    cases x <;> simp only [mE] at h <;> first | (cases h; done) | skip
    rename_i keys values pos
    simp only [Bool.and_eq_true, decide_eq_true_eq] at h
    obtain ⟨⟨⟨h1, h2⟩, h3⟩, h4⟩ := h
    have P := (sEs vs F values h4).2.2
    obtain ⟨kA, e1, e2, okk, hall, hlen, mk⟩ := keys_ok (X := X) h1
    have h0 : keys ≠ [] := by intro z; subst z; simp [mKs] at h1
    have hv := (allStar h4).2
    refine Tri.of rfl (PE.imp (pe_disp (pps_of (mk values) P (by omega)) hall h3 h0 h2) ?_)
    rintro σ H Q ⟨w, τ, rfl, s, rt, ok⟩
    exact disp_ok (ks := k0 :: ks) e1 e2 okk (by omega) s rt ok
  | .dic t [] (_ :: _), X, W, m, F, x, h => by simp [mE] at h
  | .call d es, X, W, m, F, x, h => by
    cases x <;> simp only [mE] at h <;> first | (cases h; done) | skip
    rename_i f xs kws pos
    cases f <;> first | (cases h; done) | skip
    rename_i x p
    cases kws <;> first | (cases h; done) | skip
    simp only [Bool.and_eq_true, decide_eq_true_eq] at h
    obtain ⟨⟨⟨h1, h2⟩, h3⟩, h4⟩ := h
    obtain ⟨d1, d2⟩ := F.st.dn d x h3
    have U := (sEs es F xs h4).1
    refine Tri.of rfl ?_
    cases xs with
    | nil =>
      have : es = [] := by
        have := (allStar h4).2
        cases es with
        | nil => rfl
        | cons _ _ => simp at this
      subst this
      refine PE.imp (pe_calR0 (W := W) (F.st.fns d) (F.room.mono (by omega)) (F.glob h1) d1 d2 F.ps (not_odd h2).1) ?_
      rintro σ H Q ⟨w, τ, rfl, s, rt, ok⟩
      exact ⟨w, [], rfl, s, RelAs.nil, ok⟩
    | cons x xs =>
      have hs := (allStar h4).1
      have hs' : noStar x = true ∧ xs.all noStar = true := by simpa using hs
      refine PE.imp (pe_calR (W := W) (F.st.fns d) (F.room.mono (by omega)) (F.glob h1) d1 d2 F.ps U (not_odd h2).1 hs'.1 hs'.2) ?_
      intro σ H Q hh
      refine tA1L (f := fun xs τ S => cal d xs S) (r := fun vs H1 Q => spF X.K ad G (cal d) vs H1 Q (fun c d H' => W c d σ H')) hh fun w τ a v s rt ra hl ok => ?_
      exact ⟨w, a, rfl, s, ra, ok⟩
  | .kcall i es ws, X, W, m, F, x, h => by
    cases x <;> simp only [mE] at h <;> first | (cases h; done) | skip
    rename_i f xs kws pos
    cases f <;> first | (cases h; done) | skip
    rename_i x p
    cases kws <;> first | (cases h; done) | skip
    rename_i kw kws
    simp only [Bool.and_eq_true] at h
    obtain ⟨⟨⟨⟨h1, h2⟩, h3⟩, h4⟩, h5⟩ := h
    cases ek : G.kwc[i]? with
    | none => rw [ek] at h3; cases h3
    | some kc =>
      rw [ek] at h3
      simp only [Bool.and_eq_true, decide_eq_true_eq] at h3
      obtain ⟨h3, hn⟩ := h3
      obtain ⟨d1, d2⟩ := F.st.dn _ x h3
      obtain ⟨fd, ps, fo, kb⟩ := F.st.kwf i kc ek
      have U := (sEs es F xs h4).1
      have V := tKs (kws := kw :: kws) (sEs ws F ((kw :: kws).map (·.value)) h5).2.2
      refine Tri.of rfl ?_
      cases xs with
      | nil =>
        have : es = [] := by
          have := (allStar h4).2
          cases es with
          | nil => rfl
          | cons _ _ => simp at this
        subst this
        refine PE.imp (pe_kwR0 (W := W) fo kb (F.room.mono (by omega)) (F.glob h1) d1 d2 F.ps V hn (not_odd h2).1) ?_
        rintro σ H Q ⟨w, τ, rfl, s, rt, ok⟩
        have ok : okR X.K ad G Q (fun c d H' => W c d σ H') w ((dens G cal ws τ w.S).bind fun zs S2 => match G.kwc[i]? with | some kc => cal kc.d (kc.fill .non [] zs) S2 | none => .no) := ok
        rw [ek] at ok
        exact ⟨w, τ, rfl, s, rt, okA.bindR ok fun w1 b zs l s1 rb ok1 => ⟨w1, kc.fill .non [] b, rfl, s1, fill_rel RelAs.nil rb, ok1⟩⟩
      | cons x xs =>
        have hs := (allStar h4).1
        have hs' : noStar x = true ∧ xs.all noStar = true := by simpa using hs
        refine PE.imp (pe_kwR (W := W) fo kb (F.room.mono (by omega)) (F.glob h1) d1 d2 F.ps U V hn (not_odd h2).1 hs'.1 hs'.2) ?_
        rintro σ H Q ⟨w, τ, rfl, s, rt, ok⟩
        have ok : okR X.K ad G Q (fun c d H' => W c d σ H') w ((dens G cal es τ w.S).bind fun xs S1 => (dens G cal ws τ S1).bind fun zs S2 => match G.kwc[i]? with | some kc => cal kc.d (kc.fill .non xs zs) S2 | none => .no) := ok
        rw [ek] at ok
        refine ⟨w, τ, rfl, s, rt, okA.bindR ok fun w1 a vs l s1 ra ok1 => ?_⟩
        exact ⟨w1, τ, rfl, s1, rt.mono l.mo, okA.bindR ok1 fun w2 b zs l2 s2 rb ok2 => ⟨w2, kc.fill .non a b, rfl, s2, fill_rel (RelAs.mono l2.mo _ _ ra) rb, ok2⟩⟩
  | .bi b es, X, W, m, F, x, h => by
    cases x <;> simp only [mE] at h <;> first | (cases h; done) | skip
    rename_i f xs kws pos
    cases f <;> first | (cases h; done) | skip
    rename_i x p
    cases kws <;> first | (cases h; done) | skip
    simp only [Bool.and_eq_true, beq_iff_eq] at h
    obtain ⟨⟨⟨⟨rfl, h1⟩, h2⟩, h3⟩, h4⟩ := h
    cases xs with
    | nil => simp at h3
    | cons x xs =>
      have hs' : noStar x = true ∧ xs.all noStar = true := by simpa using (allStar h4).1
      refine Tri.of rfl (PE.imp (s_bi F h1 h2 (sEs es F _ h4).1 hs'.1 hs'.2) ?_)
      intro σ H Q hh
      refine tA1L (f := fun xs τ S => biO b xs S) (r := fun vs H1 Q => rBi X.K ad G b vs H1 Q) hh fun w τ a v s rt ra hl ok => ?_
      exact ⟨_, w, a, rfl, s, ra, ok⟩
  | .isi e t, X, W, m, F, x, h => by
    cases x <;> simp only [mE] at h <;> first | (cases h; done) | skip
    rename_i f xs kws pos
    cases f <;> first | (cases h; done) | skip
    rename_i f p
    rcases xs with _ | ⟨y, _ | ⟨z, _ | ⟨z', r⟩⟩⟩
    · cases h
    · cases h
    case cons.cons.cons => cases z <;> cases h
    cases z <;> first | (cases h; done) | skip
    rename_i z pz
    cases kws <;> first | (cases h; done) | skip
    simp only [Bool.and_eq_true, beq_iff_eq] at h
    obtain ⟨⟨⟨⟨⟨rfl, h1⟩, h2⟩, h3⟩, h4⟩, h5⟩ := h
    have hc : (∀ c, t = .own c → c < G.clss.length) ∧ PE X (.Name z pz) (tC (tyV ad.cls t)) := by
      cases t with
      | own c =>
        simp only at h5
        cases ec : G.clss[c]? with
        | none => rw [ec] at h5; cases h5
        | some ci =>
          rw [ec] at h5
          simp only [Bool.and_eq_true, beq_iff_eq] at h5
          obtain ⟨rfl, o⟩ := h5
          exact ⟨fun d e => by cases e; exact (List.getElem?_eq_some_iff.mp ec).1, pe_glob (F.glob h2) (F.st.cls c ci ec) rfl (not_odd o).1⟩
      | _ =>
        have e : z = tyNm _ := (beq_iff_eq.mp h5).symm
        subst e
        exact ⟨fun d e => (by cases e), pe_bltn (v := .ty (tyN _)) (F.glob h2) (F.st.blt _ (ty_odd _ rfl).2.2) (boot_ty _ rfl) rfl (ty_odd _ rfl).1 (ty_odd _ rfl).2.1⟩
    have pa : PA X [y, .Name z pz] (tCons (tE X.K ad G W (fun τ S => den G cal e τ S)) (tCons (tC (tyV ad.cls t)) tNil)) := pa_cons (sE e F y h3).pe (pa_cons hc.2 pa_nil rfl) (starEach_one h4 _ _)
    refine Tri.of rfl (PE.imp (pe_callB call_isi (F.glob h1) (F.st.blt _ (by decide +kernel)) PyProof.Rows.boot_isinstance pa (by decide +kernel) (by decide +kernel) (starEach_one h4 _ _) rfl) ?_)
    intro σ H Q hh
    refine tE1 (r := fun x H1 Q => rIsi X.K [x, tyV ad.cls t] H1 Q) hh fun w τ a v s rt ra ok => ?_
    obtain ⟨c, e1, ok⟩ := ok.of
    obtain ⟨kk, e2, rfl⟩ := Option.map_eq_some_iff.mp e1
    obtain ⟨tt, h6, h7⟩ := isi_rel s F.st.cf F.st.ow ra hc.1 e2
    exact ⟨v, tyV ad.cls t, tt, tyU ad.cls t, kk, rfl, tyV_cls t, h6, h7, ok.ret rfl s bl_rel⟩
  | .idx a b, X, W, m, F, x, h => by
    cases x <;> simp only [mE] at h <;> first | (cases h; done) | skip
    rename_i x y pos
    simp only [Bool.and_eq_true] at h
    obtain ⟨⟨h0, h1⟩, h2⟩ := h
    refine Tri.of rfl (PE.imp (pe_ix (ixr_idx (ad := ad) (unitsOk F)) (sE a F x h1).pe (sE b F y h2).pe (sub_plain h0)) ?_)
    intro σ H Q hh
    refine tE2 (f := fun a b τ S => R.of (idxO S a b) S) (r := rIdx X.K ad) hh fun w τ a b v u s rt ra rb ok => ?_
    obtain ⟨c, e1, ok⟩ := ok.of
    exact ⟨w, a, b, c, rfl, s, ra, rb, e1, fun v r => ok.ret rfl s r⟩
  | .tab y e, X, W, m, F, x, h => by
    cases x <;> simp only [mE] at h <;> first | (cases h; done) | skip
    rename_i b i pos
    cases b <;> first | (cases h; done) | skip
    rename_i z p
    simp only [Bool.and_eq_true, beq_iff_eq] at h
    obtain ⟨⟨⟨⟨⟨rfl, h1⟩, h2⟩, h3⟩, h4⟩, h5⟩ := h
    obtain ⟨kvs, ek⟩ := Option.isSome_iff_exists.mp h4
    obtain ⟨g1, g2⟩ := F.st.tab _ _ ek
    obtain ⟨es, n, D⟩ := g2.kd
    refine Tri.of rfl (PE.imp (pe_ix ix_kdict (pe_glob (v := .ref (ad.tb y)) (F.glob h1) g1 rfl (not_odd h2).1) (sE e F i h5).pe (sub_plain h3)) ?_)
    intro σ H Q hh
    refine tE1 (r := fun u H1 Q => rIxD X.K X.w (.ref (ad.tb y)) u H1 Q) (f := fun a τ S => match a with
      | .str z => R.of ((G.tabs.lookup y).bind fun kvs => kvs.lookup z) S
      | _ => .no) hh fun w τ a v s rt ra ok => ?_
    cases a <;> first | exact (ok : False).elim | skip
    rename_i z
    obtain ⟨c, e1, ok⟩ := ok.of
    rw [ek] at e1
    obtain ⟨u, v', h6, h7, h8⟩ := g2.at_ z c e1
    obtain ⟨rfl, _⟩ := relA_str ra
    exact ⟨ad.tb y, mkS z, v', rfl, rfl, ⟨es, n, u, D.at_, D.lit, h6, h7⟩, ok.ret rfl s (h8 w)⟩
  | .tabIn neg y e, X, W, m, F, x, h => by
    cases x <;> simp only [mE] at h <;> first | (cases h; done) | skip
    rename_i l ops ys pos
    split at h
    case h_2 => cases h
    rename_i l op z p p0 e0
    cases e0
    simp only [Bool.and_eq_true, beq_iff_eq, decide_eq_true_eq, Bool.not_eq_true'] at h
    obtain ⟨⟨⟨⟨⟨⟨rfl, h1⟩, h2⟩, h4⟩, rfl⟩, h3⟩, h5⟩ := h
    obtain ⟨kvs, ek⟩ := Option.isSome_iff_exists.mp h4
    obtain ⟨g1, g2⟩ := F.st.tab _ _ ek
    obtain ⟨es, n, D⟩ := g2.kd
    have h2 : (!odd y) = true := by rw [h2]; rfl
    have nm := pe_glob (X := X) (pos := p) (v := .ref (ad.tb y)) (F.glob h1) g1 rfl (not_odd h2).1
    have op : OpR X (compareOp (if neg then CmpOp.NotIn else CmpOp.In)) (fun x y' H Q => ∃ (z : Str) (r : Option Value), x = .str z ∧ y' = .ref (ad.tb y) ∧ PySem.W.nsIn X.K (ad.tb y) z = some r ∧ Q (.bl (neg != r.isSome)) H) := by
      cases neg with
      | false => simpa using op_in_kd D
      | true => simpa using op_notIn_kd D
    have key : ∀ (a : A) (w : Wd) (v : V) (Q : VK) (E : XK) (S : List O), w.S = S → RelS X.K ad.cls w → RelA X.K w a v → okR X.K ad G Q E w (match a with
      | .str z => R.of ((G.tabs.lookup y).map fun kvs => .bl (neg != (kvs.lookup z).isSome)) S
      | _ => .no) → ∃ (z : Str) (r : Option Value), v = .str z ∧ (V.ref (ad.tb y)) = .ref (ad.tb y) ∧ PySem.W.nsIn X.K (ad.tb y) z = some r ∧ Q (.bl (neg != r.isSome)) w.H := by
      intro a w v Q E S eS s ra ok
      cases a <;> first | exact (ok : False).elim | skip
      rename_i z
      obtain ⟨c, e1, ok⟩ := ok.of
      rw [ek] at e1
      have e1 : some (A.bl (neg != (kvs.lookup z).isSome)) = some c := e1
      cases e1
      obtain ⟨rfl, _⟩ := relA_str ra
      cases hz : kvs.lookup z with
      | none =>
        rw [hz] at ok
        exact ⟨mkS z, none, rfl, rfl, g2.no z hz, ok.ret eS s bl_rel⟩
      | some b =>
        rw [hz] at ok
        obtain ⟨u, v', h6, _, _⟩ := g2.at_ z b hz
        exact ⟨mkS z, some u, rfl, rfl, h6, ok.ret eS s bl_rel⟩
    have T := sE e F l h5
    refine ⟨PE.imp (pe_cmpR op T.pe nm h3) ?_, PT.imp (pt_cmpR op T.pe nm h3) ?_, fun z => by cases z⟩
    · intro σ H Q hh
      exact tE1 (r := fun u H1 Q => ∃ (z : Str) (r : Option Value), u = .str z ∧ (V.ref (ad.tb y)) = .ref (ad.tb y) ∧ PySem.W.nsIn X.K (ad.tb y) z = some r ∧ Q (.bl (neg != r.isSome)) H1) (f := fun a τ S => match a with
        | .str z => R.of ((G.tabs.lookup y).map fun kvs => .bl (neg != (kvs.lookup z).isSome)) S
        | _ => .no) hh fun w τ a v s rt ra ok => key a w v Q _ w.S rfl s ra ok
    · intro σ H Q hh
      refine tE1 (G := G) (W := W) (Q := fun x H' => ∃ k, x = .bl k ∧ Q k H') (r := fun u H1 Q => ∃ (z : Str) (r : Option Value), u = .str z ∧ (V.ref (ad.tb y)) = .ref (ad.tb y) ∧ PySem.W.nsIn X.K (ad.tb y) z = some r ∧ Q (.bl (neg != r.isSome)) H1) (f := fun a τ S => match a with
        | .str z => R.of ((G.tabs.lookup y).map fun kvs => .bl (neg != (kvs.lookup z).isSome)) S
        | _ => .no) (tst_bl (mm := fun τ S => den G cal (.tabIn neg y e) τ S) (fun τ S x S' hx => ?_) hh) fun w τ a v s rt ra ok => key a w v _ _ w.S rfl s ra ok
      obtain ⟨a, S1, _, hx⟩ := bind_ok (show ((den G cal e τ S).bind _) = .ok x S' from hx)
      cases a <;> first | (cases hx; done) | skip
      rename_i z
      simp only [ek, Option.map_some, R.of_some] at hx
      cases hx
      exact ⟨_, rfl⟩
  | .dc ke ve t ik src ifs own, X, W, m, F, x, h => by
    cases x <;> simp only [mE] at h <;> first | (cases h; done) | skip
    rename_i ke' ve' gens scope pos
    rcases gens with _ | ⟨⟨tg, iter, ifs', asy⟩, _ | ⟨g2, r⟩⟩ <;> first | (cases h; done) | skip
    simp only [Bool.and_eq_true, beq_iff_eq, decide_eq_true_eq, List.all_eq_true, List.contains_iff_mem] at h
    obtain ⟨⟨⟨⟨⟨⟨⟨⟨⟨rfl, h1⟩, h2⟩, h3⟩, h4⟩, h4'⟩, h5⟩, h6⟩, h7⟩, h8⟩ := h
    cases ha : srcArgs m ik tg iter with
    | none => rw [ha] at h2; cases h2
    | some args =>
      rw [ha] at h2
      simp only [Bool.and_eq_true] at h2
      have U := sEs src F args h2.2
      have L := lcParts F h1 ha h2.1 h2.2 ⟨U.1, U.2.1⟩ h3 h5 h6 h7 (fun s H C cl fp => let z := sEs ifs (F.blk s H scope cl C fp) ifs' h6; ⟨z.1, z.2.1⟩) (fun s H C cl fp => (sE ke (F.blk s H scope cl C fp) ke' h4).pe)
      exact Tri.of rfl (PE.imp (pe_dc F.calm F.nd L.pi L.ok L.pg L.pt L.pe (fun s H C cl fp => (sE ve (F.blk s H scope cl C fp) ve' h4').pe) (fun x => set_plain h1 X.env x)) fun σ H Q hh => s_dc h8 hh)
  | .lc fl elt t ik src ifs own, X, W, m, F, x, h => by
    cases x <;> simp only [mE] at h <;> first | (cases h; done) | skip
    rename_i elt' gens scope pos
    rcases gens with _ | ⟨⟨tg, iter, ifs', asy⟩, _ | ⟨g2, r⟩⟩ <;> first | (cases h; done) | skip
    simp only [Bool.and_eq_true, beq_iff_eq, decide_eq_true_eq, List.all_eq_true, List.contains_iff_mem] at h
    obtain ⟨⟨⟨⟨⟨⟨⟨⟨rfl, h1⟩, h2⟩, h3⟩, h4⟩, h5⟩, h6⟩, h7⟩, h8⟩ := h
    cases ha : srcArgs m ik tg iter with
    | none => rw [ha] at h2; cases h2
    | some args =>
      rw [ha] at h2
      simp only [Bool.and_eq_true] at h2
      have U := sEs src F args h2.2
      have L := lcParts F h1 ha h2.1 h2.2 ⟨U.1, U.2.1⟩ h3 h5 h6 h7 (fun s H C cl fp => let z := sEs ifs (F.blk s H scope cl C fp) ifs' h6; ⟨z.1, z.2.1⟩) (fun s H C cl fp => (sE elt (F.blk s H scope cl C fp) elt' h4).pe)
      exact Tri.of rfl (PE.imp (pe_lc F.calm F.nd L.pi L.ok L.pg L.pt L.pe (fun x => set_plain h1 X.env x)) fun σ H Q hh => s_lc h8 hh)
  | .mk c es, X, W, m, F, x, h => by
    cases x <;> simp only [mE] at h <;> first | (cases h; done) | skip
    rename_i f xs kws pos
    cases f <;> first | (cases h; done) | skip
    rename_i x p
    cases kws <;> first | (cases h; done) | skip
    simp only [Bool.and_eq_true] at h
    obtain ⟨⟨⟨h1, h2⟩, h3⟩, h4⟩ := h
    cases ec : G.clss[c]? with
    | none => rw [ec] at h3; cases h3
    | some ci =>
      rw [ec] at h3
      have h3 : ci.name = x ∧ ci.init.isSome = true := by simpa using h3
      obtain ⟨h3, h6⟩ := h3
      subst h3
      have hm := F.st.cls c ci ec
      have M := F.st.mem c ci ec
      have U := (sEs es F xs h4).1
      cases ei : ci.init with
      | none => rw [ei] at h6; cases h6
      | some d =>
        refine Tri.of rfl ?_
        cases xs with
        | nil =>
          have : es = [] := by
            have := (allStar h4).2
            cases es with
            | nil => rfl
            | cons _ _ => simp at this
          subst this
          refine PE.imp (pe_mkR0 (W := W) (M.init d ei) (F.st.fns d) (F.room.mono (by omega)) (F.glob h1) hm F.ps (not_odd h2).1) ?_
          rintro σ H Q ⟨w, τ, rfl, s, rt, ok⟩
          exact mk_ok ec ei s RelAs.nil ok
        | cons x xs =>
          have hs' : noStar x = true ∧ xs.all noStar = true := by simpa using (allStar h4).1
          refine PE.imp (pe_mkR (W := W) (M.init d ei) (F.st.fns d) (F.room.mono (by omega)) (F.glob h1) hm F.ps U (not_odd h2).1 hs'.1 hs'.2) ?_
          intro σ H Q hh
          exact tA1L (r := fun vs H1 Q => ∀ x dx, H1 x = none → H1 dx = none → dx ≠ x → spF X.K ad G (cal d) (.ref x :: vs) (upd (upd H1 dx (.own x)) x (.ins (ad.cls c) dx [])) (fun v H2 => v = .non ∧ Q (.ref x) H2) (fun c d H' => W c d σ H')) (f := fun xs τ S => match G.cls c with
            | some ⟨_, some d, _, _⟩ => (cal d (.ref S.length :: xs) (S ++ [.ins c []])).bind fun v S2 => match v with
              | .non => .ok (.ref S.length) S2
              | _ => .no
            | _ => .no) hh fun w τ a v s rt ra hl ok => mk_ok ec ei s ra ok
  | .mth mn o es, X, W, m, F, x, h => by
    cases x <;> simp only [mE] at h <;> first | (cases h; done) | skip
    rename_i f xs kws pos
    cases f <;> first | (cases h; done) | skip
    rename_i x f apos
    cases kws <;> first | (cases h; done) | skip
    simp only [Bool.and_eq_true, beq_iff_eq, decide_eq_true_eq] at h
    obtain ⟨⟨⟨⟨⟨rfl, h1⟩, h2⟩, h3⟩, h4⟩, h5⟩ := h
    have h2' : (apos.endLine == pos.line) = true := by rw [beq_iff_eq]; exact h2
    have T := sE o F x h4
    have U := (sEs es F xs h5).1
    obtain ⟨hs, hl⟩ := allStar h5
    refine Tri.of rfl ?_
    cases xs with
    | nil =>
      have : es = [] := by
        cases es with
        | nil => rfl
        | cons _ _ => simp at hl
      subst this
      refine PE.imp (pe_mthR0 (W := W) (CX := L2.CX X.prog X.w) (j := 4 * k) (m := mn) T.pe (F.room.mono (by omega)) F.ps h1 h2') ?_
      rintro σ H Q ⟨w, τ, rfl, s, rt, ok⟩
      refine ⟨w, τ, rfl, s, rt, okR.bindR ok fun w1 a v l1 s1 ra ok1 => ?_⟩
      refine mth_ok F s1 ok1 ra fun n d e1 e2 ok2 => ?_
      subst e1
      exact ⟨w1, [.ref n], rfl, s1, RelAs.cons ra RelAs.nil, ok2⟩
    | cons x' xs =>
      refine PE.imp (pe_mthR (W := W) (CX := L2.CX X.prog X.w) (j := 4 * k) (m := mn) T.pe U (F.room.mono (by omega)) F.ps h1 hs h3 h2') ?_
      rintro σ H Q ⟨w, τ, rfl, s, rt, ok⟩
      refine ⟨w, τ, rfl, s, rt, okR.bindR ok fun w1 a v l1 s1 ra ok1 => ?_⟩
      refine mth_ok F s1 ok1 ra fun n d e1 e2 ok2 => ?_
      subst e1
      refine ⟨w1, τ, rfl, s1, rt.mono l1.mo, okA.bindR ok2 fun w2 as vs l2 s2 ras ok3 => ?_⟩
      exact ⟨w2, .ref n :: as, rfl, s2, RelAs.cons (ra.mono l2.mo) ras, ok3⟩
  | .fld o f, X, W, m, F, x, h => by
    cases x <;> simp only [mE] at h <;> first | (cases h; done) | skip
    rename_i x g pos
    simp only [Bool.and_eq_true, beq_iff_eq] at h
    obtain ⟨⟨rfl, h1⟩, h2⟩ := h
    refine Tri.of rfl (PE.imp (pe_fld (sE o F x h2).pe (base_plain h1 _ _ _)) ?_)
    rintro σ H Q ⟨w, τ, rfl, s, rt, ok⟩
    refine ⟨w, τ, rfl, s, rt, okR.bindR ok fun w1 a v l1 s1 ra ok1 => ?_⟩
    exact fld_ok F s1 ok1 ra
  | .bm b o es, X, W, m, F, x, h => by
    cases x <;> simp only [mE] at h <;> first | (cases h; done) | skip
    rename_i f xs kws pos
    cases f <;> first | (cases h; done) | skip
    rename_i x f apos
    cases kws <;> first | (cases h; done) | skip
    simp only [Bool.and_eq_true, beq_iff_eq, decide_eq_true_eq] at h
    obtain ⟨⟨⟨⟨⟨rfl, h1⟩, h2⟩, h3⟩, h4⟩, h5⟩ := h
    have T := sE o F x h4
    have U := (sEs es F xs h5).1
    obtain ⟨hs, hl⟩ := allStar h5
    have h2' : (apos.endLine == pos.line) = true := by rw [beq_iff_eq]; exact h2
    cases xs with
    | nil =>
      have : es = [] := by
        cases es with
        | nil => rfl
        | cons _ _ => simp at hl
      subst this
      refine Tri.of rfl (PE.imp (s_bm0 F T.pe h1 h2') ?_)
      rintro σ H Q ⟨w, τ, rfl, s, rt, ok⟩
      refine ⟨w, τ, rfl, s, rt, okR.bindR ok fun w1 a v l1 s1 ra ok1 => ?_⟩
      split at ok1
      case isFalse => exact ok1.elim
      rename_i hf
      exact ⟨bm_ty s1 ra hf, _, w1, a, [], rfl, s1, ra, RelAs.nil, ok1⟩
    | cons x' xs =>
      refine Tri.of rfl (PE.imp (s_bm F T.pe U h1 h2' h3 hs) ?_)
      rintro σ H Q ⟨w, τ, rfl, s, rt, ok⟩
      refine ⟨w, τ, rfl, s, rt, okR.bindR ok fun w1 a v l1 s1 ra ok1 => ?_⟩
      split at ok1
      case isFalse => exact ok1.elim
      rename_i hf
      refine ⟨bm_ty s1 ra hf, w1, τ, rfl, s1, rt.mono l1.mo, okA.bindR ok1 fun w2 as vs l2 s2 ras ok2 => ?_⟩
      exact ⟨_, w2, a, as, rfl, s2, ra.mono l2.mo, ras, ok2⟩
  | .sl fl a lo hi, X, W, m, F, x, h => by
    cases x <;> simp only [mE] at h <;> first | (cases h; done) | skip
    rename_i x y pos
    cases y <;> first | (cases h; done) | skip
    rename_i lo' hi' st p2
    cases st <;> first | (cases h; done) | skip
    simp only [Bool.and_eq_true] at h
    obtain ⟨⟨h1, h2⟩, h3⟩ := h
    have T := sE a F x h1
    have part : ∀ (es : List Lt.E) (e' : Option Expr), (match e' with | none => es.isEmpty | some y => mEs G m es [y]) = true → (∀ y, e' = some y → PA X [y] (tL X.K ad G W (fun τ S => dens G cal es τ S)) ∧ (∀ x, [y] = [x] → ∃ e, es = [e] ∧ PE X x (tE X.K ad G W (fun τ S => den G cal e τ S)) ∧ PT X x (tT X.K ad G W (fun τ S => tst G cal e τ S)))) → ∃ t, PO X e' t ∧ Prt X.K ad G W cal es t := by
      intro es e' h hu
      cases e' with
      | none =>
        have : es = [] := by simpa using h
        subst this
        exact ⟨_, po_none, .inl ⟨rfl, rfl⟩⟩
      | some y =>
        obtain ⟨e, rfl, pe, _⟩ := (hu y rfl).2 y rfl
        exact ⟨_, po_some pe, .inr ⟨e, rfl, rfl⟩⟩
    obtain ⟨t1, p1, q1⟩ := part lo lo' h2 (fun y hy => by subst hy; exact (let z := sEs lo F [y] h2; ⟨z.1, z.2.1⟩))
    obtain ⟨t2, p2, q2⟩ := part hi hi' h3 (fun y hy => by subst hy; exact (let z := sEs hi F [y] h3; ⟨z.1, z.2.1⟩))
    refine Tri.of rfl (PE.imp (pe_slice (slr_o (ad := ad) (G := G) fl) T.pe p1 p2) ?_)
    rintro σ H Q ⟨w, τ, rfl, s, rt, ok⟩
    refine ⟨w, τ, rfl, s, rt, okR.bindR ok fun w1 x v l1 s1 ra ok1 => ?_⟩
    refine q1.run s1 (rt.mono l1.mo) ok1 fun w2 o l2 s2 ok2 => ?_
    refine q2.run s2 ((rt.mono l1.mo).mono l2.mo) ok2 fun w3 o' l3 s3 ok3 => ?_
    exact ⟨_, w3, x, rfl, s3, (ra.mono l2.mo).mono l3.mo, ok3⟩
theorem sEs : ∀ (es : List Lt.E) {X : Cx} {W : WX} {m : MC} (F : Fx X ad G W k cal m) (xs : List Expr), mEs G m es xs = true →
    PA X xs (tL X.K ad G W (fun τ S => dens G cal es τ S)) ∧ (∀ x, xs = [x] → ∃ e, es = [e] ∧ PE X x (tE X.K ad G W (fun τ S => den G cal e τ S)) ∧ PT X x (tT X.K ad G W (fun τ S => tst G cal e τ S))) ∧
    Paired (fun e x => PE X x (tE X.K ad G W (fun τ S => den G cal e τ S))) es xs
  | [], X, W, m, F, xs, h => by
    cases xs with
    | cons x xs => simp [mEs] at h
    | nil =>
      refine ⟨PA.imp pa_nil ?_, fun x z => (by cases z), .nil⟩
      rintro σ H Q ⟨w, τ, rfl, s, rt, ok⟩
      exact ok w [] rfl (Le.refl w) s RelAs.nil
  | e :: es, X, W, m, F, xs, h => by
    cases xs with
    | nil => simp [mEs] at h
    | cons x xs =>
      have h' : (noStar x = true ∧ mE G m e x = true) ∧ mEs G m es xs = true := by simpa [mEs] using h
      have T := sE e F x h'.1.2
      have U := sEs es F xs h'.2
      refine ⟨PA.imp (pa_cons T.pe U.1 (starEach_one h'.1.1 _ _)) ?_, fun z hz => ?_, .cons T.pe U.2.2⟩
      · rintro σ H Q ⟨w, τ, rfl, s, rt, ok⟩
        refine ⟨w, τ, rfl, s, rt, okR.bindA ok fun w1 a v l s1 ra ok1 => ?_⟩
        refine ⟨w1, τ, rfl, s1, rt.mono l.mo, okA.bindA ok1 fun w2 b u l2 s2 rb ok2 => ?_⟩
        exact ok2 w2 (v :: u) rfl (Le.refl w2) s2 (RelAs.cons (ra.mono l2.mo) rb)
      · cases hz
        have : es = [] := by
          have := (allStar h).2
          cases es with
          | nil => rfl
          | cons _ _ => simp at this
        subst this
        exact ⟨e, rfl, T.pe, T.pt⟩
end
end
end Lt
/-! statements -/
namespace Lt
open PySem L2
section
variable (K : PySem.W.Frag) (ad : Ad) (G : Gt) (W : WX)
def okS_ (D : Ends) (w : Wd) : SR → Prop
  | .nx τ S => ∀ w' σ', w'.S = S → Le w w' → RelS K ad.cls w' → RelT K w' τ σ' → D.nx σ' w'.H
  | .bk τ S => ∀ w' σ', w'.S = S → Le w w' → RelS K ad.cls w' → RelT K w' τ σ' → D.bk σ' w'.H
  | .ct τ S => ∀ w' σ', w'.S = S → Le w w' → RelS K ad.cls w' → RelT K w' τ σ' → D.ct σ' w'.H
  | .rt a S => ∀ w' v, w'.S = S → Le w w' → RelS K ad.cls w' → RelA K w' a v → D.rt v w'.H
  | .ex c fs τ S => ∀ w' σ' cv d, w'.S = S → Le w w' → RelS K ad.cls w' → RelT K w' τ σ' → ExR K ad G w' c fs cv d → W cv d σ' w'.H
  | .no => False
def tS (m : Tau → List O → SR) : TS := fun D σ H => ∃ w τ, w.H = H ∧ RelS K ad.cls w ∧ RelT K w τ σ ∧ okS_ K ad G W D w (m τ w.S)
end
section
variable {K : PySem.W.Frag} {ad : Ad} {G : Gt} {W : WX} {D : Ends} {w w' : Wd} {σ : L2.St} {τ : Tau}
theorem okS_.at {r : SR} (h : okS_ K ad G W D w r) (le : Le w w') : okS_ K ad G W D w' r := by
  cases r with
  | nx τ S => exact fun u σ e l s q => h u σ e (le.trans l) s q
  | bk τ S => exact fun u σ e l s q => h u σ e (le.trans l) s q
  | ct τ S => exact fun u σ e l s q => h u σ e (le.trans l) s q
  | rt a S => exact fun u v e l s q => h u v e (le.trans l) s q
  | ex c fs τ S => exact fun u σ cv d e l s q x => h u σ cv d e (le.trans l) s q x
  | no => exact h
theorem okR.go {r : R A} {f : A → List O → SR} {Q : VK} (rt : RelT K w τ σ) (h : okS_ K ad G W D w (r.go τ f))
    (k : ∀ w' a v, Le w w' → RelS K ad.cls w' → RelA K w' a v → okS_ K ad G W D w' (f a w'.S) → Q v w'.H) : okR K ad G Q (fun c d H' => W c d σ H') w r := by
  cases r with
  | ok a S =>
    intro w' v e l s ra
    have h : okS_ K ad G W D w (f a S) := h
    exact k w' a v l s ra (by rw [e]; exact h.at l)
  | ex c fs S => exact fun w' cv d e l s x => h w' σ cv d e l s (rt.mono l.mo) x
  | no => exact h.elim
theorem okB.go {r : R Bool} {f : Bool → List O → SR} {Q : Bool → Hp → Prop} (rt : RelT K w τ σ) (h : okS_ K ad G W D w (r.go τ f))
    (k : ∀ w' a, Le w w' → RelS K ad.cls w' → okS_ K ad G W D w' (f a w'.S) → Q a w'.H) : okB K ad G Q (fun c d H' => W c d σ H') w r := by
  cases r with
  | ok a S =>
    intro w' e l s
    have h : okS_ K ad G W D w (f a S) := h
    exact k w' a l s (by rw [e]; exact h.at l)
  | ex c fs S => exact fun w' cv d e l s x => h w' σ cv d e l s (rt.mono l.mo) x
  | no => exact h.elim
theorem okI.go {r : R (List A × Gd)} {f : List A × Gd → List O → SR} {Q : It → Hp → Prop} (rt : RelT K w τ σ) (h : okS_ K ad G W D w (r.go τ f))
    (k : ∀ w' a J, Le w w' → RelS K ad.cls w' → Itm K ad J w' a.1 a.2 → okS_ K ad G W D w' (f a w'.S) → Q J w'.H) : okI K ad G Q (fun c d H' => W c d σ H') w r := by
  cases r with
  | ok a S =>
    intro w' J e l s i
    have h : okS_ K ad G W D w (f a S) := h
    exact k w' a J l s i (by rw [e]; exact h.at l)
  | ex c fs S => exact fun w' cv d e l s x => h w' σ cv d e l s (rt.mono l.mo) x
  | no => exact h.elim
end
/-- a def's body's context -/
structure Bx (X : Cx) (ad : Ad) (G : Gt) (W : WX) (k : Nat) (cal : Cal) (m : MC) : Prop extends Fx X ad G W k cal m where
  own : PassesOwn (model X.prog X.w) X.A X.env X.xe
  kind : X.env.scope.kind = .function
section
variable {X : Cx} {ad : Ad} {G : Gt} {W : WX} {k : Nat} {cal : Cal} {m : MC}
theorem sw_false {e : Expr} {t : Option Expr} {l : Nat} (h : noComp e = true) : swapsWith e t l X.env = pure false := swaps_plain h t l X.env
theorem sole_false {e t : Expr} {l : Nat} (h : noComp e = true) : swapsWithSole [t] e l X.env = pure false := by
  have e1 : swapsWithSole [t] e l X.env = swapsWith e (some t) l X.env := by simp only [swapsWithSole]
  rw [e1]; exact sw_false h
/-- a list item stored -/
def rSetO (K : PySem.W.Frag) (ad : Ad) : TSet := fun o i v H Q => ∃ w a b c S', w.H = H ∧ RelS K ad.cls w ∧ RelA K w a o ∧ RelA K w b i ∧ RelA K w c v ∧ setO a b c w.S = some S' ∧ ∀ w', w'.S = S' → Le w w' → RelS K ad.cls w' → Q w'.H
theorem pset_o (hu : X.A.units + 66 < cLine) : PSet X (rSetO X.K ad) := by
  intro pins s σ H o i v ov iv u Q I ro ri rv h
  obtain ⟨w, a, b, c, S', rfl, hs, ra, rb, rc, e, q⟩ := h
  unfold setO at e
  split at e
  · rename_i n
    obtain ⟨p, e1, rfl⟩ := relA_ref ra
    split at e
    · rename_i xs hS
      split at e
      · rename_i j
        cases relA_int rb
        split at e
        · rename_i kk hk
          cases e
          obtain ⟨vs, hH, rs⟩ := hs.obj n p _ e1 hS
          refine set_list pins s σ _ _ _ _ _ _ _ Q I ro ri rv ⟨p, vs, j, kk, rfl, rfl, hH, by rw [← rs.length]; exact hk, ?_⟩
          have le := Le.put (o' := .lst (xs.set kk c)) (h := .lst (vs.set kk v)) hs e1 hS (by intro z; cases z)
          exact q _ rfl le (hs.put e1 hS (by intro z; cases z) ⟨_, upd_same, (RelAs.set rc kk rs).mono le.mo⟩)
        · cases e
      · cases e
    · rename_i t kvs hS
      split at e
      · rename_i hk
        cases e
        have nd : (O.dic t kvs) ≠ .dead := by intro z; cases z
        have hz : (1000000 : Nat) ≤ sizeLine := by decide
        cases t with
        | false =>
          obtain ⟨ws, hH, rs⟩ := hs.obj n p _ e1 hS
          obtain ⟨kk, hkk⟩ := Option.isSome_iff_exists.mp (show (keyOf b).isSome = true from hk.1)
          have eu := keyOf_kV rb hkk
          subst eu
          have hlen := rs.length
          have le := Le.put (o' := .dic false (putO kvs b c)) (h := .dK (putK ws kk v)) hs e1 hS nd
          refine set_dict (by omega) pins s σ _ _ _ _ _ _ _ Q I ro ri rv ⟨p, _, rfl, DPut.k hH (by omega), ?_⟩
          exact q _ rfl le (hs.put e1 hS nd ⟨_, upd_same, Paired.mapP (putO_put (f := keyOf) (fun h1 h2 => eqv_key h1 h2) hkk (okKey_of rb) rc rs) fun _ _ z => ⟨z.1, z.2.1, z.2.2.mono le.mo⟩⟩)
        | true =>
          obtain ⟨ws, hH, rs⟩ := hs.obj n p _ e1 hS
          obtain ⟨kk, hkk⟩ := Option.isSome_iff_exists.mp (show (tkeyOf b).isSome = true from hk.1)
          have okb := okKey_of rb
          cases b <;> simp only [tkeyOf] at hkk <;> first | (cases hkk; done) | skip
          rename_i xs
          obtain ⟨bb, vs, rfl, hb, rts⟩ := relA_tup rb
          have ev := keysOf_kV rts hkk
          have hbt := hb.1
          rw [ev] at hbt
          have hkk' : tkeyOf (.tup xs) = some kk := hkk
          have hlen := rs.length
          have le := Le.put (o' := .dic true (putO kvs (.tup xs) c)) (h := .dT (putK ws kk v)) hs e1 hS nd
          refine set_dict (by omega) pins s σ _ _ _ _ _ _ _ Q I ro ri rv ⟨p, _, rfl, DPut.t hH hbt (by omega), ?_⟩
          exact q _ rfl le (hs.put e1 hS nd ⟨_, upd_same, Paired.mapP (putO_put (f := tkeyOf) (fun h1 h2 => eqv_tkey h1 h2) hkk' okb rc rs) fun _ _ z => ⟨z.1, z.2.1, z.2.2.mono le.mo⟩⟩)
      · cases e
    · cases e
  · cases e

theorem assign_sub {o i : Expr} {pos : Pos} (h : plainSub i = true) (env : Env) (v : Value) : assign (.Subscript o i pos) env v = (do
      let ov ← holding [v] (eval o env)
      let iv ← holding [v, ov] (eval i env)
      standAt pos
      holding [v, ov, iv] (setItem ov iv v)
      release [v, ov, iv] []) := by
  cases i <;> first | rfl | skip
  rename_i l u s p
  cases s <;> first | rfl | cases h
theorem stores_tup {es : List Expr} {kk : Nat} {p : Pos} {v : Expr} (h : notDisp v = true) (env : Env) : swappedStores [.Tuple es kk p] v env = pure none := by
  cases v <;> first | rfl | cases h
theorem stores_sub {o i : Expr} {p : Pos} (v : Expr) (env : Env) : swappedStores [.Subscript o i p] v env = pure none := by
  cases v <;> rfl
theorem sw_comp (B : Bx X ad G W k cal m) {v : Expr} {x : Str} {p : Pos} {l : Nat} (h : swB m x p.line v = true) : swapsWith v (some (.Name x p)) l X.env = pure true := by
  cases v <;> first | (cases h; done) | skip
  rename_i elt gs scope pos
  simp only [swB, Bool.and_eq_true, beq_iff_eq] at h
  obtain ⟨⟨h1, h2⟩, h3⟩ := h
  refine sw_true B.kind ?_ (by simpa using h2) (by simpa using h3)
  rw [B.sc]
  split at h1
  · assumption
  · cases h1
/-- the loop -/
theorem s_for {K : PySem.W.Frag} {kk : IK} {src : List Lt.E} {t : T} {b : List Sm} {D : Ends} {σ : L2.St} {H : Hp} (h : tS K ad G W (fun τ S => denS G cal (.forr t kk src b) τ S) D σ H) :
    tFor (tI K ad G W (fun τ S => iD G cal kk src τ S)) (gT K ad t) (tS K ad G W (fun τ S => denSs G cal b τ S)) D σ H := by
  obtain ⟨w, τ, e, s, rt, h⟩ := h
  have h : okS_ K ad G W D w ((iD G cal kk src τ w.S).go τ fun xg S1 => forD xg.2 (fun a τ => T.asg t a τ) (fun τ S => denSs G cal b τ S) xg.1 τ S1) := by
    have h : okS_ K ad G W D w ((dens G cal src τ w.S).go τ fun vs S1 => match srcO kk vs S1 with
      | none => .no
      | some (xs, g) => forD g (fun a τ => T.asg t a τ) (fun τ S => denSs G cal b τ S) xs τ S1) := h
    unfold iD
    cases hd : dens G cal src τ w.S with
    | ok vs S1 =>
      rw [hd] at h
      simp only [R.go_ok, R.bind_ok] at h ⊢
      cases hs : srcO kk vs S1 with
      | none => rw [hs] at h; exact h.elim
      | some xg => rw [hs] at h; exact h
    | ex c fs S1 => rw [hd] at h; exact h
    | no => rw [hd] at h; exact h.elim
  refine ⟨w, τ, e, s, rt, okI.go rt h ?_⟩
  rintro w1 ⟨xs, g⟩ J l1 s1 itm h
  refine ⟨fun i n σ H => ∃ wc τ, wc.H = H ∧ RelS K ad.cls wc ∧ Mo w1 wc ∧ RelT K wc τ σ ∧ n = xs.length - i ∧ i ≤ xs.length ∧ okS_ K ad G W D wc (forD g (fun a τ => T.asg t a τ) (fun τ S => denSs G cal b τ S) (xs.drop i) τ wc.S),
    ⟨xs.length, w1, τ, rfl, s1, Mo.refl w1, rt.mono l1.mo, by simp, Nat.zero_le _, h⟩, ?_⟩
  rintro i n σ H2 ⟨wc, τ, rfl, sc, mo, rtc, rfl, hi, hr⟩
  by_cases hlt : i < xs.length
  · right
    have hdrop : xs.drop i = xs[i] :: xs.drop (i + 1) := List.drop_eq_getElem_cons hlt
    rw [hdrop] at hr
    have gk : g.ok wc.S := by
      by_cases gk : g.ok wc.S
      · exact gk
      · simp only [forD, if_neg gk] at hr
        exact hr.elim
    simp only [forD, if_pos gk] at hr
    obtain ⟨go, yl⟩ := (itm wc mo sc gk i).2 xs[i] (List.getElem?_eq_getElem hlt)
    refine ⟨go, fun σ' H' => ∃ wc τ, wc.H = H' ∧ RelS K ad.cls wc ∧ Mo w1 wc ∧ RelT K wc τ σ' ∧ okS_ K ad G W D wc (forD g (fun a τ => T.asg t a τ) (fun τ S => denSs G cal b τ S) (xs.drop (i + 1)) τ wc.S), ?_, ?_⟩
    · rintro σ' H' ⟨wd, τ', e1, e2, e3, e4, e5⟩
      exact ⟨xs.length - (i + 1), by omega, wd, τ', e1, e2, e3, e4, rfl, hlt, e5⟩
    · intro x H' hy
      obtain ⟨w2, e2, eS2, l2, s2, r2⟩ := yl x H' hy
      cases ea : T.asg t xs[i] τ with
      | none => rw [ea] at hr; exact hr.elim
      | some τ1 =>
        rw [ea] at hr
        refine ⟨w2, τ, xs[i], τ1, e2, s2, rtc.mono l2.mo, r2, ea, fun w3 σ3 eS3 l3 s3 rt3 _ => ⟨w3, τ1, rfl, s3, rt3, ?_⟩⟩
        show okS_ K ad G W _ w3 (denSs G cal b τ1 w3.S)
        rw [eS3, eS2]
        have l13 : Le wc w3 := l2.trans l3
        have hr : okS_ K ad G W D wc (match denSs G cal b τ1 wc.S with
          | .nx τ2 S2 => forD g (fun a τ => T.asg t a τ) (fun τ S => denSs G cal b τ S) (xs.drop (i + 1)) τ2 S2
          | .ct τ2 S2 => forD g (fun a τ => T.asg t a τ) (fun τ S => denSs G cal b τ S) (xs.drop (i + 1)) τ2 S2
          | .bk τ2 S2 => .nx τ2 S2
          | r => r) := hr
        cases hb : denSs G cal b τ1 wc.S with
        | nx τ2 S2 =>
          rw [hb] at hr
          intro w4 σ4 e4 l4 s4 rt4
          exact ⟨w4, τ2, rfl, s4, mo.trans (l13.mo.trans l4.mo), rt4, by rw [e4]; exact hr.at (l13.trans l4)⟩
        | ct τ2 S2 =>
          rw [hb] at hr
          intro w4 σ4 e4 l4 s4 rt4
          exact ⟨w4, τ2, rfl, s4, mo.trans (l13.mo.trans l4.mo), rt4, by rw [e4]; exact hr.at (l13.trans l4)⟩
        | bk τ2 S2 => rw [hb] at hr; exact hr.at l13
        | rt a S2 => rw [hb] at hr; exact hr.at l13
        | ex c fs τ2 S2 => rw [hb] at hr; exact hr.at l13
        | no => rw [hb] at hr; exact hr.elim
  · left
    have e : i = xs.length := by omega
    subst e
    rw [List.drop_length] at hr
    have gk : g.ok wc.S := by
      by_cases gk : g.ok wc.S
      · exact gk
      · simp only [forD, if_neg gk] at hr
        exact hr.elim
    simp only [forD, if_pos gk] at hr
    exact ⟨(itm wc mo sc gk xs.length).1 rfl, hr wc σ rfl (Le.refl wc) sc rtc⟩
theorem s_whl {K : PySem.W.Frag} {n : Nat} {c : Lt.E} {b : List Sm} {D : Ends} {σ : L2.St} {H : Hp} (h : tS K ad G W (fun τ S => denS G cal (.whl n c b) τ S) D σ H) :
    tWhile (tT K ad G W (fun τ S => tst G cal c τ S)) (tS K ad G W (fun τ S => denSs G cal b τ S)) D σ H := by
  obtain ⟨w, τ, rfl, s, rt, h⟩ := h
  refine ⟨fun n σ H => ∃ wc τ, wc.H = H ∧ RelS K ad.cls wc ∧ RelT K wc τ σ ∧ okS_ K ad G W D wc (whlD (fun τ S => tst G cal c τ S) (fun τ S => denSs G cal b τ S) n τ wc.S), ⟨n, w, τ, rfl, s, rt, h⟩, ?_⟩
  rintro n σ H2 ⟨wc, τ, rfl, sc, rtc, hr⟩
  cases n with
  | zero => exact hr.elim
  | succ n =>
    refine ⟨wc, τ, rfl, sc, rtc, okB.go rtc hr fun w1 kk l1 s1 hr => ?_⟩
    cases kk with
    | false =>
      rw [if_neg (by decide)] at hr ⊢
      exact hr w1 σ rfl (Le.refl w1) s1 (rtc.mono l1.mo)
    | true =>
      rw [if_pos rfl] at hr ⊢
      refine ⟨fun σ' H' => ∃ wc τ, wc.H = H' ∧ RelS K ad.cls wc ∧ RelT K wc τ σ' ∧ okS_ K ad G W D wc (whlD (fun τ S => tst G cal c τ S) (fun τ S => denSs G cal b τ S) n τ wc.S), fun σ' H' hN => ⟨n, Nat.lt_succ_self n, hN⟩, w1, τ, rfl, s1, rtc.mono l1.mo, ?_⟩
      show okS_ K ad G W _ w1 (denSs G cal b τ w1.S)
      have hr : okS_ K ad G W D w1 (match denSs G cal b τ w1.S with
        | .nx τ2 S2 => whlD (fun τ S => tst G cal c τ S) (fun τ S => denSs G cal b τ S) n τ2 S2
        | .ct τ2 S2 => whlD (fun τ S => tst G cal c τ S) (fun τ S => denSs G cal b τ S) n τ2 S2
        | .bk τ2 S2 => .nx τ2 S2
        | r => r) := hr
      cases hb : denSs G cal b τ w1.S with
      | nx τ2 S2 =>
        rw [hb] at hr
        intro w4 σ4 e4 l4 s4 rt4
        exact ⟨w4, τ2, rfl, s4, rt4, by rw [e4]; exact hr.at l4⟩
      | ct τ2 S2 =>
        rw [hb] at hr
        intro w4 σ4 e4 l4 s4 rt4
        exact ⟨w4, τ2, rfl, s4, rt4, by rw [e4]; exact hr.at l4⟩
      | bk τ2 S2 => rw [hb] at hr; exact hr
      | rt a S2 => rw [hb] at hr; exact hr
      | ex c fs τ2 S2 => rw [hb] at hr; exact hr
      | no => rw [hb] at hr; exact hr.elim
theorem putF_rel {K : PySem.W.Frag} {w : Wd} {f : Str} {a : A} {v : V} (r : RelA K w a v) : ∀ {fs : List (Str × A)} {ws : List (Str × V)}, Paired (fun (p : Str × A) (q : Str × V) => p.1 = q.1 ∧ RelA K w p.2 q.2) fs ws →
    Paired (fun (p : Str × A) (q : Str × V) => p.1 = q.1 ∧ RelA K w p.2 q.2) (Lt.putF f a fs) (L2.putF f v ws)
  | _, _, .nil => .cons ⟨rfl, r⟩ .nil
  | (x, b) :: fs, (y, u) :: ws, .cons h t => by
    obtain ⟨rfl, rb⟩ := h
    have ih := putF_rel (f := f) r t
    unfold Lt.putF L2.putF
    by_cases e : x = f
    · rw [if_pos e, if_pos e]; exact .cons ⟨rfl, r⟩ t
    · rw [if_neg e, if_neg e]; exact .cons ⟨rfl, rb⟩ ih
theorem fldO_ok {X : Cx} {W : WX} {m : MC} (F : Fx X ad G W k cal m) {w : Wd} {a b : A} {v u : V} {f : Str} {S3 : List O} (s : RelS X.K ad.cls w) (ra : RelA X.K w a v) (rb : RelA X.K w b u) (e : fldO G a f b w.S = some S3) :
    ∃ p C dx fs, v = .ref p ∧ w.H p = some (.ins C dx fs) ∧ Cls X.K C ∧ NoAttr X.K C f ∧ fs.length < 1000 ∧ ∃ w', w'.H = upd w.H p (.ins C dx (L2.putF f u fs)) ∧ w'.S = S3 ∧ Le w w' ∧ RelS X.K ad.cls w' := by
  unfold fldO at e
  split at e
  · rename_i n
    obtain ⟨p, e1, rfl⟩ := relA_ref ra
    split at e
    · rename_i c fs hS
      split at e
      · rename_i ci ec
        split at e
        · rename_i hf
          cases e
          obtain ⟨dx, ws, q, rs⟩ := s.obj n p _ e1 hS
          have hc : c < G.clss.length := (List.getElem?_eq_some_iff.mp ec).1
          have nd : (O.ins c fs) ≠ .dead := by intro z; cases z
          have le := Le.put (o' := .ins c (Lt.putF f b fs)) (h := .ins (ad.cls c) dx (L2.putF f u ws)) s e1 hS nd
          refine ⟨p, ad.cls c, dx, ws, rfl, q, (F.st.cf c hc).cl, (F.st.mem c ci ec).fld f hf.1, by rw [← rs.length]; exact hf.2, ⟨w.ms, w.S.set n (.ins c (Lt.putF f b fs)), upd w.H p (.ins (ad.cls c) dx (L2.putF f u ws)), w.hid⟩, rfl, rfl, le, ?_⟩
          exact s.put e1 hS nd ⟨dx, _, upd_same, Paired.mapP (putF_rel rb rs) fun _ _ z => ⟨z.1, z.2.mono le.mo⟩⟩
        · cases e
      · cases e
    · cases e
  · cases e
mutual
theorem sS : ∀ (st : Sm) {X : Cx} {W : WX} {m : MC} (B : Bx X ad G W k cal m) (x : Stmt), mS G m st x = true → PS X x (tS X.K ad G W (fun τ S => denS G cal st τ S))
  | .asg (.t (.nm i)) e, X, W, m, B, x, h => by
    cases x <;> simp only [mS] at h <;> first | (cases h; done) | skip
    rename_i tgs v pos
    rcases tgs with _ | ⟨tg, _ | ⟨t2, r⟩⟩ <;> first | (cases h; done) | (cases tg <;> cases h; done) | skip
    cases tg <;> first | (cases h; done) | skip
    rename_i x p
    simp only [Bool.and_eq_true] at h
    obtain ⟨⟨h1, h2⟩, h3⟩ := h
    have hN : X.N[i]? = some x ∧ Loc X.env.scope x ∧ (X.fn x = true ∨ X.env.scope.names.lookup x = some .local) := by
      simp only [mT, Bool.and_eq_true, beq_iff_eq] at h1
      obtain ⟨h1, h4⟩ := h1
      rw [B.sc, B.N]
      unfold stor at h4
      split at h4
      · rename_i e; exact ⟨h1, .inl e, .inr e⟩
      · rename_i e; exact ⟨h1, .inr e, .inl (B.fb x h4)⟩
      · cases h4
    cases hn : noComp v with
    | true =>
      refine PS.imp (ps_set (i := i) B.nd hN.1 hN.2.1 (sE e B.toFx v h2).pe (sw_false hn) hN.2.2) ?_
      rintro D σ H ⟨w, τ, rfl, s, rt, ok⟩
      refine ⟨w, τ, rfl, s, rt, okR.go rt ok fun w1 a u l1 s1 ra ok1 => ?_⟩
      exact ok1 w1 _ rfl (Le.refl w1) s1 ((rt.mono l1.mo).set i ra)
    | false =>
      rw [hn, Bool.false_or, Bool.and_eq_true] at h3
      have sw := sw_comp B (l := pos.line) h3.2
      cases v <;> first | (cases hn; done) | (cases h3.2; done) | skip
      cases e <;> first | (cases h3.1; done) | skip
      rename_i elt' gens scope posc fl elt t ik src ifs own
      have hloc : X.env.scope.names.lookup x = some .local := by
        have := h3.2
        simp only [swB, Bool.and_eq_true] at this
        obtain ⟨⟨h, _⟩, _⟩ := this
        rw [B.sc]
        split at h
        · assumption
        · cases h
      simp only [mE] at h2
      rcases gens with _ | ⟨⟨tg, iter, ifs', asy⟩, _ | ⟨g2, r⟩⟩ <;> first | (cases h2; done) | skip
      simp only [Bool.and_eq_true, beq_iff_eq, decide_eq_true_eq, List.all_eq_true, List.contains_iff_mem] at h2
      obtain ⟨⟨⟨⟨⟨⟨⟨⟨rfl, g1⟩, g2⟩, g3⟩, g4⟩, g5⟩, g6⟩, g7⟩, g8⟩ := h2
      cases ha : srcArgs m ik tg iter with
      | none => rw [ha] at g2; cases g2
      | some args =>
        rw [ha] at g2
        simp only [Bool.and_eq_true] at g2
        have L := lcParts B.toFx g1 ha g2.1 g2.2 (let z := sEs src B.toFx args g2.2; ⟨z.1, z.2.1⟩) g3 g5 g6 g7 (fun s H C cl fp => let z := sEs ifs (B.blk s H scope cl C fp) ifs' g6; ⟨z.1, z.2.1⟩) (fun s H C cl fp => (sE elt (B.blk s H scope cl C fp) elt' g4).pe)
        refine PS.imp (ps_setLc B.calm B.nd hN.1 hloc sw L.pi L.ok L.pg L.pt L.pe (fun x => set_plain g1 X.env x)) ?_
        rintro D σ H ⟨w, τ, rfl, s, rt, ok⟩
        refine s_lc (W := W) g8 (Q := fun x H1 => gName i x σ H1 D.nx) (fl := fl) ⟨w, τ, rfl, s, rt, okR.go rt ok fun w1 a u l1 s1 ra ok1 => ?_⟩
        exact ok1 w1 _ rfl (Le.refl w1) s1 ((rt.mono l1.mo).set i ra)
  | .asg (.t (.tup ts)) e, X, W, m, B, x, h => by
    cases x <;> simp only [mS] at h <;> first | (cases h; done) | skip
    rename_i tgs v pos
    rcases tgs with _ | ⟨tg, _ | ⟨t2, r⟩⟩ <;> first | (cases h; done) | (cases tg <;> cases h; done) | skip
    cases tg <;> first | (cases h; done) | skip
    rename_i es kk p
    simp only [Bool.and_eq_true] at h
    obtain ⟨⟨⟨h1, h2⟩, h3⟩, h4⟩ := h
    have pg : PG X (.Tuple es kk p) (gT X.K ad (.tup ts)) := sT B.toMx (.tup ts) _ h1
    refine PS.imp (ps_asg (sE e B.toFx v h2).pe pg (sole_false h3) (stores_tup h4 X.env) rfl) ?_
    rintro D σ H ⟨w, τ, rfl, s, rt, ok⟩
    refine ⟨w, τ, rfl, s, rt, okR.go rt ok fun w1 a u l1 s1 ra ok1 => ?_⟩
    split at ok1
    · rename_i τ1 e1
      exact ⟨w1, τ, a, τ1, rfl, s1, rt.mono l1.mo, ra, e1, fun w2 σ2 eS l2 s2 rt2 _ => ok1 w2 σ2 eS l2 s2 rt2⟩
    · exact ok1.elim
  | .asg (.t (.star is i)) e, X, W, m, B, x, h => by simp [mS] at h
  | .asg (.sub o i) e, X, W, m, B, x, h => by
    cases x <;> simp only [mS] at h <;> first | (cases h; done) | skip
    rename_i tgs v pos
    rcases tgs with _ | ⟨tg, _ | ⟨t2, r⟩⟩ <;> first | (cases h; done) | (cases tg <;> cases h; done) | skip
    cases tg <;> first | (cases h; done) | skip
    rename_i x y p
    simp only [Bool.and_eq_true] at h
    obtain ⟨⟨⟨⟨h1, h2⟩, h3⟩, h4⟩, h5⟩ := h
    refine PS.imp (ps_asg (sE e B.toFx v h4).pe (pg_sub (sE o B.toFx x h1).pe (sE i B.toFx y h2).pe (pset_o (ad := ad) (unitsOk B.toFx)) (fun v => assign_sub h3 X.env v)) (sole_false h5) (stores_sub v X.env) rfl) ?_
    rintro D σ H ⟨w, τ, rfl, s, rt, ok⟩
    refine ⟨w, τ, rfl, s, rt, okR.go rt ok fun w1 a u l1 s1 ra ok1 => ?_⟩
    refine ⟨w1, τ, rfl, s1, rt.mono l1.mo, okR.go (rt.mono l1.mo) ok1 fun w2 b u2 l2 s2 rb ok2 => ?_⟩
    refine ⟨w2, τ, rfl, s2, (rt.mono l1.mo).mono l2.mo, okR.go ((rt.mono l1.mo).mono l2.mo) ok2 fun w3 c u3 l3 s3 rc ok3 => ?_⟩
    split at ok3
    · rename_i S4 e4
      exact ⟨w3, b, c, a, S4, rfl, s3, rb.mono l3.mo, rc, (ra.mono l2.mo).mono l3.mo, e4, fun w4 eS l4 s4 => ok3 w4 σ eS l4 s4 ((((rt.mono l1.mo).mono l2.mo).mono l3.mo).mono l4.mo)⟩
    · exact ok3.elim
  | .asg (.fld o f) e, X, W, m, B, x, h => by
    cases x <;> simp only [mS] at h <;> first | (cases h; done) | skip
    rename_i tgs v pos
    rcases tgs with _ | ⟨tg, _ | ⟨t2, r⟩⟩ <;> first | (cases h; done) | (cases tg <;> cases h; done) | skip
    cases tg <;> first | (cases h; done) | skip
    rename_i x g p
    simp only [Bool.and_eq_true, beq_iff_eq] at h
    obtain ⟨⟨⟨⟨rfl, h1⟩, h2⟩, h4⟩, h5⟩ := h
    refine PS.imp (ps_fld (sE o B.toFx x h2).pe (sE e B.toFx v h4).pe (sw_false h5)) ?_
    rintro D σ H ⟨w, τ, rfl, s, rt, ok⟩
    refine ⟨w, τ, rfl, s, rt, okR.go rt ok fun w1 a u l1 s1 ra ok1 => ?_⟩
    refine ⟨w1, τ, rfl, s1, rt.mono l1.mo, okR.go (rt.mono l1.mo) ok1 fun w2 b u2 l2 s2 rb ok2 => ?_⟩
    split at ok2
    · rename_i S3 e3
      obtain ⟨p', C, dx, fs, e4, e5, e6, e7, e8, w3, e9, e10, e11, e12⟩ := fldO_ok B.toFx s2 rb (ra.mono l2.mo) e3
      exact ⟨p', C, dx, fs, e4, e5, e6, e7, e8, by rw [← e9]; exact ok2 w3 σ e10 e11 e12 (((rt.mono l1.mo).mono l2.mo).mono e11.mo)⟩
    · exact ok2.elim
  | .aug i op e, X, W, m, B, x, h => by simp [mS] at h
  | .ex e, X, W, m, B, x, h => by
    cases x <;> simp only [mS] at h <;> first | (cases h; done) | skip
    rename_i v pos
    simp only [Bool.and_eq_true] at h
    refine PS.imp (ps_expr (sE e B.toFx v h.1).pe (sw_false h.2)) ?_
    rintro D σ H ⟨w, τ, rfl, s, rt, ok⟩
    refine ⟨w, τ, rfl, s, rt, okR.go rt ok fun w1 a u l1 s1 ra ok1 => ?_⟩
    exact ok1 w1 σ rfl (Le.refl w1) s1 (rt.mono l1.mo)
  | .ret e, X, W, m, B, x, h => by
    cases x <;> simp only [mS] at h <;> first | (cases h; done) | skip
    rename_i v pos
    cases v <;> first | (cases h; done) | skip
    rename_i v
    refine PS.imp (ps_ret (sE e B.toFx v h).pe) ?_
    rintro D σ H ⟨w, τ, rfl, s, rt, ok⟩
    refine ⟨w, τ, rfl, s, rt, okR.go rt ok fun w1 a u l1 s1 ra ok1 => ?_⟩
    exact ok1 w1 u rfl (Le.refl w1) s1 ra
  | .retN, X, W, m, B, x, h => by
    cases x <;> simp only [mS] at h <;> first | (cases h; done) | skip
    rename_i v pos
    cases v <;> first | (cases h; done) | skip
    refine PS.imp ps_retN ?_
    rintro D σ H ⟨w, τ, rfl, s, rt, ok⟩
    exact ok w .non rfl (Le.refl w) s non_rel
  | .pass, X, W, m, B, x, h => by
    cases x <;> simp only [mS] at h <;> first | (cases h; done) | skip
    refine PS.imp ps_pass ?_
    rintro D σ H ⟨w, τ, rfl, s, rt, ok⟩
    exact ok w σ rfl (Le.refl w) s rt
  | .brk, X, W, m, B, x, h => by
    cases x <;> simp only [mS] at h <;> first | (cases h; done) | skip
    refine PS.imp ps_break ?_
    rintro D σ H ⟨w, τ, rfl, s, rt, ok⟩
    exact ok w σ rfl (Le.refl w) s rt
  | .cont, X, W, m, B, x, h => by
    cases x <;> simp only [mS] at h <;> first | (cases h; done) | skip
    refine PS.imp ps_continue ?_
    rintro D σ H ⟨w, τ, rfl, s, rt, ok⟩
    exact ok w σ rfl (Le.refl w) s rt
  | .never, X, W, m, B, x, h => by
    refine PS.imp ps_never ?_
    rintro D σ H ⟨w, τ, rfl, s, rt, ok⟩
    exact ok
  | .ifs c a b, X, W, m, B, x, h => by
    cases x <;> simp only [mS] at h <;> first | (cases h; done) | skip
    rename_i c' a' b' pos
    simp only [Bool.and_eq_true] at h
    obtain ⟨⟨h1, h2⟩, h3⟩ := h
    refine PS.imp (ps_if (sE c B.toFx c' h1).pt (sSs a B a' h2) (sSs b B b' h3)) ?_
    rintro D σ H ⟨w, τ, rfl, s, rt, ok⟩
    refine ⟨w, τ, rfl, s, rt, okB.go rt ok fun w1 kk l1 s1 ok1 => ?_⟩
    cases kk with
    | true => exact ⟨w1, τ, rfl, s1, rt.mono l1.mo, ok1⟩
    | false => exact ⟨w1, τ, rfl, s1, rt.mono l1.mo, ok1⟩
  | .forr t kk src b, X, W, m, B, x, h => by
    cases x <;> simp only [mS] at h <;> first | (cases h; done) | skip
    rename_i tg iter b' orelse pos
    cases orelse <;> first | (cases h; done) | skip
    simp only [Bool.and_eq_true] at h
    obtain ⟨⟨⟨h1, h2⟩, h3⟩, h4⟩ := h
    cases ha : srcArgs m kk tg iter with
    | none => rw [ha] at h2; cases h2
    | some args =>
      rw [ha] at h2
      simp only [Bool.and_eq_true] at h2
      obtain ⟨h9, h10⟩ := h2
      have U := sEs src B.toFx args h10
      have S := allStar h10
      have pi := s_pi B.toFx ha h9 S.1 S.2 U.1 (fun x hx => let ⟨e, a, b, _⟩ := U.2.1 x hx; ⟨e, a, b⟩)
      refine PS.imp (ps_for B.own B.calm pi (sT (ad := ad) B.toMx t tg h3) (sSs b B b' h4) (fun x => set_plain h1 X.env x)) ?_
      intro D σ H hh
      exact s_for hh
  | .whl n c b, X, W, m, B, x, h => by
    cases x <;> simp only [mS] at h <;> first | (cases h; done) | skip
    rename_i c' b' orelse pos
    cases orelse <;> first | (cases h; done) | skip
    simp only [Bool.and_eq_true] at h
    refine PS.imp (ps_while B.own (sE c B.toFx c' h.1).pt (sSs b B b' h.2)) ?_
    intro D σ H hh
    exact s_whl hh
theorem sSs : ∀ (ss : List Sm) {X : Cx} {W : WX} {m : MC} (B : Bx X ad G W k cal m) (xs : List Stmt), mSs G m ss xs = true → PSs X xs (tS X.K ad G W (fun τ S => denSs G cal ss τ S))
  | [], X, W, m, B, xs, h => by
    cases xs with
    | cons x xs => simp [mSs] at h
    | nil =>
      refine PSs.imp pss_nil ?_
      rintro D σ H ⟨w, τ, rfl, s, rt, ok⟩
      exact ok w σ rfl (Le.refl w) s rt
  | st :: ss, X, W, m, B, xs, h => by
    cases xs with
    | nil => simp [mSs] at h
    | cons x xs =>
      have h' : mS G m st x = true ∧ mSs G m ss xs = true := by simpa [mSs] using h
      refine PSs.imp (pss_cons (sS st B x h'.1) (sSs ss B xs h'.2)) ?_
      rintro D σ H ⟨w, τ, rfl, s, rt, ok⟩
      refine ⟨w, τ, rfl, s, rt, ?_⟩
      have ok : okS_ X.K ad G W D w ((denS G cal st τ w.S).seq fun τ1 S1 => denSs G cal ss τ1 S1) := ok
      show okS_ X.K ad G W _ w (denS G cal st τ w.S)
      cases hd : denS G cal st τ w.S with
      | nx τ1 S1 =>
        rw [hd] at ok
        intro w1 σ1 eS l1 s1 rt1
        exact ⟨w1, τ1, rfl, s1, rt1, by rw [eS]; exact okS_.at ok l1⟩
      | bk τ1 S1 => rw [hd] at ok; exact ok
      | ct τ1 S1 => rw [hd] at ok; exact ok
      | rt a S1 => rw [hd] at ok; exact ok
      | ex c fs τ1 S1 => rw [hd] at ok; exact ok
      | no => rw [hd] at ok; exact ok
end
end
end Lt
/-! defs, the text to a depth of calls -/
namespace Lt
open PySem L2
/-- a def of the text and its small form -/
structure DOk (G : Gt) (d : He.DefD) (N : List Str) (fd : Fd) : Prop where
  sc : FnScope N (N.take fd.np) d.scope
  np : fd.np ≤ N.length
  nl : fd.nl = N.length
  mt : mSs G ⟨N, d.scope, fun _ => true⟩ fd.body d.body = true
  nd : d.dfl = []
  bi : ∀ (kV doc pm : Value) (an : Option Addr) (cdv ct : Value) (us : List Value), us.length = (N.take fd.np).length → bindArgs (PySem.W.fnOf d.name d.qual d.params d.body d.scope .none kV doc pm an cdv ct) ⟨us, []⟩ = pure ((N.take fd.np).zip us)
/-- a call by names binds as Kc.fill says -/
structure KwOk (kc : Kc) (d : He.DefD) (N : List Str) (fd : Fd) : Prop where
  len : kc.out.length = (N.take fd.np).length
  pos : 0 < kc.out.length
  bi : ∀ (kV doc pm : Value) (an : Option Addr) (cdv ct : Value) (us ws : List Value), us.length = kc.np → ws.length = kc.ks.length → bindArgs (PySem.W.fnOf d.name d.qual d.params d.body d.scope .none kV doc pm an cdv ct) ⟨us, kc.ks.zip ws⟩ = pure ((N.take fd.np).zip (kc.fill Value.none us ws))
def KwAll (G : Gt) (fn : List He.DefD) (ds : List (Option Fd)) : Prop := ∀ (i : Nat) (kc : Kc), G.kwc[i]? = some kc → ∃ dd N fd, fn[kc.d]? = some dd ∧ ds[kc.d]? = some (some fd) ∧ DOk G dd N fd ∧ KwOk kc dd N fd
theorem kw_none {G : Gt} {fn : List He.DefD} {ds : List (Option Fd)} (h : G.kwc = []) : KwAll G fn ds := fun i kc e => by rw [h] at e; simp at e
theorem KwOk.binds {K : PySem.W.Frag} {kc : Kc} {d : He.DefD} {N : List Str} {fd : Fd} {f : Addr} {fdt : FuncData} {kws : List (Str × V)} (h : KwOk kc d N fd) (hf : FunD K d.name d.qual d.params d.body d.scope [] kws f fdt) : KBinds K fdt (N.take fd.np) kc.ks (kc.fill Value.none) (kc.fill V.non) := by
  obtain ⟨oc, od, dV, kV, doc, pm, an, cdv, ct, osl, e, lk, hcd, hD, hK⟩ := hf.ex
  subst e
  rcases hD with ⟨_, e⟩ | ⟨e, _⟩
  · subst e
    refine ⟨fun s us ws _ hl => ?_, fill_vals⟩
    by_cases c : us.length = kc.np ∧ ws.length = kc.ks.length
    · exact .of_eq (h.bi kV doc pm an cdv ct us ws c.1 c.2)
    · exfalso
      have z : kc.fill Value.none us ws = [] := if_neg c
      rw [z, ← h.len] at hl
      have := h.pos
      simp at hl
      omega
  · exact absurd rfl e
def adOf (K : PySem.W.Frag) (fn : List He.DefD) (cn xn : List Str) : Ad where
  cls := fun c => match cn[c]? with | some x => He.ga K x | none => 0
  xc := fun c => match xn[c]? with | some x => He.ga K x | none => 0
  df := fun d => match fn[d]? with | some dd => He.fAd K dd.at_ | none => 0
  tb := fun x => He.ga K x
/-- what does not speak of the defs' bodies -/
structure F0 (wo : World) (K : PySem.W.Frag) (mg : Str → Option Value) (ad : Ad) (G : Gt) : Prop where
  con : ∀ x a, G.consts.lookup x = some a → ∃ v u, mg x = some u ∧ RelV v u ∧ ∀ w, RelA K w a v
  blt : ∀ x, bltN.contains x = true → mg x = none
  dn : ∀ (d : Nat) (x : Str), G.dnames[d]? = some (some x) → mg x = some (.ref (ad.df d)) ∧ PySem.W.keepIn K (.ref (ad.df d)) = true
  cls : ∀ (c : Nat) (ci : Ci), G.clss[c]? = some ci → mg ci.name = some (.ref (ad.cls c))
  cf : ∀ c, c < G.clss.length → CF K ad.cls G.clss.length (ad.cls c)
  ow : ∀ c d, c < G.clss.length → d < G.clss.length → PySem.W.kitOne K (.ref (ad.cls c)) (.ref (ad.cls d)) = some (c == d)
  mem : ∀ (c : Nat) (ci : Ci), G.clss[c]? = some ci → ClM K ad c ci
  tab : ∀ (x : Str) (kvs : List (List Nat × A)), G.tabs.lookup x = some kvs → mg x = some (.ref (ad.tb x)) ∧ TabOk K wo (ad.tb x) kvs
theorem start_rel {K : PySem.W.Frag} {w : Wd} {N : List Str} {as : List A} {vs : List V} (r : RelAs K w as vs) (np : Nat) (hl : as.length = np) (hN : np ≤ N.length) : RelT K w (as.map some ++ List.replicate (N.length - np) none) (L2.start N vs) := by
  have h := r.length
  refine ⟨by simp [L2.start]; omega, fun i a e => ?_⟩
  by_cases hi : i < as.length
  · rw [List.getElem?_append_left (by simpa using hi), List.getElem?_map] at e
    cases ea : as[i]? with
    | none => rw [ea] at e; cases e
    | some b =>
      rw [ea] at e
      have : b = a := by simpa using e
      subst this
      obtain ⟨v, ev, rv⟩ := r.get ea
      refine ⟨v, ?_, rv⟩
      unfold L2.start
      rw [List.getElem?_append_left (by simp; omega), List.getElem?_map, ev]; rfl
  · rw [List.getElem?_append_right (by simpa using hi), List.getElem?_replicate] at e
    split at e <;> cases e
section
variable {P : Program} {wo : World} {K : PySem.W.Frag} {mg : Str → Option Value} {base : Heap} {ad : Ad} {G : Gt} {k : Nat} {cal : Cal}
theorem fn_ok (F : Fs P wo K mg base ad G k cal) {d : He.DefD} {N : List Str} {fd : Fd} (D : DOk G d N fd) {f : Addr} {fdt : FuncData} {kws : List (Str × V)} (hf : FunD K d.name d.qual d.params d.body d.scope [] kws f fdt) :
    FnOk P wo K mg base (L2.CX P wo) (4 * (k + 1)) f fdt (N.take fd.np) (spF K ad G (fun as S => runF G cal fd as S)) := by
    refine (hf.ok (k := 4 * k + 3) D.sc ?_ ?_)
    · rintro vs H Q E ⟨w, as, rfl, s, r, h⟩
      have h : okR K ad G Q E w (runF G cal fd as w.S) := h
      unfold runF at h
      split at h
      · rename_i hl
        rw [← r.length, hl, List.length_take, Nat.min_eq_left D.np]
      · exact h.elim
    · rintro cdv A outer s H vs Q E hr ⟨w, as, rfl, hs, r, h⟩
      have h : okR K ad G Q E w (runF G cal fd as w.S) := h
      unfold runF at h
      split at h
      case isFalse => exact h.elim
      rename_i hl
      have tk : Takes (cxOf (L2.CX P wo) P wo K mg base N d.qual d.scope f cdv A outer s w.H E) (fun cls d' _ H => E cls d' H) := takes_of rfl rfl rfl rfl
      have B : Bx (cxOf (L2.CX P wo) P wo K mg base N d.qual d.scope f cdv A outer s w.H E) ad G (fun cls d' _ H => E cls d' H) k cal ⟨N, d.scope, fun _ => true⟩ :=
        { N := rfl, sc := rfl, fb := fun _ _ => rfl, nd := D.sc.nd, calm := rfl, st := F, room := hr, ps := fun σ => passAt tk σ, own := passes_of rfl, kind := D.sc.kind }
      refine ⟨_, sSs fd.body B d.body D.mt, w, _, rfl, hs, start_rel (N := N) r fd.np hl D.np, ?_⟩
      rw [D.nl] at h
      show okS_ K ad G _ _ w (denSs G cal fd.body _ w.S)
      cases hd : denSs G cal fd.body (as.map some ++ List.replicate (N.length - fd.np) none) w.S with
      | nx τ S => rw [hd] at h; exact fun w' σ' e l s' rt => h w' .non e l s' non_rel
      | rt a S => rw [hd] at h; exact h
      | ex c fs τ S => rw [hd] at h; exact fun w' σ' cv dd e l s' rt x => h w' cv dd e l s' x
      | bk τ S => rw [hd] at h; exact h.elim
      | ct τ S => rw [hd] at h; exact h.elim
      | no => rw [hd] at h; exact h.elim
theorem fn_lev (F : Fs P wo K mg base ad G k cal) {d : He.DefD} {N : List Str} {fd : Fd} (D : DOk G d N fd) {f : Addr} {fdt : FuncData} {kws : List (Str × V)} (hf : FunD K d.name d.qual d.params d.body d.scope [] kws f fdt) :
    FnR P wo K mg base (L2.CX P wo) (4 * (k + 1)) f (spF K ad G (fun as S => runF G cal fd as S)) := by
  have R := (fn_ok F D hf).raw (hf.bindsN D.bi) .nil
  exact R.imp fun vs H Q E h => by rw [List.append_nil]; exact h
theorem fn_none {j : Nat} {f : Addr} : FnR P wo K mg base (L2.CX P wo) j f (spF K ad G (fun _ _ => .no)) := by
  intro A outer s H us vs Q E hr e0 r ⟨w, as, _, _, _, h⟩
  exact h.elim
end
section
variable {P : Program} {wo : World} {K : PySem.W.Frag} {mg : Str → Option Value} {base : Heap} {G : Gt} {fa : List He.Fa} {fn : List He.DefD} {cn xn : List Str} {ds : List (Option Fd)}
theorem fn_no {j : Nat} {f : Addr} {fdt : FuncData} {ps : List Str} {ad : Ad} : FnOk P wo K mg base (L2.CX P wo) j f fdt ps (spF K ad G (fun _ _ => .no)) :=
  ⟨fun vs H Q E ⟨w, as, _, _, _, h⟩ => h.elim, fun A outer s H args us vs Q E hr e0 hb r ⟨w, as, _, _, _, h⟩ => h.elim⟩
/-- the whole text, to any depth -/
theorem levels (F : F0 wo K mg (adOf K fn cn xn) G) (c : He.SaysD fa fn K) (h : ∀ (d : Nat) (fd : Fd), ds[d]? = some (some fd) → ∃ dd N, fn[d]? = some dd ∧ DOk G dd N fd) (hk : KwAll G fn ds) : ∀ k, Fs P wo K mg base (adOf K fn cn xn) G k (I G ds k)
  | 0 => ⟨fun d => fn_none (ad := adOf K fn cn xn) (G := G), F.con, F.blt, F.dn, F.cls, F.cf, F.ow, F.mem, F.tab, fun i kc e => by
      obtain ⟨dd, N, fd, e1, e2, D, kk⟩ := hk i kc e
      obtain ⟨fdt, hf⟩ := c.def_ kc.d e1
      have hdv : dd.dvs K = [] := by unfold He.DefD.dvs; rw [D.nd]; rfl
      rw [hdv] at hf
      exact ⟨fdt, _, fn_no, kk.binds hf⟩⟩
  | k + 1 => by
    have ih := levels F c h hk k
    refine ⟨fun d => ?_, F.con, F.blt, F.dn, F.cls, F.cf, F.ow, F.mem, F.tab, fun i kc e => ?kw⟩
    case kw =>
      obtain ⟨dd, N, fd, e1, e2, D, kk⟩ := hk i kc e
      obtain ⟨fdt, hf⟩ := c.def_ kc.d e1
      have hdv : dd.dvs K = [] := by unfold He.DefD.dvs; rw [D.nd]; rfl
      rw [hdv] at hf
      have e3 : (adOf K fn cn xn).df kc.d = He.fAd K dd.at_ := by simp only [adOf, e1]
      rw [e3]
      refine ⟨fdt, _, (fn_ok ih D hf).imp fun vs H Q E q => ?_, kk.binds hf⟩
      obtain ⟨w, as, a, b, e, q⟩ := q
      refine ⟨w, as, a, b, e, ?_⟩
      have : I G ds (k + 1) kc.d as w.S = runF G (I G ds k) fd as w.S := by simp only [I, e2]
      rw [this] at q; exact q
    cases hd : ds[d]? with
    | none =>
      refine FnR.imp (fn_none (ad := adOf K fn cn xn) (G := G)) fun vs H Q E q => ?_
      obtain ⟨w, as, a, b, e, q⟩ := q
      refine ⟨w, as, a, b, e, ?_⟩
      have : I G ds (k + 1) d as w.S = .no := by simp only [I, hd]
      rw [this] at q; exact q
    | some o =>
      cases o with
      | none =>
        refine FnR.imp (fn_none (ad := adOf K fn cn xn) (G := G)) fun vs H Q E q => ?_
        obtain ⟨w, as, a, b, e, q⟩ := q
        refine ⟨w, as, a, b, e, ?_⟩
        have : I G ds (k + 1) d as w.S = .no := by simp only [I, hd]
        rw [this] at q; exact q
      | some fd =>
        obtain ⟨dd, N, e1, D⟩ := h d fd hd
        obtain ⟨fdt, hf⟩ := c.def_ d e1
        have hdv : dd.dvs K = [] := by unfold He.DefD.dvs; rw [D.nd]; rfl
        rw [hdv] at hf
        have e2 : (adOf K fn cn xn).df d = He.fAd K dd.at_ := by simp only [adOf, e1]
        rw [e2]
        refine FnR.imp (fn_lev ih D hf) fun vs H Q E q => ?_
        obtain ⟨w, as, a, b, e, q⟩ := q
        refine ⟨w, as, a, b, e, ?_⟩
        have : I G ds (k + 1) d as w.S = runF G (I G ds k) fd as w.S := by simp only [I, hd]
        rw [this] at q; exact q
end
end Lt
/-! the text's facts from its head; the law's def -/
namespace Lt
open PySem L2
/-! ### constants -/
def cFa : Str × A → Option He.Fa
  | (x, .int i) => some (.int x i)
  | (x, .str s) => some (.str x (mkS s))
  | _ => none
def okC : Str × A → Bool
  | (_, .int _) => true
  | (_, .str s) => decide (s.length ≤ 100000) && s.all fun c => decide (c < 0x110000)
  | _ => false
def faOf (G : Gt) (more : List He.Fa) : List He.Fa := bltN.map .free ++ (G.dnames.filterMap fun o => o.map .glo) ++ G.consts.filterMap cFa ++ more
theorem lookup_mem {α β : Type} [BEq α] [LawfulBEq α] : ∀ {l : List (α × β)} {x : α} {a : β}, l.lookup x = some a → (x, a) ∈ l
  | [], _, _, h => by cases h
  | (y, b) :: l, x, a, h => by
    rw [List.lookup_cons] at h
    cases e : x == y with
    | true => rw [e] at h; cases h; rw [eq_of_beq e]; exact List.mem_cons_self
    | false => rw [e] at h; exact List.mem_cons_of_mem _ (lookup_mem h)
section
variable {wo : World} {K : PySem.W.Frag} {h : Heap} {mg : Str → Option Value} {G : Gt} {fn : List He.DefD} {more : List He.Fa}
theorem facts_all {fa : List He.Fa} (c : He.SaysD fa fn K) : ∀ f ∈ fa, f.ok K = true := fun f hf => by
  obtain ⟨i, hi⟩ := List.getElem?_of_mem hf
  exact c.fact i hi
theorem f0_of (X : K.In h) (Gn : h.Ns mainGlobals mg) (c : He.SaysD (faOf G more) fn K) (hn : ∀ (d : Nat) (x : Str), G.dnames[d]? = some (some x) → ∃ dd, fn[d]? = some dd ∧ dd.at_ = (x, none)) (hc : G.consts.all okC = true) (hcl : G.clss = []) (ht : ∀ (x : Str) (kvs : List (List Nat × A)), G.tabs.lookup x = some kvs → mg x = some (.ref (He.ga K x)) ∧ TabOk K wo (He.ga K x) kvs) : F0 wo K mg (adOf K fn [] []) G := by
  have fx := facts_all c
  refine ⟨fun x a e => ?_, fun x hx => ?_, fun d x e => ?_, fun c ci e => ?_, fun c hcc => ?_, fun c d hcc => ?_, fun c ci e => ?_, ht⟩
  · have hm := lookup_mem e
    have ho := List.all_eq_true.mp hc _ hm
    have hf : ∀ f, cFa (x, a) = some f → f.ok K = true := fun f ef => fx f (List.mem_append_left _ (List.mem_append_right _ (List.mem_filterMap.mpr ⟨_, hm, ef⟩)))
    cases a <;> first | (cases ho; done) | skip
    · obtain ⟨t, e1⟩ := He.int_ok X Gn (hf _ rfl)
      exact ⟨.int _, _, e1, ⟨t, rfl⟩, fun w => int_rel⟩
    · rename_i s
      obtain ⟨t, e1⟩ := He.str_ok X Gn (hf _ rfl)
      have ho : (decide (s.length ≤ 100000) && s.all fun c => decide (c < 0x110000)) = true := ho
      simp only [Bool.and_eq_true, decide_eq_true_eq, List.all_eq_true] at ho
      exact ⟨.str _, _, e1, ⟨t, rfl⟩, fun w => str_rel ⟨Nat.le_trans ho.1 small_list, ho.2⟩⟩
  · have hx : x ∈ bltN := by simpa using hx
    exact He.free_ok X Gn (fx _ (List.mem_append_left _ (List.mem_append_left _ (List.mem_append_left _ (List.mem_map.mpr ⟨x, hx, rfl⟩)))))
  · obtain ⟨dd, e1, e2⟩ := hn d x e
    have e3 : (adOf K fn [] []).df d = He.ga K x := by simp only [adOf, e1]; rw [e2]; rfl
    rw [e3]
    have hg := fx (.glo x) (List.mem_append_left _ (List.mem_append_left _ (List.mem_append_right _ (List.mem_filterMap.mpr ⟨some x, List.mem_of_getElem? e, rfl⟩))))
    refine ⟨He.glo_ok X Gn hg, ?_⟩
    obtain ⟨fd, hf⟩ := c.def_ d e1
    have := hf.kp
    rw [e2] at this
    exact this
  · rw [hcl] at e; cases e
  · rw [hcl] at hcc; cases hcc
  · rw [hcl] at hcc; cases hcc
  · rw [hcl] at e; cases e
end
/-! ### the law's def -/
def spLaw (K : PySem.W.Frag) : Sp := fun vs H Q _ => ∃ (a : Addr) (ns : List Int), vs = [.ref a] ∧ ns.length ≤ 63 ∧ SqL K H a (ns.map V.int) ∧ ∀ H', Q (.bl true) H'
theorem passL' {P : Program} {wo : World} {outer : List Env} {H : Hp} {s : Shared} {e : Value} {s' : Shared} {T : Prop} (h : L2.CX P wo outer H s E0 e s') : T := by
  obtain ⟨_, _, _, _, _, _, _, _, _, _, _, _, z⟩ := h
  exact z.elim
theorem law_ok {P : Program} {wo : World} {K : PySem.W.Frag} {mg : Str → Option Value} {base : Heap} {ad : Ad} {G : Gt} {k : Nat} {cal : Cal} (F : Fs P wo K mg base ad G k cal) {d : He.DefD} {N : List Str} {fd : Fd} (D : DOk G d N fd) {f : Addr} {fdt : FuncData} {kws : List (Str × V)} {x : Str}
    (hf : FunD K d.name d.qual d.params d.body d.scope [] kws f fdt) (hp : N.take fd.np = [x]) (hl : ∀ ns : List Int, ns.length ≤ 63 → ∃ S, runF G cal fd [.scr (ns.map .int)] [] = .ok (.bl true) S) : FnOk P wo K mg base CX0 (4 * (k + 1)) f fdt [x] (spLaw K) := by
  have ok := fn_ok F D hf
  rw [hp] at ok
  refine ⟨fun vs H Q E ⟨a, ns, e, _⟩ => by rw [e]; rfl, fun A outer s H args us vs Q E hr e0 hb r hs => ?_⟩
  obtain ⟨a, ns, rfl, hn, hS, hQ⟩ := hs
  refine codeAny_mono (ok.run A outer s H args us [.ref a] Q E0 hr e0 hb r ?_) fun r s' hq => ?_
  · obtain ⟨S, e⟩ := hl ns hn
    refine ⟨⟨[], [], H, []⟩, [.scr (ns.map .int)], rfl, ⟨rfl, List.nodup_nil, fun n a e => (by cases e), fun n a o e => (by cases e), fun a ha => (by cases ha)⟩, RelAs.cons ?_ RelAs.nil, ?_⟩
    · simp only [RelA]
      refine ⟨a, ns.map V.int, rfl, ?_, ints_rels ns⟩
      rcases hS with h | h
      · refine .inl ⟨h, fun l => ?_⟩
        rcases l with l | ⟨n, o, e, _⟩
        · cases l
        · cases e
      · exact .inr h
    · show okR K ad G Q E0 _ (runF G cal fd [.scr (ns.map .int)] [])
      rw [e]
      intro w' v _ _ _ rv
      cases relA_bl rv
      exact hQ _
  · cases r with
    | ok fl => cases fl <;> exact hq
    | error e => exact passL' hq
end Lt
/-! the pools that the laws draw from -/
namespace Lt
open PySem L2
def drawB : List Sm := [.ifs (.cmp .Gt (.idx (.nm 0) (.cI 0)) (.cI 0)) [.asg (.t (.nm 2)) (.bin .Mod false (.idx (.nm 0) (.cI 0)) (.nm 1)), .asg (.sub (.nm 0) (.cI 0)) (.bin .FloorDiv false (.idx (.nm 0) (.cI 0)) (.nm 1)), .ret (.nm 2)] [],
  .asg (.sub (.nm 0) (.cI 1)) (.bin .Mod false (.bin .Add false (.bin .Mult false (.idx (.nm 0) (.cI 1)) (.cI 69621)) (.cI 7)) (.cI 2147483647)),
  .ret (.bin .Mod false (.bin .FloorDiv false (.bin .Mod false (.bin .Mult false (.idx (.nm 0) (.cI 1)) (.idx (.nm 0) (.cI 1))) (.cI 2147483629)) (.cI 32)) (.nm 1))]
def drawF : Fd := ⟨2, 3, drawB⟩
theorem idx_ref {S : List O} {n : Nat} {xs : List A} {i : Int} (h : S[n]? = some (.lst xs)) : idxO S (.ref n) (.int i) = atI xs i := by
  unfold idxO
  simp only [seqO, h]
theorem bind_of {α β : Type} (a : α) (S : List O) (f : α → List O → R β) : (R.of (some a) S).bind f = f a S := rfl
/-- what a list object holds -/
theorem get_set {S : List O} {n : Nat} {o o' : O} (h : S[n]? = some o) : (S.set n o')[n]? = some o' := List.getElem?_set_self (List.getElem?_eq_some_iff.mp h).1
theorem draw_spec (G : Gt) (cal : Cal) {S : List O} {n : Nat} {a b m : Int} (hS : S[n]? = some (.lst [.int a, .int b])) (ha : 0 ≤ a) (hb : 0 ≤ b) (hb2 : b < 2 ^ 31) (hm : 0 < m) (hm2 : m < 1073741824) :
    ∃ d a' b', runF G cal drawF [.ref n, .int m] S = .ok (.int d) (S.set n (.lst [.int a', .int b'])) ∧ 0 ≤ d ∧ d < m ∧ 0 ≤ a' ∧ 0 ≤ b' ∧ b' < 2 ^ 31 := by
  have i0 : idxO S (.ref n) (.int 0) = some (.int a) := idx_ref hS
  have i1 : idxO S (.ref n) (.int 1) = some (.int b) := idx_ref hS
  by_cases h0 : 0 < a
  · refine ⟨a % m, a / m, b, ?_, Int.emod_nonneg _ (by omega), Int.emod_lt_of_pos _ hm, Int.ediv_nonneg ha (by omega), hb, hb2⟩
    simp [runF, drawF, drawB, denSs, denS, den, dens, tst, cmpO, i0, h0, truO, T.asg, binO, hm, hm2, setO, hS, ixN]
  · generalize hc : (b * 69621 + 7) % 2147483647 = c
    have hc0 : 0 ≤ c := by rw [← hc]; exact Int.emod_nonneg _ (by omega)
    have hc1 : c < 2147483647 := by rw [← hc]; exact Int.emod_lt_of_pos _ (by omega)
    have i2 : idxO (S.set n (.lst [.int a, .int c])) (.ref n) (.int 1) = some (.int c) := idx_ref (get_set hS)
    have s1 : small b := by unfold small; omega
    have s2 : small c := by unfold small; omega
    refine ⟨c * c % 2147483629 / 32 % m, a, c, ?_, Int.emod_nonneg _ (by omega), Int.emod_lt_of_pos _ hm, ha, hc0, by omega⟩
    simp [runF, drawF, drawB, denSs, denS, den, dens, tst, cmpO, i0, i1, h0, truO, T.asg, binO, hm, hm2, setO, hS, ixN, s1, s2, hc, i2]
def poolR : List Sm := [
  .asg (.t (.nm 3)) (.bi .max [(.nm 2), (.bin .Sub true (.neg (.cI 1)) (.nm 2))]),
  .asg (.t (.nm 4)) (.bin .Mod true (.bin .Mult true (.bin .Add true (.bin .Add true (.bin .Add true (.bin .Mod true (.nm 3) (.cI 2147483629)) (.bin .Mult true (.bin .Mult true (.cI 7919) (.nm 1)) (.nm 1))) (.bin .Mult true (.cI 31) (.nm 1))) (.cI 17)) (.cI 48271)) (.cI 2147483647)),
  .ret (.lst true [(.bin .Mult true (.nm 3) (.bi .int [(.cmp .GtE (.nm 3) (.bin .Pow true (.cI 10) (.cI 18)))])), (.nm 4)])]
def poolB : List Sm := .asg (.t (.nm 2)) (.cI 0) :: .ifs (.cmp .Lt (.nm 1) (.bi .len [(.nm 0)])) [.asg (.t (.nm 2)) (.idx (.nm 0) (.nm 1))] [] :: poolR
def poolF : Fd := ⟨2, 5, poolB⟩
theorem ixN_nat {n k : Nat} (h : k < n) : ixN n (k : Int) = some k := by
  unfold ixN
  rw [if_pos (by omega), if_pos (by omega)]; simp
theorem pool_key (K cell : Int) (hk : 0 ≤ K) (hk2 : K < 1000) : ∃ a b, (∀ mixed size : Int, size = (if -1 - cell > cell then -1 - cell else cell) → mixed = (size % 2147483629 + 7919 * K * K + 31 * K + 17) * 48271 % 2147483647 → a = size * (if (10:Int) ^ 18 ≤ size then 1 else 0) ∧ b = mixed) ∧ 0 ≤ a ∧ 0 ≤ b ∧ b < 2 ^ 31 := by
  refine ⟨_, _, fun mixed size h1 h2 => by subst h1; subst h2; exact ⟨rfl, rfl⟩, ?_, ?_, ?_⟩
  · split <;> split <;> omega
  · exact Int.emod_nonneg _ (by omega)
  · have := Int.emod_lt_of_pos (((if -1 - cell > cell then -1 - cell else cell) % 2147483629 + 7919 * K * K + 31 * K + 17) * 48271) (show (0 : Int) < 2147483647 by omega)
    omega
theorem small01 (c : Prop) (_ : Decidable c) : small (if c then 1 else 0) := by split <;> decide
theorem pool_fin (G : Gt) (cal : Cal) (S : List O) (x : A) (K cell : Int) (hk : 0 ≤ K) (hk2 : K < 1000) : ∃ a b, denSs G cal poolR [some x, some (.int K), some (.int cell), none, none] S = .rt (.ref S.length) (S ++ [.lst [.int a, .int b]]) ∧ 0 ≤ a ∧ 0 ≤ b ∧ b < 2 ^ 31 := by
  have sk : small K := by unfold small; omega
  have sk2 : small (7919 * K) := by unfold small; omega
  have s48 : small 48271 := by decide
  have s31 : small 31 := by decide
  obtain ⟨a, b, h, h1, h2, h3⟩ := pool_key K cell hk hk2
  refine ⟨a, b, ?_, h1, h2, h3⟩
  obtain ⟨rfl, rfl⟩ := h _ _ rfl rfl
  simp [poolR, denSs, denS, den, dens, tst, cmpO, truO, T.asg, binO, biO, mkL, s48, s31, small01, sk, sk2]
theorem denSs_cons (G : Gt) (cal : Cal) (s : Sm) (ss : List Sm) (τ : Tau) (S : List O) : denSs G cal (s :: ss) τ S = (denS G cal s τ S).seq fun τ1 S1 => denSs G cal ss τ1 S1 := rfl
theorem denSs_nx {G : Gt} {cal : Cal} {s : Sm} {ss : List Sm} {τ τ1 : Tau} {S S1 : List O} (h : denS G cal s τ S = .nx τ1 S1) : denSs G cal (s :: ss) τ S = denSs G cal ss τ1 S1 := by rw [denSs_cons, h]; rfl
theorem denSs_rt {G : Gt} {cal : Cal} {s : Sm} {ss : List Sm} {τ : Tau} {a : A} {S S1 : List O} (h : denS G cal s τ S = .rt a S1) : denSs G cal (s :: ss) τ S = .rt a S1 := by rw [denSs_cons, h]; rfl
theorem runF_rt {G : Gt} {cal : Cal} {fd : Fd} {as : List A} {S S1 : List O} {a : A} (hl : as.length = fd.np) (h : denSs G cal fd.body (as.map some ++ List.replicate (fd.nl - fd.np) none) S = .rt a S1) : runF G cal fd as S = .ok a S1 := by
  unfold runF; rw [if_pos hl, h]; rfl
theorem pool_spec (G : Gt) (cal : Cal) (S : List O) (ns : List Int) (k : Nat) (hk2 : k < 1000) :
    ∃ a b, runF G cal poolF [.scr (ns.map .int), .int (k : Int)] S = .ok (.ref S.length) (S ++ [.lst [.int a, .int b]]) ∧ 0 ≤ a ∧ 0 ≤ b ∧ b < 2 ^ 31 := by
  have hl : lenO S (.scr (ns.map .int)) = some ns.length := by simp [lenO, seqO]
  have two : ∃ cell : Int, denS G cal (.ifs (.cmp .Lt (.nm 1) (.bi .len [(.nm 0)])) [.asg (.t (.nm 2)) (.idx (.nm 0) (.nm 1))] []) [some (.scr (ns.map .int)), some (.int (k : Int)), some (.int 0), none, none] S = .nx [some (.scr (ns.map .int)), some (.int (k : Int)), some (.int cell), none, none] S := by
    by_cases hlt : k < ns.length
    · have hx : idxO S (.scr (ns.map .int)) (.int (k : Int)) = some (.int ns[k]) := by
        unfold idxO
        simp only [seqO, atI, List.length_map, ixN_nat hlt]
        simp [hlt]
      exact ⟨ns[k], by simp [denSs, denS, den, dens, tst, cmpO, truO, T.asg, biO, hl, hlt, hx]⟩
    · exact ⟨0, by simp [denSs, denS, den, dens, tst, cmpO, truO, T.asg, biO, hl, hlt]⟩
  obtain ⟨cell, h2⟩ := two
  obtain ⟨a, b, h, h1⟩ := pool_fin G cal S (.scr (ns.map .int)) k cell (by omega) (by omega)
  exact ⟨a, b, runF_rt rfl ((denSs_nx (s := .asg (.t (.nm 2)) (.cI 0)) rfl).trans ((denSs_nx h2).trans h)), h1⟩
end Lt
/-! loops and comprehensions, in the small language's own terms -/
namespace Lt
open PySem L2
/-- a pool stands at n -/
def Pool (S : List O) (n : Nat) : Prop := ∃ a b : Int, S[n]? = some (.lst [.int a, .int b]) ∧ 0 ≤ a ∧ 0 ≤ b ∧ b < 2 ^ 31
/-- all but the object n stays -/
structure Oth (n : Nat) (S S' : List O) : Prop where
  len : S'.length = S.length
  at_ : ∀ j, j ≠ n → S'[j]? = S[j]?
theorem Oth.refl (n : Nat) (S : List O) : Oth n S S := ⟨rfl, fun _ _ => rfl⟩
theorem Oth.trans {n : Nat} {a b c : List O} (h : Oth n a b) (k : Oth n b c) : Oth n a c := ⟨k.len.trans h.len, fun j hj => (k.at_ j hj).trans (h.at_ j hj)⟩
/-- what stood stays, but for the object n -/
structure Ext (n : Nat) (S S' : List O) : Prop where
  len : S.length ≤ S'.length
  at_ : ∀ j, j ≠ n → j < S.length → S'[j]? = S[j]?
theorem Ext.refl (n : Nat) (S : List O) : Ext n S S := ⟨Nat.le_refl _, fun _ _ _ => rfl⟩
theorem Ext.trans {n : Nat} {a b c : List O} (h : Ext n a b) (k : Ext n b c) : Ext n a c := ⟨Nat.le_trans h.len k.len, fun j hj hl => (k.at_ j hj (Nat.lt_of_lt_of_le hl h.len)).trans (h.at_ j hj hl)⟩
theorem Oth.ext {n : Nat} {S S' : List O} (h : Oth n S S') : Ext n S S' := ⟨Nat.le_of_eq h.len.symm, fun j hj _ => h.at_ j hj⟩
theorem draw_pool (G : Gt) (cal : Cal) {S : List O} {n : Nat} (hS : Pool S n) {m : Int} (hm : 0 < m) (hm2 : m < 1073741824) :
    ∃ d S', runF G cal drawF [.ref n, .int m] S = .ok (.int d) S' ∧ 0 ≤ d ∧ d < m ∧ Pool S' n ∧ Oth n S S' := by
  obtain ⟨a, b, h, h1, h2, h3⟩ := hS
  obtain ⟨d, a', b', e, e1, e2, e3, e4, e5⟩ := draw_spec G cal h h1 h2 h3 hm hm2
  exact ⟨d, _, e, e1, e2, ⟨a', b', get_set h, e3, e4, e5⟩, by simp, fun j hj => List.getElem?_set_ne (Ne.symm hj)⟩
theorem pool_new {S : List O} {a b : Int} (h1 : 0 ≤ a) (h2 : 0 ≤ b) (h3 : b < 2 ^ 31) : Pool (S ++ [.lst [.int a, .int b]]) S.length := ⟨a, b, by simp, h1, h2, h3⟩
theorem I_succ (G : Gt) {ds : List (Option Fd)} {d : Nat} {fd : Fd} (h : ds[d]? = some (some fd)) (k : Nat) (as : List A) (S : List O) : I G ds (k + 1) d as S = runF G (I G ds k) fd as S := by simp only [I, h]
theorem denS_for (G : Gt) (cal : Cal) (t : T) (kk : IK) (src : List E) (b : List Sm) (τ : Tau) (S : List O) : denS G cal (.forr t kk src b) τ S = (iD G cal kk src τ S).go τ fun xg S1 => forD xg.2 (fun a τ => T.asg t a τ) (fun τ S => denSs G cal b τ S) xg.1 τ S1 := by
  show ((dens G cal src τ S).go τ fun vs S1 => _) = _
  unfold iD
  cases dens G cal src τ S with
  | ok vs S1 =>
    simp only [R.go_ok, R.bind_ok]
    cases srcO kk vs S1 with
    | none => rfl
    | some xg => rfl
  | ex c fs S1 => rfl
  | no => rfl
/-! ### loops -/
theorem forD_inv {g : Gd} {asg : A → Tau → Option Tau} {body : Tau → List O → SR} (P : Nat → Tau → List O → Prop) : ∀ (xs : List A) (j : Nat) (τ : Tau) (S : List O), P j τ S →
    (∀ i x τ S, xs[i]? = some x → P (j + i) τ S → g.ok S ∧ ∃ τ1, asg x τ = some τ1 ∧ ∃ τ2 S2, (body τ1 S = .nx τ2 S2 ∨ body τ1 S = .ct τ2 S2) ∧ P (j + i + 1) τ2 S2) → (∀ τ S, P (j + xs.length) τ S → g.ok S) →
    ∃ τ' S', forD g asg body xs τ S = .nx τ' S' ∧ P (j + xs.length) τ' S'
  | [], j, τ, S, h0, _, he => ⟨τ, S, by simp only [forD]; rw [if_pos (he τ S h0)], h0⟩
  | x :: xs, j, τ, S, h0, hs, he => by
    obtain ⟨gk, τ1, e1, τ2, S2, e2, h2⟩ := hs 0 x τ S rfl h0
    have q1 : ∀ i, j + 1 + i = j + (i + 1) := fun i => by omega
    have q2 : j + 1 + xs.length = j + (x :: xs).length := by simp; omega
    obtain ⟨τ', S', e3, h3⟩ := forD_inv P xs (j + 1) τ2 S2 h2 (fun i y τ S hy hp => by
      rw [q1] at hp
      have := hs (i + 1) y τ S (by simpa using hy) hp
      rw [← q1] at this; exact this) (fun τ S hp => he τ S (by rw [← q2]; exact hp))
    refine ⟨τ', S', ?_, by rw [← q2]; exact h3⟩
    simp only [forD]
    rw [if_pos gk, e1]
    rcases e2 with e2 | e2
    · simp only [e2]; exact e3
    · simp only [e2]; exact e3
/-- a comprehension whose parts change nothing -/
theorem lcD_pure {g : Gd} {asg : A → Tau → Option Tau} {cond : Tau → List O → R Bool} {elt : Tau → List O → R A} {τ : Tau} {S : List O} (gk : g.ok S) (p : A → Bool) (f : A → A) : ∀ (xs : List A) (acc : List A),
    (∀ x ∈ xs, ∃ τ1, asg x τ = some τ1 ∧ cond τ1 S = .ok (p x) S ∧ (p x = true → elt τ1 S = .ok (f x) S)) → lcD g asg cond elt τ acc xs S = .ok (acc ++ (xs.filter p).map f) S
  | [], acc, _ => by simp only [lcD]; rw [if_pos gk]; simp
  | x :: xs, acc, h => by
    obtain ⟨τ1, e1, e2, e3⟩ := h x List.mem_cons_self
    have ih := lcD_pure (asg := asg) (cond := cond) (elt := elt) (τ := τ) gk p f xs
    have h' := fun y hy => h y (List.mem_cons_of_mem _ hy)
    simp only [lcD]
    rw [if_pos gk, e1]
    simp only [e2]
    cases hp : p x with
    | true =>
      simp only [e3 hp]
      rw [ih _ h']
      simp [hp]
    | false =>
      simp only
      rw [ih _ h']
      simp [hp]
/-- the same over a list that is made from another -/
theorem lcD_made {α : Type} {g : Gd} {asg : A → Tau → Option Tau} {cond : Tau → List O → R Bool} {elt : Tau → List O → R A} {τ : Tau} {S : List O} (gk : g.ok S) (m : α → A) (p : α → Bool) (f : α → A) : ∀ (xs : List α) (acc : List A),
    (∀ x ∈ xs, ∃ τ1, asg (m x) τ = some τ1 ∧ cond τ1 S = .ok (p x) S ∧ (p x = true → elt τ1 S = .ok (f x) S)) → lcD g asg cond elt τ acc (xs.map m) S = .ok (acc ++ (xs.filter p).map f) S
  | [], acc, _ => by simp only [lcD, List.map_nil]; rw [if_pos gk]; simp
  | x :: xs, acc, h => by
    obtain ⟨τ1, e1, e2, e3⟩ := h x List.mem_cons_self
    have ih := lcD_made (asg := asg) (cond := cond) (elt := elt) (τ := τ) gk m p f xs
    have h' := fun y hy => h y (List.mem_cons_of_mem _ hy)
    simp only [lcD, List.map_cons]
    rw [if_pos gk, e1]
    simp only [e2]
    cases hp : p x with
    | true =>
      simp only [e3 hp]
      rw [ih _ h']
      simp [hp]
    | false =>
      simp only
      rw [ih _ h']
      simp [hp]
theorem filt_true {α : Type} (l : List α) : l.filter (fun _ => true) = l := List.filter_eq_self.mpr fun _ _ => rfl
theorem gd_nil (S : List O) : Gd.ok [] S := fun p hp => by cases hp
theorem any_sign (l : List Nat) (c : Nat) : (l.map fun c => A.str [c]).any (fun z => z.eqv (.str [c])) = decide (c ∈ l) := by
  induction l with
  | nil => simp
  | cons a l ih =>
    rw [List.map_cons, List.any_cons, ih]
    by_cases h : a = c
    · subst h; simp [A.eqv]
    · simp [A.eqv, h, Ne.symm h]
theorem pures_sign (l : List Nat) : A.pures (l.map fun c => A.str [c]) = true := by
  induction l with
  | nil => rfl
  | cons a l ih => simp [A.pures, A.pure, ih]
theorem pures_str : ∀ (l : List Nat), A.pures (l.map fun c => A.str [c]) = true := pures_sign
theorem depths_sign (l : List Nat) : A.depths (l.map fun c => A.str [c]) = 0 := by
  induction l with
  | nil => rfl
  | cons a l ih => simp [A.depths, A.depth, ih]
theorem bools_map (l : List Bool) : boolsO (l.map A.bl) = some l := by
  induction l with
  | nil => rfl
  | cons a l ih => simp [boolsO, ih]
theorem den_bi (G : Gt) (cal : Cal) (b : Bi) (es : List E) (τ : Tau) (S : List O) : den G cal (.bi b es) τ S = (dens G cal es τ S).bind fun xs S1 => biO b xs S1 := rfl
theorem dens_cons (G : Gt) (cal : Cal) (e : E) (es : List E) (τ : Tau) (S : List O) : dens G cal (e :: es) τ S = (den G cal e τ S).bind fun x S1 => (dens G cal es τ S1).bind fun xs S2 => .ok (x :: xs) S2 := rfl
section
variable {G : Gt} {cal : Cal} {τ : Tau} {S S1 S2 : List O} {x y : A} {k : Bool}
theorem bi2 {a b : E} {f : Bi} (ha : den G cal a τ S = .ok x S1) (hb : den G cal b τ S1 = .ok y S2) : den G cal (.bi f [a, b]) τ S = biO f [x, y] S2 := by
  rw [den_bi, dens_cons, ha, R.bind_ok, dens_cons, hb]; rfl
theorem cmp2 {op : CmpOp} {a b : E} (ha : den G cal a τ S = .ok x S1) (hb : den G cal b τ S1 = .ok y S2) (h : cmpO op x y S2 = some k) : den G cal (.cmp op a b) τ S = .ok (.bl k) S2 := by
  show ((den G cal a τ S).bind fun x S1 => (den G cal b τ S1).bind fun y S2 => R.of ((cmpO op x y S2).map A.bl) S2) = _
  rw [ha, R.bind_ok, hb, R.bind_ok, h]; rfl
theorem tst1 {e : E} (he : den G cal e τ S = .ok x S1) (h : truO S1 x = some k) : tst G cal e τ S = .ok k S1 := by
  show ((den G cal e τ S).bind fun x S1 => R.of (truO S1 x) S1) = _
  rw [he, R.bind_ok, h]; rfl
theorem ifsF {c : E} {a b : List Sm} (h : tst G cal c τ S = .ok false S1) : denS G cal (.ifs c a b) τ S = denSs G cal b τ S1 := by
  show (tst G cal c τ S).go τ _ = _
  rw [h]; rfl
theorem ifsT {c : E} {a b : List Sm} (h : tst G cal c τ S = .ok true S1) : denS G cal (.ifs c a b) τ S = denSs G cal a τ S1 := by
  show (tst G cal c τ S).go τ _ = _
  rw [h]; rfl
theorem orF {a b : E} (ha : den G cal a τ S = .ok x S1) (h : truO S1 x = some false) : den G cal (.or_ a b) τ S = den G cal b τ S1 := by
  show ((den G cal a τ S).bind _) = _
  rw [ha, R.bind_ok, h]
theorem orT {a b : E} (ha : den G cal a τ S = .ok x S1) (h : truO S1 x = some true) : den G cal (.or_ a b) τ S = .ok x S1 := by
  show ((den G cal a τ S).bind _) = _
  rw [ha, R.bind_ok, h]
theorem andT {a b : E} (ha : den G cal a τ S = .ok x S1) (h : truO S1 x = some true) : den G cal (.and_ a b) τ S = den G cal b τ S1 := by
  show ((den G cal a τ S).bind _) = _
  rw [ha, R.bind_ok, h]
theorem andF {a b : E} (ha : den G cal a τ S = .ok x S1) (h : truO S1 x = some false) : den G cal (.and_ a b) τ S = .ok x S1 := by
  show ((den G cal a τ S).bind _) = _
  rw [ha, R.bind_ok, h]
theorem not1 {a : E} (ha : den G cal a τ S = .ok x S1) (h : truO S1 x = some k) : den G cal (.no_ a) τ S = .ok (.bl (!k)) S1 := by
  show ((den G cal a τ S).bind _) = _
  rw [ha, R.bind_ok, h]; rfl
end
theorem rngA_at {n i : Nat} {a : A} (h : (rngA 0 n)[i]? = some a) : i < n ∧ a = .int (i : Int) := by
  obtain ⟨h1, h2⟩ := rngA_get _ _ _ _ h
  exact ⟨h1, by rw [h2, Int.zero_add]⟩
theorem srcO_rng {n : Nat} (h : n ≤ 1000000) (S : List O) : srcO .rng [.int (n : Int)] S = some (rngA 0 n, []) := by
  simp only [srcO]
  rw [if_pos (by omega)]; simp
theorem iD_rng {G : Gt} {cal : Cal} {e : E} {τ : Tau} {S S1 : List O} {n : Nat} (he : den G cal e τ S = .ok (.int (n : Int)) S1) (h : n ≤ 1000000) : iD G cal .rng [e] τ S = .ok (rngA 0 n, []) S1 := by
  rw [iD_one, he, R.bind_ok, srcO_rng h]; rfl
/-- range(max(1, min(c, len(script)))) -/
theorem rng_script (G : Gt) (cal : Cal) (ns : List Int) (c : Nat) (hc : c ≤ 1000) (τ : Tau) (S : List O) : iD G cal .rng [.bi .max [.cI 1, .bi .min [.cI c, .bi .len [.nm 0]]]] (some (.scr (ns.map .int)) :: τ) S = .ok (rngA 0 (max 1 (min c ns.length)), []) S := by
  have d1 : den G cal (.bi .len [.nm 0]) (some (.scr (ns.map .int)) :: τ) S = .ok (.int (ns.length : Int)) S := by simp [den, dens, biO, lenO, seqO]
  have d2 : den G cal (.bi .min [.cI c, .bi .len [.nm 0]]) (some (.scr (ns.map .int)) :: τ) S = .ok (.int (if (ns.length : Int) < c then (ns.length : Int) else c)) S := (bi2 (a := .cI c) rfl d1).trans rfl
  have hm : (if (if (ns.length : Int) < c then (ns.length : Int) else c) > 1 then (if (ns.length : Int) < c then (ns.length : Int) else c) else 1) = ((max 1 (min c ns.length) : Nat) : Int) := by split <;> split <;> omega
  have d3 : den G cal (.bi .max [.cI 1, .bi .min [.cI c, .bi .len [.nm 0]]]) (some (.scr (ns.map .int)) :: τ) S = .ok (.int ((max 1 (min c ns.length) : Nat) : Int)) S := by rw [← hm]; exact (bi2 (a := .cI 1) rfl d2).trans rfl
  exact iD_rng d3 (by omega)
/-- range(max(1, min(len(script), c))) -/
theorem rng_script' (G : Gt) (cal : Cal) (ns : List Int) (c : Nat) (hc : c ≤ 1000) (τ : Tau) (S : List O) : iD G cal .rng [.bi .max [.cI 1, .bi .min [.bi .len [.nm 0], .cI c]]] (some (.scr (ns.map .int)) :: τ) S = .ok (rngA 0 (max 1 (min c ns.length)), []) S := by
  have d1 : den G cal (.bi .len [.nm 0]) (some (.scr (ns.map .int)) :: τ) S = .ok (.int (ns.length : Int)) S := by simp [den, dens, biO, lenO, seqO]
  have d2 : den G cal (.bi .min [.bi .len [.nm 0], .cI c]) (some (.scr (ns.map .int)) :: τ) S = .ok (.int (if (c : Int) < (ns.length : Int) then (c : Int) else (ns.length : Int))) S := (bi2 (b := .cI c) d1 rfl).trans rfl
  have hm : (if (if (c : Int) < (ns.length : Int) then (c : Int) else (ns.length : Int)) > 1 then (if (c : Int) < (ns.length : Int) then (c : Int) else (ns.length : Int)) else 1) = ((max 1 (min c ns.length) : Nat) : Int) := by split <;> split <;> omega
  have d3 : den G cal (.bi .max [.cI 1, .bi .min [.bi .len [.nm 0], .cI c]]) (some (.scr (ns.map .int)) :: τ) S = .ok (.int ((max 1 (min c ns.length) : Nat) : Int)) S := by rw [← hm]; exact (bi2 (a := .cI 1) rfl d2).trans rfl
  exact iD_rng d3 (by omega)
end Lt
/-! dicts of the module, told by the head -/
namespace Lt
open PySem L2
def strB (l : List Nat) : Bool := decide (l.length ≤ 100000) && l.all fun c => decide (c < 0x110000)
def valB : A → Value → Bool
  | .str y, .str z _ => decide (z = mkS y) && strB y
  | _, _ => false
def entB : List DictEntry → List (List Nat × A) → Bool
  | [], [] => true
  | e :: es, (k, a) :: r => (match e.key with | .str s _ => decide (s = mkS k) | _ => false) && valB a e.val && entB es r
  | _, _ => false
def tabB (kvs : List (List Nat × A)) (K : PySem.W.Frag) (d : Addr) : Bool := match K.lookup d with
  | some ⟨_, _, .dict es _, _⟩ => entB es.toList kvs
  | _ => false
theorem valB_ok {a : A} {u : Value} (h : valB a u = true) : ∃ v, RelV v u ∧ ∀ (K : PySem.W.Frag) (wd : Wd), RelA K wd a v := by
  unfold valB at h
  split at h
  · rename_i y z t
    simp only [strB, Bool.and_eq_true, decide_eq_true_eq, List.all_eq_true] at h
    obtain ⟨rfl, h1, h2⟩ := h
    exact ⟨.str (mkS y), ⟨t, rfl⟩, fun K wd => str_rel ⟨Nat.le_trans h1 small_list, h2⟩⟩
  · cases h
theorem ent_none : ∀ {es : List DictEntry} {kvs : List (List Nat × A)}, entB es kvs = true → (es.any (·.refKey)) = false ∧
    ∀ z : List Nat, (kvs.lookup z = none → es.find? (fun e => e.key.isStr (mkS z)) = none) ∧ ∀ a, kvs.lookup z = some a → ∃ e, es.find? (fun e => e.key.isStr (mkS z)) = some e ∧ valB a e.val = true
  | [], [], _ => ⟨rfl, fun z => ⟨fun _ => rfl, fun a h => by cases h⟩⟩
  | [], _ :: _, h => by simp [entB] at h
  | _ :: _, [], h => by simp [entB] at h
  | e :: es, (k, a) :: r, h => by
    simp only [entB, Bool.and_eq_true] at h
    obtain ⟨⟨h1, h2⟩, h3⟩ := h
    obtain ⟨i1, i2⟩ := ent_none h3
    cases hk : e.key <;> rw [hk] at h1 <;> first | (cases h1; done) | skip
    rename_i s t
    have hs : s = mkS k := of_decide_eq_true h1
    have hi : ∀ z : List Nat, e.key.isStr (mkS z) = decide (z = k) := fun z => by
      rw [hk, hs]
      show (mkS k == mkS z) = decide (z = k)
      by_cases c : z = k
      · subst c; simp
      · rw [decide_eq_false c]
        exact beq_eq_false_iff_ne.mpr fun e => c (mkS_inj e).symm
    refine ⟨?_, fun z => ?_⟩
    · rw [List.any_cons, i1]
      have : e.refKey = false := by unfold DictEntry.refKey; rw [hk]
      rw [this]; rfl
    · rw [List.lookup_cons, List.find?_cons, hi z]
      by_cases c : z = k
      · subst c
        simp only [beq_self_eq_true, decide_true]
        exact ⟨fun h => (by cases h), fun b h => by cases h; exact ⟨e, rfl, h2⟩⟩
      · have c2 : (z == k) = false := beq_eq_false_iff_ne.mpr c
        simp only [c2, decide_eq_false c]
        exact i2 z
theorem tab_ok {K : PySem.W.Frag} {w : World} {d : Addr} {kvs : List (List Nat × A)} (h : tabB kvs K d = true) (hk : ∃ es n, KDict K w d es n) : TabOk K w d kvs := by
  have key : ∀ z, PySem.W.nsIn K d (mkS z) = (match K.lookup d with
    | some ⟨_, _, .dict es _, _⟩ => (match es.toList.find? (·.key.isStr (mkS z)) with
      | some e => some (some e.val)
      | none => if es.toList.any (·.refKey) then none else some none)
    | _ => none) := fun z => rfl
  unfold tabB at h
  split at h
  · rename_i es n x e
    obtain ⟨h1, h2⟩ := ent_none h
    refine ⟨hk, fun z hz => ?_, fun z a hz => ?_⟩
    · rw [key, e]
      simp only [(h2 z).1 hz, h1]; rfl
    · obtain ⟨en, g1, g2⟩ := (h2 z).2 a hz
      obtain ⟨v, r, q⟩ := valB_ok g2
      refine ⟨en.val, v, ?_, r, fun wd => q K wd⟩
      rw [key, e]
      simp only [g1]
  · cases h
/-- a world, one of its ways told -/
def setFT (w : World) (b : Bool) : World := ⟨w.draws, { w.params with followText := fun s => match decide (s = "special-get-raises") with | true => b | false => w.params.followText s }⟩
theorem setFT_eq (w : World) : w = setFT w (w.params.followText "special-get-raises") := by
  obtain ⟨d, p⟩ := w
  unfold setFT
  have e : p.followText = fun s => match decide (s = "special-get-raises") with | true => p.followText "special-get-raises" | false => p.followText s := by
    funext s
    by_cases h : s = "special-get-raises"
    · subst h; simp
    · rw [decide_eq_false h]
  obtain ⟨⟩ := p
  simp only at e ⊢
  rw [← e]
/-- the head's tables -/
def tsOf (tabs : List (Str × List (List Nat × A))) : List He.Tab := tabs.map fun t => ((fun K => He.ga K t.1), t.2.map fun p => mkS p.1)
def exOf (tabs : List (Str × List (List Nat × A))) (K : PySem.W.Frag) : Bool := tabs.all fun t => tabB t.2 K (He.ga K t.1)
theorem tabs_ok {K : PySem.W.Frag} {wo : World} {h hp : Heap} {mg : Str → Option Value} {G : Gt} {fa : List He.Fa} {fn : List He.DefD} (X : K.In hp) (Gn : hp.Ns mainGlobals mg) (c : He.SaysX fa fn (tsOf G.tabs) [] (exOf G.tabs) wo h K) (hg : ∀ t ∈ G.tabs, He.Fa.glo t.1 ∈ fa) :
    ∀ (x : Str) (kvs : List (List Nat × A)), G.tabs.lookup x = some kvs → mg x = some (.ref (He.ga K x)) ∧ TabOk K wo (He.ga K x) kvs := by
  intro x kvs e
  have hm := lookup_mem e
  refine ⟨He.glo_ok X Gn (c.t.d.facts (hg _ hm)), tab_ok (List.all_eq_true.mp c.more _ hm) ?_⟩
  obtain ⟨i, hi⟩ := List.getElem?_of_mem hm
  exact c.t.tab i (t := ((fun K => He.ga K x), kvs.map fun p => mkS p.1)) (by simp [tsOf, hi])
end Lt
/-! what an answer must be, read from behind -/
namespace Lt
open PySem L2
@[irreducible] def okk {α : Type} (r : R α) (P : α → List O → Prop) : Prop := ∃ a S, r = .ok a S ∧ P a S
@[irreducible] def oks (r : SR) (P : SR → Prop) : Prop := P r
/-- what follows a statement -/
def nxt (f : Tau → List O → Prop) (P : SR → Prop) : SR → Prop
  | .nx τ S => f τ S
  | r => P r
theorem okk.iff {α : Type} {r : R α} {P : α → List O → Prop} : okk r P ↔ ∃ a S, r = .ok a S ∧ P a S := by unfold okk; exact Iff.rfl
theorem oks.iff {r : SR} {P : SR → Prop} : oks r P ↔ P r := by unfold oks; exact Iff.rfl
theorem okk.of {α : Type} {r : R α} {a : α} {S : List O} {P : α → List O → Prop} (h : r = .ok a S) (k : P a S) : okk r P := okk.iff.mpr ⟨a, S, h, k⟩
theorem okk.ok {α : Type} {a : α} {S : List O} {P : α → List O → Prop} (k : P a S) : okk (.ok a S) P := okk.iff.mpr ⟨a, S, rfl, k⟩
theorem okk.imp {α : Type} {r : R α} {P Q : α → List O → Prop} (h : okk r P) (k : ∀ a S, P a S → Q a S) : okk r Q := by
  obtain ⟨a, S, e, p⟩ := okk.iff.mp h
  exact .of e (k a S p)
theorem okk.bind {α β : Type} {r : R α} {f : α → List O → R β} {P : β → List O → Prop} (h : okk r fun a S => okk (f a S) P) : okk (r.bind f) P := by
  obtain ⟨a, S, e, h⟩ := okk.iff.mp h
  obtain ⟨b, S1, e1, p⟩ := okk.iff.mp h
  exact .of (a := b) (S := S1) (by rw [e]; exact e1) p
theorem okk.rof {α : Type} {o : Option α} {a : α} {S : List O} {P : α → List O → Prop} (h : o = some a) (k : P a S) : okk (R.of o S) P := .of (a := a) (S := S) (by rw [h]; rfl) k
theorem okk.go {α : Type} {r : R α} {τ : Tau} {f : α → List O → SR} {P : SR → Prop} (h : okk r fun a S => oks (f a S) P) : oks (r.go τ f) P := by
  obtain ⟨a, S, e, p⟩ := okk.iff.mp h
  rw [e]; exact p
section
variable {G : Gt} {cal : Cal} {τ : Tau} {S : List O} {P : A → List O → Prop} {B : Bool → List O → Prop} {L : List A → List O → Prop} {Z : SR → Prop}
theorem w_nm {i : Nat} {a : A} (h : τ[i]? = some (some a)) (k : P a S) : okk (den G cal (.nm i) τ S) P := .of (a := a) (S := S) (by simp only [den, h]) k
theorem w_cN (k : P .non S) : okk (den G cal .cN τ S) P := .ok k
theorem w_cB {b : Bool} (k : P (.bl b) S) : okk (den G cal (.cB b) τ S) P := .ok k
theorem w_cI {i : Int} (k : P (.int i) S) : okk (den G cal (.cI i) τ S) P := .ok k
theorem w_cS {x : List Nat} (k : P (.str x) S) : okk (den G cal (.cS x) τ S) P := .ok k
theorem w_gl {x : Str} {a : A} (h : G.consts.lookup x = some a) (k : P a S) : okk (den G cal (.gl x) τ S) P := .rof h k
theorem w_bin {op : Operator} {fl : Bool} {a b : E} (h : okk (den G cal a τ S) fun x S1 => okk (den G cal b τ S1) fun y S2 => okk (binO op fl x y S2) P) : okk (den G cal (.bin op fl a b) τ S) P := .bind (h.imp fun _ _ q => .bind q)
theorem w_neg {a : E} (h : okk (den G cal a τ S) fun x S1 => ∃ i, x = .int i ∧ P (.int (-i)) S1) : okk (den G cal (.neg a) τ S) P := .bind (h.imp fun x S1 ⟨i, e, q⟩ => by subst e; exact .ok q)
theorem w_no {a : E} (h : okk (tst G cal a τ S) fun b S1 => P (.bl (!b)) S1) : okk (den G cal (.no_ a) τ S) P := by
  obtain ⟨b, S1, e, q⟩ := okk.iff.mp h
  refine .of (S := S1) ?_ q
  have e : (den G cal a τ S).bind (fun x S1 => R.of (truO S1 x) S1) = .ok b S1 := e
  show (den G cal a τ S).bind (fun x S1 => R.of ((truO S1 x).map fun k => A.bl (!k)) S1) = _
  cases hd : den G cal a τ S with
  | ok x S2 =>
    rw [hd, R.bind_ok] at e
    rw [R.bind_ok]
    cases ht : truO S2 x with
    | none => rw [ht] at e; cases e
    | some c => rw [ht] at e; cases e; rfl
  | ex c fs S => rw [hd] at e; cases e
  | no => rw [hd] at e; cases e
theorem w_cmp {op : CmpOp} {a b : E} (h : okk (den G cal a τ S) fun x S1 => okk (den G cal b τ S1) fun y S2 => ∃ c, cmpO op x y S2 = some c ∧ P (.bl c) S2) : okk (den G cal (.cmp op a b) τ S) P :=
  .bind (h.imp fun x S1 q => .bind (q.imp fun y S2 ⟨c, e, q⟩ => .rof (a := .bl c) (by rw [e]; rfl) q))
theorem w_tup {es : List E} (h : okk (dens G cal es τ S) fun xs S1 => P (.tup xs) S1) : okk (den G cal (.tup es) τ S) P := .bind (h.imp fun _ _ q => .ok q)
theorem w_lst {es : List E} (h : okk (dens G cal es τ S) fun xs S1 => P (.lst xs) S1) : okk (den G cal (.lst false es) τ S) P := .bind (h.imp fun _ _ q => .ok q)
theorem w_lstT {es : List E} (h : okk (dens G cal es τ S) fun xs S1 => P (.ref S1.length) (S1 ++ [.lst xs])) : okk (den G cal (.lst true es) τ S) P := .bind (h.imp fun _ _ q => .ok q)
theorem w_dic0 {t : Bool} (k : P (.ref S.length) (S ++ [.dic t []])) : okk (den G cal (.dic t [] []) τ S) P := .ok k
theorem w_call {d : Nat} {es : List E} (h : okk (dens G cal es τ S) fun xs S1 => okk (cal d xs S1) P) : okk (den G cal (.call d es) τ S) P := .bind h
theorem w_bi {b : Bi} {es : List E} (h : okk (dens G cal es τ S) fun xs S1 => okk (biO b xs S1) P) : okk (den G cal (.bi b es) τ S) P := .bind h
theorem w_idx {a b : E} (h : okk (den G cal a τ S) fun x S1 => okk (den G cal b τ S1) fun y S2 => ∃ v, idxO S2 x y = some v ∧ P v S2) : okk (den G cal (.idx a b) τ S) P :=
  .bind (h.imp fun x S1 q => .bind (q.imp fun y S2 ⟨v, e, q⟩ => .rof e q))
theorem w_bm {m : Bm} {o : E} {es : List E} (h : okk (den G cal o τ S) fun x S1 => bmFit m S1 x = true ∧ okk (dens G cal es τ S1) fun xs S2 => okk (bmO m x xs S2) P) : okk (den G cal (.bm m o es) τ S) P :=
  .bind (h.imp fun x S1 ⟨e, q⟩ => by rw [if_pos e]; exact .bind q)
theorem w_isi {e : E} {t : Ty} (h : okk (den G cal e τ S) fun x S1 => ∃ c, tyO G.clss.length S1 x t = some c ∧ P (.bl c) S1) : okk (den G cal (.isi e t) τ S) P :=
  .bind (h.imp fun x S1 ⟨c, e, q⟩ => .rof (a := .bl c) (by rw [e]; rfl) q)
theorem w_frz {e : E} (h : okk (den G cal e τ S) fun x S1 => ∃ n xs, x = .ref n ∧ S1[n]? = some (.lst xs) ∧ P (.lst xs) (S1.set n .dead)) : okk (den G cal (.frz e) τ S) P :=
  .bind (h.imp fun x S1 ⟨n, xs, e, e1, q⟩ => by subst e; exact .of (by simp only [e1]) q)
theorem w_ifx {t a b : E} (h : okk (tst G cal t τ S) fun c S1 => (c = true → okk (den G cal a τ S1) P) ∧ (c = false → okk (den G cal b τ S1) P)) : okk (den G cal (.ifx t a b) τ S) P := by
  rw [den_ifx]
  refine .bind (h.imp fun c S1 q => ?_)
  cases c with
  | true => exact q.1 rfl
  | false => exact q.2 rfl
theorem w_nil (k : L [] S) : okk (dens G cal [] τ S) L := .ok k
theorem w_cons {e : E} {es : List E} (h : okk (den G cal e τ S) fun x S1 => okk (dens G cal es τ S1) fun xs S2 => L (x :: xs) S2) : okk (dens G cal (e :: es) τ S) L := .bind (h.imp fun _ _ q => .bind (q.imp fun _ _ z => .ok z))
theorem t_of {e : E} (h : okk (den G cal e τ S) fun x S1 => ∃ c, truO S1 x = some c ∧ B c S1) : okk (tst G cal e τ S) B := .bind (h.imp fun x S1 ⟨c, e, q⟩ => .rof e q)
theorem t_cmp {op : CmpOp} {a b : E} (h : okk (den G cal a τ S) fun x S1 => okk (den G cal b τ S1) fun y S2 => ∃ c, cmpO op x y S2 = some c ∧ B c S2) : okk (tst G cal (.cmp op a b) τ S) B :=
  t_of (w_cmp (h.imp fun _ _ q => q.imp fun _ _ ⟨c, e, z⟩ => ⟨c, e, c, rfl, z⟩))
theorem t_and {a b : E} (h : okk (tst G cal a τ S) fun c S1 => (c = true → okk (tst G cal b τ S1) B) ∧ (c = false → B false S1)) : okk (tst G cal (.and_ a b) τ S) B := by
  rw [tst_and]
  refine .bind (h.imp fun c S1 q => ?_)
  cases c with
  | true => exact q.1 rfl
  | false => exact .ok (q.2 rfl)
theorem t_or {a b : E} (h : okk (tst G cal a τ S) fun c S1 => (c = true → B true S1) ∧ (c = false → okk (tst G cal b τ S1) B)) : okk (tst G cal (.or_ a b) τ S) B := by
  rw [tst_or]
  refine .bind (h.imp fun c S1 q => ?_)
  cases c with
  | true => exact .ok (q.1 rfl)
  | false => exact q.2 rfl
theorem t_not {a : E} (h : okk (tst G cal a τ S) fun c S1 => B (!c) S1) : okk (tst G cal (.no_ a) τ S) B := by
  rw [tst_not]
  exact .bind (h.imp fun c S1 q => .ok q)
/-! ### statements -/
theorem s_nil (k : Z (.nx τ S)) : oks (denSs G cal [] τ S) Z := oks.iff.mpr k
theorem s_cons {s : Sm} {ss : List Sm} (h : oks (denS G cal s τ S) (nxt (fun τ1 S1 => oks (denSs G cal ss τ1 S1) Z) Z)) : oks (denSs G cal (s :: ss) τ S) Z := by
  refine oks.iff.mpr ?_
  show Z ((denS G cal s τ S).seq fun τ1 S1 => denSs G cal ss τ1 S1)
  have h : nxt (fun τ1 S1 => oks (denSs G cal ss τ1 S1) Z) Z (denS G cal s τ S) := oks.iff.mp h
  cases hd : denS G cal s τ S with
  | nx τ1 S1 => rw [hd] at h; exact oks.iff.mp h
  | _ => rw [hd] at h; exact h
theorem s_asg {t : T} {e : E} (h : okk (den G cal e τ S) fun a S1 => ∃ τ1, T.asg t a τ = some τ1 ∧ Z (.nx τ1 S1)) : oks (denS G cal (.asg (.t t) e) τ S) Z :=
  okk.go (h.imp fun a S1 ⟨τ1, e, q⟩ => oks.iff.mpr (by show Z _; rw [e]; exact q))
theorem s_sub {o i e : E} (h : okk (den G cal e τ S) fun a S1 => okk (den G cal o τ S1) fun x S2 => okk (den G cal i τ S2) fun y S3 => ∃ S4, setO x y a S3 = some S4 ∧ Z (.nx τ S4)) : oks (denS G cal (.asg (.sub o i) e) τ S) Z :=
  okk.go (h.imp fun a S1 q => okk.go (q.imp fun x S2 q => okk.go (q.imp fun y S3 ⟨S4, e, q⟩ => oks.iff.mpr (by show Z _; rw [e]; exact q))))
theorem s_ex {e : E} (h : okk (den G cal e τ S) fun _ S1 => Z (.nx τ S1)) : oks (denS G cal (.ex e) τ S) Z := okk.go (h.imp fun _ _ q => oks.iff.mpr q)
theorem s_ret {e : E} (h : okk (den G cal e τ S) fun a S1 => Z (.rt a S1)) : oks (denS G cal (.ret e) τ S) Z := okk.go (h.imp fun _ _ q => oks.iff.mpr q)
theorem s_ifs {c : E} {a b : List Sm} (h : okk (tst G cal c τ S) fun k S1 => (k = true → oks (denSs G cal a τ S1) Z) ∧ (k = false → oks (denSs G cal b τ S1) Z)) : oks (denS G cal (.ifs c a b) τ S) Z :=
  okk.go (h.imp fun k S1 q => by
    cases k with
    | true => exact q.1 rfl
    | false => exact q.2 rfl)
/-- what a turn of a loop must end by -/
def turn (inv : Tau → List O → Prop) (Z : SR → Prop) : SR → Prop
  | .nx τ S => inv τ S
  | .ct τ S => inv τ S
  | .bk τ S => Z (.nx τ S)
  | .rt a S => Z (.rt a S)
  | _ => False
theorem forD_ok {g : Gd} {asg : A → Tau → Option Tau} {body : Tau → List O → SR} (inv : Nat → Tau → List O → Prop) : ∀ (xs : List A) (j : Nat) (τ : Tau) (S : List O), inv j τ S →
    (∀ i x τ S, xs[i]? = some x → inv (j + i) τ S → g.ok S ∧ ∃ τ1, asg x τ = some τ1 ∧ oks (body τ1 S) (turn (inv (j + i + 1)) Z)) → (∀ τ S, inv (j + xs.length) τ S → g.ok S ∧ Z (.nx τ S)) → oks (forD g asg body xs τ S) Z
  | [], j, τ, S, h0, _, he => by
    obtain ⟨a, b⟩ := he τ S h0
    refine oks.iff.mpr ?_
    simp only [forD]; rw [if_pos a]; exact b
  | x :: xs, j, τ, S, h0, hs, he => by
    obtain ⟨gk, τ1, e1, e2⟩ := hs 0 x τ S rfl h0
    have q1 : ∀ i, j + 1 + i = j + (i + 1) := fun i => by omega
    have q2 : j + 1 + xs.length = j + (x :: xs).length := by simp; omega
    have e2 : turn (inv (j + 0 + 1)) Z (body τ1 S) := oks.iff.mp e2
    have ih := fun τ S (h : inv (j + 1) τ S) => forD_ok (g := g) (asg := asg) (body := body) inv xs (j + 1) τ S h (fun i y τ S hy hp => by
      rw [q1] at hp
      have := hs (i + 1) y τ S (by simpa using hy) hp
      rw [← q1] at this; exact this) (fun τ S hp => he τ S (by rw [← q2]; exact hp))
    refine oks.iff.mpr ?_
    simp only [forD]
    rw [if_pos gk, e1]
    dsimp only
    cases hb : body τ1 S with
    | nx τ2 S2 => rw [hb] at e2; exact oks.iff.mp (ih τ2 S2 e2)
    | ct τ2 S2 => rw [hb] at e2; exact oks.iff.mp (ih τ2 S2 e2)
    | bk τ2 S2 => rw [hb] at e2; exact e2
    | rt a S2 => rw [hb] at e2; exact e2
    | ex c fs τ2 S2 => rw [hb] at e2; exact e2.elim
    | no => rw [hb] at e2; exact e2.elim
theorem s_loop {t : T} {kk : IK} {src : List E} {b : List Sm} (inv : List A → Nat → Tau → List O → Prop) (h : okk (iD G cal kk src τ S) fun xg S1 => inv xg.1 0 τ S1 ∧
    (∀ i x τ S, xg.1[i]? = some x → inv xg.1 i τ S → xg.2.ok S ∧ ∃ τ1, T.asg t x τ = some τ1 ∧ oks (denSs G cal b τ1 S) (turn (inv xg.1 (i + 1)) Z)) ∧ (∀ τ S, inv xg.1 xg.1.length τ S → xg.2.ok S ∧ Z (.nx τ S))) : oks (denS G cal (.forr t kk src b) τ S) Z := by
  rw [denS_for]
  refine okk.go (h.imp ?_)
  rintro ⟨xs, g⟩ S1 ⟨h0, hs, he⟩
  refine forD_ok (inv xs) xs 0 _ S1 h0 (fun i x τ S hx hp => ?_) (fun τ S hp => ?_)
  · rw [Nat.zero_add] at hp ⊢; exact hs i x τ S hx hp
  · rw [Nat.zero_add] at hp; exact he τ S hp
theorem lcD_ok {g : Gd} {asg : A → Tau → Option Tau} {cond : Tau → List O → R Bool} {elt : Tau → List O → R A} {τ : Tau} (inv : Nat → List A → List O → Prop) : ∀ (xs : List A) (j : Nat) (acc : List A) (S : List O), inv j acc S →
    (∀ i x acc S, xs[i]? = some x → inv (j + i) acc S → g.ok S ∧ ∃ τ1, asg x τ = some τ1 ∧ okk (cond τ1 S) fun b S1 => (b = true → okk (elt τ1 S1) fun y S2 => inv (j + i + 1) (acc ++ [y]) S2) ∧ (b = false → inv (j + i + 1) acc S1)) →
    (∀ acc S, inv (j + xs.length) acc S → g.ok S ∧ L acc S) → okk (lcD g asg cond elt τ acc xs S) L
  | [], j, acc, S, h0, _, he => by
    obtain ⟨a, b⟩ := he acc S h0
    exact .of (a := acc) (S := S) (by simp only [lcD]; rw [if_pos a]) b
  | x :: xs, j, acc, S, h0, hs, he => by
    obtain ⟨gk, τ1, e1, hc⟩ := hs 0 x acc S rfl h0
    obtain ⟨b, S1, e2, hb⟩ := okk.iff.mp hc
    have q1 : ∀ i, j + 1 + i = j + (i + 1) := fun i => by omega
    have q2 : j + 1 + xs.length = j + (x :: xs).length := by simp; omega
    have ih := fun acc S (h : inv (j + 1) acc S) => lcD_ok (g := g) (asg := asg) (cond := cond) (elt := elt) (τ := τ) inv xs (j + 1) acc S h (fun i y acc S hy hp => by
      rw [q1] at hp
      have := hs (i + 1) y acc S (by simpa using hy) hp
      rw [← q1] at this; exact this) (fun acc S hp => he acc S (by rw [← q2]; exact hp))
    cases b with
    | true =>
      obtain ⟨y, S2, e3, h3⟩ := okk.iff.mp (hb.1 rfl)
      obtain ⟨a, S3, e4, h4⟩ := okk.iff.mp (ih _ _ h3)
      refine .of (a := a) (S := S3) ?_ h4
      simp only [lcD]; rw [if_pos gk, e1]; simp only [e2, e3]; exact e4
    | false =>
      obtain ⟨a, S3, e4, h4⟩ := okk.iff.mp (ih _ _ (hb.2 rfl))
      refine .of (a := a) (S := S3) ?_ h4
      simp only [lcD]; rw [if_pos gk, e1]; simp only [e2]; exact e4
theorem w_lc {fl : Bool} {elt : E} {t : T} {kk : IK} {src ifs : List E} {own : List (Str × Nat)} (inv : List A → Nat → List A → List O → Prop) (h : okk (iD G cal kk src τ S) fun xg S1 => xg.1.length ≤ sizeLine ∧ inv xg.1 0 [] S1 ∧
    (∀ i x acc S, xg.1[i]? = some x → inv xg.1 i acc S → xg.2.ok S ∧ ∃ τ1, T.asg t x (wipeT τ (own.map (·.2))) = some τ1 ∧ okk (condD G cal ifs τ1 S) fun b S1 => (b = true → okk (den G cal elt τ1 S1) fun y S2 => inv xg.1 (i + 1) (acc ++ [y]) S2) ∧ (b = false → inv xg.1 (i + 1) acc S1)) ∧
    (∀ acc S, inv xg.1 xg.1.length acc S → xg.2.ok S ∧ okk (mkL fl acc S) P)) : okk (den G cal (.lc fl elt t kk src ifs own) τ S) P := by
  rw [den_lc]
  refine .bind (h.imp ?_)
  rintro ⟨xs, g⟩ S1 ⟨hl, h0, hs, he⟩
  dsimp only at hl ⊢
  rw [if_pos hl]
  refine .bind (lcD_ok (inv xs) xs 0 [] S1 h0 (fun i x acc S hx hp => ?_) (fun acc S hp => ?_))
  · rw [Nat.zero_add] at hp ⊢; exact hs i x acc S hx hp
  · rw [Nat.zero_add] at hp; exact he acc S hp
theorem i_seq {e : E} {X : List A × Gd → List O → Prop} (h : okk (den G cal e τ S) fun a S1 => ∃ xs, seqO S1 a = some xs ∧ X (xs, gdA a xs) S1) : okk (iD G cal .seq [e] τ S) X := by
  rw [iD_one]
  refine .bind (h.imp fun a S1 ⟨xs, e, q⟩ => .rof ?_ q)
  simp only [srcO, e, Option.map_some]
theorem i_rng {e : E} {X : List A × Gd → List O → Prop} (h : okk (den G cal e τ S) fun a S1 => ∃ n : Nat, a = .int (n : Int) ∧ n ≤ 1000000 ∧ X (rngA 0 n, []) S1) : okk (iD G cal .rng [e] τ S) X := by
  rw [iD_one]
  refine .bind (h.imp fun a S1 ⟨n, e, hn, q⟩ => .rof ?_ q)
  subst e
  exact srcO_rng hn S1
theorem c_nil (k : B true S) : okk (condD G cal [] τ S) B := .ok k
theorem c_one {e : E} (h : okk (tst G cal e τ S) B) : okk (condD G cal [e] τ S) B := by
  rw [condD_one]; exact h
theorem run_ok {fd : Fd} {as : List A} (hl : as.length = fd.np) (h : oks (denSs G cal fd.body (as.map some ++ List.replicate (fd.nl - fd.np) none) S) fun r => match r with | .rt a S1 => P a S1 | .nx _ S1 => P .non S1 | _ => False) : okk (runF G cal fd as S) P := by
  have h : (fun r : SR => match r with | .rt a S1 => P a S1 | .nx _ S1 => P .non S1 | _ => False) (denSs G cal fd.body (as.map some ++ List.replicate (fd.nl - fd.np) none) S) := oks.iff.mp h
  unfold runF
  rw [if_pos hl]
  revert h
  cases denSs G cal fd.body (as.map some ++ List.replicate (fd.nl - fd.np) none) S with
  | rt a S1 => exact fun h => .ok h
  | nx τ S1 => exact fun h => .ok h
  | _ => exact fun h => h.elim
end
theorem beq_dec {α : Type} [BEq α] [LawfulBEq α] [DecidableEq α] (a b : α) : (a == b) = decide (a = b) := by
  by_cases h : a = b
  · subst h; simp
  · rw [decide_eq_false h]; exact beq_eq_false_iff_ne.mpr h
theorem eqO_int {a b : Int} {S : List O} : eqO S (.int a) (.int b) = some (decide (a = b)) := by
  rw [← beq_dec]
  simp only [eqO, fitsEq, der, A.pure, A.depth, A.eqv]; rfl
theorem eqO_str {a b : List Nat} {S : List O} : eqO S (.str a) (.str b) = some (decide (a = b)) := by
  rw [← beq_dec]
  simp only [eqO, fitsEq, der, A.pure, A.depth, A.eqv]; rfl
theorem eq_int {a b : Int} {S : List O} : cmpO .Eq (.int a) (.int b) S = some (decide (a = b)) := eqO_int
theorem eq_str {a b : List Nat} {S : List O} : cmpO .Eq (.str a) (.str b) S = some (decide (a = b)) := eqO_str
theorem ne_int {a b : Int} {S : List O} : cmpO .NotEq (.int a) (.int b) S = some (!decide (a = b)) := by
  simp only [cmpO, eqO_int, Option.map_some]
theorem ne_str {a b : List Nat} {S : List O} : cmpO .NotEq (.str a) (.str b) S = some (!decide (a = b)) := by
  simp only [cmpO, eqO_str, Option.map_some]
theorem w_dic {t : Bool} {k0 : E} {ks vs : List E} {G : Gt} {cal : Cal} {τ : Tau} {S : List O} {P : A → List O → Prop} (h : okk (dens G cal vs τ S) fun xs S1 => ∃ keys, keysC (k0 :: ks) = some keys ∧ keys.length ≤ 15 ∧ keys.length = xs.length ∧ P (.ref S1.length) (S1 ++ [.dic false (mergeO (keys.zip xs))])) : okk (den G cal (.dic t (k0 :: ks) vs) τ S) P :=
  .bind (h.imp fun xs S1 ⟨keys, e, h1, h2, q⟩ => by rw [e]; dsimp only; rw [if_pos ⟨h1, h2⟩]; exact .ok q)
theorem pool_app {S : List O} {n : Nat} (h : Pool S n) (T : List O) : Pool (S ++ T) n := by
  obtain ⟨a, b, h, h'⟩ := h
  exact ⟨a, b, by rw [List.getElem?_append_left (List.getElem?_eq_some_iff.mp h).1]; exact h, h'⟩
theorem ext_app (n : Nat) (S T : List O) : Ext n S (S ++ T) := ⟨by simp, fun j _ hl => List.getElem?_append_left hl⟩
theorem and_ff {X Y : Prop} (h : Y) : (false = true → X) ∧ (false = false → Y) := ⟨fun z => (by cases z), fun _ => h⟩
theorem and_tt {X Y : Prop} (h : X) : (true = true → X) ∧ (true = false → Y) := ⟨fun _ => h, fun z => (by cases z)⟩
theorem at_mem {α : Type} (l : List α) (d : Int) (h0 : 0 ≤ d) (h1 : d < l.length) : ∃ c, atI l d = some c ∧ c ∈ l := by
  unfold atI ixN
  rw [if_pos h0, if_pos h1]
  exact ⟨_, List.getElem?_eq_getElem (by omega : d.toNat < l.length), List.getElem_mem _⟩
/-- one of a list's -/
theorem pick {xs : List A} {d : Int} {S : List O} {Q : A → Prop} (h0 : 0 ≤ d) (h1 : d < xs.length) (h : ∀ v, v ∈ xs → Q v) : ∃ v, idxO S (.lst xs) (.int d) = some v ∧ Q v := by
  obtain ⟨c, e, m⟩ := at_mem xs d h0 h1
  exact ⟨c, by simpa [idxO, seqO] using e, h c m⟩
theorem w_nmE {i : Nat} {G : Gt} {cal : Cal} {τ : Tau} {S : List O} {P : A → List O → Prop} (h : ∃ a, τ[i]? = some (some a) ∧ P a S) : okk (den G cal (.nm i) τ S) P := by
  obtain ⟨a, e, q⟩ := h
  exact w_nm e q
theorem p_bi {b : Bi} {xs : List A} {S : List O} {P : A → List O → Prop} (h : ∃ a S', biO b xs S = .ok a S' ∧ P a S') : okk (biO b xs S) P := okk.iff.mpr h
theorem p_bin {op : Operator} {fl : Bool} {x y : A} {S : List O} {P : A → List O → Prop} (h : ∃ a S', binO op fl x y S = .ok a S' ∧ P a S') : okk (binO op fl x y S) P := okk.iff.mpr h
theorem p_bm {m : Bm} {x : A} {xs : List A} {S : List O} {P : A → List O → Prop} (h : ∃ a S', bmO m x xs S = .ok a S' ∧ P a S') : okk (bmO m x xs S) P := okk.iff.mpr h
theorem p_mk {fl : Bool} {xs : List A} {S : List O} {P : A → List O → Prop} (h : ∃ a S', mkL fl xs S = .ok a S' ∧ P a S') : okk (mkL fl xs S) P := okk.iff.mpr h
end Lt
namespace Lt
open PySem L2
section
variable {G : Gt} {cal : Cal} {τ : Tau} {S : List O} {Z : SR → Prop}
theorem whl_ok {c : Tau → List O → R Bool} {body : Tau → List O → SR} (inv : Nat → Tau → List O → Prop) (hs : ∀ r τ S, inv r τ S → okk (c τ S) fun b S1 => (b = true → ∃ r', r' < r ∧ oks (body τ S1) (turn (inv r') Z)) ∧ (b = false → Z (.nx τ S1))) :
    ∀ (n r : Nat) (τ : Tau) (S : List O), r < n → inv r τ S → oks (whlD c body n τ S) Z
  | 0, r, τ, S, h, _ => by omega
  | n + 1, r, τ, S, h, hi => by
    unfold whlD
    refine okk.go ((hs r τ S hi).imp fun b S1 q => ?_)
    cases b with
    | false => exact (by unfold oks; exact q.2 rfl)
    | true =>
      obtain ⟨r', hr, h2⟩ := q.1 rfl
      have ih := fun τ S (h : inv r' τ S) => whl_ok inv hs n r' τ S (by omega) h
      unfold oks at h2 ih ⊢
      rw [if_pos rfl]
      cases hb : body τ S1 with
      | nx τ2 S2 => rw [hb] at h2; exact ih τ2 S2 h2
      | ct τ2 S2 => rw [hb] at h2; exact ih τ2 S2 h2
      | bk τ2 S2 => rw [hb] at h2; exact h2
      | rt a S2 => rw [hb] at h2; exact h2
      | ex c fs τ2 S2 => rw [hb] at h2; exact h2.elim
      | no => rw [hb] at h2; exact h2.elim
theorem s_while {n : Nat} {c : E} {b : List Sm} (inv : Nat → Tau → List O → Prop) (r : Nat) (h : r < n) (h0 : inv r τ S) (hs : ∀ r τ S, inv r τ S → okk (tst G cal c τ S) fun k S1 => (k = true → ∃ r', r' < r ∧ oks (denSs G cal b τ S1) (turn (inv r') Z)) ∧ (k = false → Z (.nx τ S1))) : oks (denS G cal (.whl n c b) τ S) Z := whl_ok inv hs n r τ S h h0
end
end Lt
/-! more rules, read from behind -/
namespace Lt
open PySem L2
section
variable {G : Gt} {cal : Cal} {τ : Tau} {S : List O} {P : A → List O → Prop} {B : Bool → List O → Prop} {L : List A → List O → Prop} {Z : SR → Prop}
theorem w_sl {fl : Bool} {a : E} {lo hi : List E} (h : okk (den G cal a τ S) fun x S1 => okk (dens G cal lo τ S1) fun ls S2 => ∃ l, partO ls = some l ∧ okk (dens G cal hi τ S2) fun hs S3 => ∃ r, partO hs = some r ∧ okk (slO fl x l r S3) P) : okk (den G cal (.sl fl a lo hi) τ S) P :=
  .bind (h.imp fun x S1 q => .bind (q.imp fun ls S2 ⟨l, e, q⟩ => by
    rw [e]; exact .bind (q.imp fun hs S3 ⟨r, e, q⟩ => by rw [e]; exact q)))
theorem p_sl {fl : Bool} {a : A} {lo hi : Option Int} (h : ∃ x S', slO fl a lo hi S = .ok x S' ∧ P x S') : okk (slO fl a lo hi S) P := by
  obtain ⟨x, S', e, q⟩ := h
  exact .of e q
theorem w_and {a b : E} (h : okk (den G cal a τ S) fun x S1 => ∃ c, truO S1 x = some c ∧ (c = true → okk (den G cal b τ S1) P) ∧ (c = false → P x S1)) : okk (den G cal (.and_ a b) τ S) P :=
  .bind (h.imp fun x S1 ⟨c, e, q⟩ => by
    rw [e]
    cases c with
    | true => exact q.1 rfl
    | false => exact .ok (q.2 rfl))
theorem w_or {a b : E} (h : okk (den G cal a τ S) fun x S1 => ∃ c, truO S1 x = some c ∧ (c = true → P x S1) ∧ (c = false → okk (den G cal b τ S1) P)) : okk (den G cal (.or_ a b) τ S) P :=
  .bind (h.imp fun x S1 ⟨c, e, q⟩ => by
    rw [e]
    cases c with
    | true => exact .ok (q.1 rfl)
    | false => exact q.2 rfl)
theorem w_kcall {n : Nat} {es ws : List E} {kc : Kc} (e : G.kwc[n]? = some kc) (h : okk (dens G cal es τ S) fun xs S1 => okk (dens G cal ws τ S1) fun zs S2 => okk (cal kc.d (kc.fill .non xs zs) S2) P) : okk (den G cal (.kcall n es ws) τ S) P :=
  .bind (h.imp fun xs S1 q => .bind (q.imp fun zs S2 q => by rw [e]; exact q))
theorem s_retN (k : Z (.rt .non S)) : oks (denS G cal .retN τ S) Z := by unfold oks; simpa only [denS] using k
theorem s_pass (k : Z (.nx τ S)) : oks (denS G cal .pass τ S) Z := by unfold oks; simpa only [denS] using k
theorem s_brk (k : Z (.bk τ S)) : oks (denS G cal .brk τ S) Z := by unfold oks; simpa only [denS] using k
theorem s_cont (k : Z (.ct τ S)) : oks (denS G cal .cont τ S) Z := by unfold oks; simpa only [denS] using k
end
end Lt
/-! iterations over texts, zip, enumerate; dict comprehensions; module dicts, read from behind -/
namespace Lt
open PySem L2
section
variable {G : Gt} {cal : Cal} {τ : Tau} {S : List O} {P : A → List O → Prop}
theorem i_many {kk : IK} {es : List E} {X : List A × Gd → List O → Prop} (h : okk (dens G cal es τ S) fun vs S1 => ∃ xg, srcO kk vs S1 = some xg ∧ X xg S1) : okk (iD G cal kk es τ S) X :=
  .bind (h.imp fun vs S1 ⟨xg, e, q⟩ => .rof e q)
theorem i_sgn {e : E} {X : List A × Gd → List O → Prop} (h : okk (den G cal e τ S) fun a S1 => ∃ x, a = .str x ∧ X (x.map fun c => .str [c], []) S1) : okk (iD G cal .sgn [e] τ S) X :=
  i_many (w_cons (h.imp fun a S1 ⟨x, e, q⟩ => w_nil ⟨_, by rw [e]; rfl, q⟩))
theorem i_enum {e : E} {X : List A × Gd → List O → Prop} (h : okk (den G cal e τ S) fun a S1 => ∃ xs, lstO S1 a = some xs ∧ X (enumA 0 xs, gdA a xs) S1) : okk (iD G cal .enum [e] τ S) X :=
  i_many (w_cons (h.imp fun a S1 ⟨x, e, q⟩ => w_nil ⟨_, by simp only [srcO, e, Option.map_some], q⟩))
theorem i_zip {a b : E} {X : List A × Gd → List O → Prop} (h : okk (den G cal a τ S) fun x S1 => okk (den G cal b τ S1) fun y S2 => ∃ xs ys, zipO S2 x = some xs ∧ zipO S2 y = some ys ∧ X (zipA xs ys, gdA x xs ++ gdA y ys) S2) : okk (iD G cal .zip [a, b] τ S) X :=
  i_many (w_cons (h.imp fun x S1 q => w_cons (q.imp fun y S2 ⟨xs, ys, e1, e2, q⟩ => w_nil ⟨_, by simp only [srcO, e1, e2], q⟩)))
theorem w_tab {x : Str} {e : E} (h : okk (den G cal e τ S) fun a S1 => ∃ z v, a = .str z ∧ ((G.tabs.lookup x).bind fun kvs => kvs.lookup z) = some v ∧ P v S1) : okk (den G cal (.tab x e) τ S) P :=
  .bind (h.imp fun a S1 ⟨z, v, e, e1, q⟩ => by subst e; exact .rof e1 q)
theorem w_tabIn {neg : Bool} {x : Str} {e : E} (h : okk (den G cal e τ S) fun a S1 => ∃ z kvs, a = .str z ∧ G.tabs.lookup x = some kvs ∧ P (.bl (neg != (kvs.lookup z).isSome)) S1) : okk (den G cal (.tabIn neg x e) τ S) P :=
  .bind (h.imp fun a S1 ⟨z, kvs, e, e1, q⟩ => by subst e; exact .rof (by rw [e1]; rfl) q)
theorem kvD_ok {ke ve : E} {Q : A × A → List O → Prop} (h : okk (den G cal ke τ S) fun a S1 => okk (den G cal ve τ S1) fun b S2 => Q (a, b) S2) : okk (kvD G cal ke ve τ S) Q :=
  .bind (h.imp fun a S1 q => .bind (q.imp fun b S2 q => .ok q))
theorem dcD_ok {g : Gd} {asg : A → Tau → Option Tau} {cond : Tau → List O → R Bool} {elt : Tau → List O → R (A × A)} {L : List (A × A) → List O → Prop} (inv : Nat → List (A × A) → List O → Prop) : ∀ (xs : List A) (j : Nat) (acc : List (A × A)) (S : List O), inv j acc S →
    (∀ i x acc S, xs[i]? = some x → inv (j + i) acc S → g.ok S ∧ ∃ τ1, asg x τ = some τ1 ∧ okk (cond τ1 S) fun b S1 => (b = true → okk (elt τ1 S1) fun y S2 => (keyOf y.1).isSome = true ∧ inv (j + i + 1) (putO acc y.1 y.2) S2) ∧ (b = false → inv (j + i + 1) acc S1)) →
    (∀ acc S, inv (j + xs.length) acc S → g.ok S ∧ L acc S) → okk (dcD g asg cond elt τ acc xs S) L
  | [], j, acc, S, h0, _, he => by
    obtain ⟨a, b⟩ := he acc S h0
    exact .of (a := acc) (S := S) (by simp only [dcD]; rw [if_pos a]) b
  | x :: xs, j, acc, S, h0, hs, he => by
    obtain ⟨gk, τ1, e1, hc⟩ := hs 0 x acc S rfl h0
    obtain ⟨b, S1, e2, hb⟩ := okk.iff.mp hc
    have q1 : ∀ i, j + 1 + i = j + (i + 1) := fun i => by omega
    have q2 : j + 1 + xs.length = j + (x :: xs).length := by simp; omega
    have ih := fun acc S (h : inv (j + 1) acc S) => dcD_ok (g := g) (asg := asg) (cond := cond) (elt := elt) inv xs (j + 1) acc S h (fun i y acc S hy hp => by
      rw [q1] at hp
      have := hs (i + 1) y acc S (by simpa using hy) hp
      rw [← q1] at this; exact this) (fun acc S hp => he acc S (by rw [← q2]; exact hp))
    cases b with
    | true =>
      obtain ⟨y, S2, e3, hk, h3⟩ := okk.iff.mp (hb.1 rfl)
      obtain ⟨a, S3, e4, h4⟩ := okk.iff.mp (ih _ _ h3)
      refine .of (a := a) (S := S3) ?_ h4
      simp only [dcD]; rw [if_pos gk, e1]; simp only [e2, e3]; rw [if_pos hk]; exact e4
    | false =>
      obtain ⟨a, S3, e4, h4⟩ := okk.iff.mp (ih _ _ (hb.2 rfl))
      refine .of (a := a) (S := S3) ?_ h4
      simp only [dcD]; rw [if_pos gk, e1]; simp only [e2]; exact e4
theorem w_dc {ke ve : E} {t : T} {kk : IK} {src ifs : List E} {own : List (Str × Nat)} (inv : List A → Nat → List (A × A) → List O → Prop) (h : okk (iD G cal kk src τ S) fun xg S1 => xg.1.length ≤ 1000000 ∧ inv xg.1 0 [] S1 ∧
    (∀ i x acc S, xg.1[i]? = some x → inv xg.1 i acc S → xg.2.ok S ∧ ∃ τ1, T.asg t x (wipeT τ (own.map (·.2))) = some τ1 ∧ okk (condD G cal ifs τ1 S) fun b S1 => (b = true → okk (den G cal ke τ1 S1) fun a S2 => okk (den G cal ve τ1 S2) fun v S3 => (keyOf a).isSome = true ∧ inv xg.1 (i + 1) (putO acc a v) S3) ∧ (b = false → inv xg.1 (i + 1) acc S1)) ∧
    (∀ acc S, inv xg.1 xg.1.length acc S → xg.2.ok S ∧ P (.ref S.length) (S ++ [.dic false acc]))) : okk (den G cal (.dc ke ve t kk src ifs own) τ S) P := by
  rw [den_dc]
  refine .bind (h.imp ?_)
  rintro ⟨xs, g⟩ S1 ⟨hl, h0, hs, he⟩
  dsimp only at hl ⊢
  rw [if_pos hl]
  refine .bind (dcD_ok (inv xs) xs 0 [] S1 h0 (fun i x acc S hx hp => ?_) (fun acc S hp => ?_))
  · rw [Nat.zero_add] at hp ⊢
    obtain ⟨a, τ1, b, c⟩ := hs i x acc S hx hp
    exact ⟨a, τ1, b, c.imp fun b S1 q => ⟨fun hb => kvD_ok (q.1 hb), q.2⟩⟩
  · rw [Nat.zero_add] at hp
    obtain ⟨a, b⟩ := he acc S hp
    exact ⟨a, .ok b⟩
end
end Lt
namespace K04
open PySem L2 Lt
local macro_rules | `(tactic| wtm_at "wp1") => `(tactic| with_reducible first
  | refine s_cons ?_ | (refine s_nil ?_; try dsimp only [nxt, turn]) | refine s_asg ?_ | refine s_ret ?_ | refine s_ifs ?_ | refine s_ex ?_ | refine s_sub ?_
  | refine w_nil ?_ | refine w_cons ?_
  | refine w_cI ?_ | refine w_cS ?_ | refine w_cN ?_ | refine w_cB ?_
  | refine w_idx ?_ | refine w_call ?_ | refine w_bi ?_ | refine w_tup ?_ | refine w_lst ?_ | refine w_lstT ?_ | refine w_bin ?_ | refine w_neg ?_ | refine w_no ?_ | refine w_cmp ?_
  | refine w_dic0 ?_ | refine w_dic ?_ | refine w_bm ?_ | refine w_isi ?_ | refine w_frz ?_ | refine w_ifx ?_
  | refine t_cmp ?_ | refine t_and ?_ | refine t_or ?_ | refine t_not ?_ | refine t_of ?_
  | refine c_nil ?_ | refine c_one ?_ | refine i_seq ?_ | refine i_rng ?_)
local macro_rules | `(tactic| wtm_at "wp2") => `(tactic| first
  | (with_reducible refine w_nmE ?_; refine ⟨_, rfl, ?_⟩)
  | refine ⟨_, eq_int, ?_⟩ | refine ⟨_, eq_str, ?_⟩ | refine ⟨_, ne_int, ?_⟩ | refine ⟨_, ne_str, ?_⟩
  | ((with_reducible first | refine p_bi ?_ | refine p_bin ?_ | refine p_bm ?_ | refine p_mk ?_); refine ⟨_, _, rfl, ?_⟩)
  | refine ⟨_, rfl, ?_⟩ | refine and_ff ?_ | refine and_tt ?_)
local macro_rules | `(tactic| wtm_at "wp") => `(tactic| repeat (first | wtm_at "wp1" | (wtm_at "wp2"; try dsimp only [nxt, turn, List.set])))
local macro_rules | `(tactic| wtm_at "wp1") => `(tactic| with_reducible first | refine w_sl ?_ | refine w_and ?_ | refine w_or ?_ | refine s_retN ?_ | refine s_pass ?_ | refine s_brk ?_ | refine s_cont ?_)
local macro_rules | `(tactic| wtm_at "wp1") => `(tactic| with_reducible first | refine i_sgn ?_ | refine i_enum ?_ | refine i_zip ?_ | refine w_tab ?_ | refine w_tabIn ?_)
def top (i : Nat) : Stmt := PySem.Challenge.pw_unmadethings_k04_told_of_programs.main.body.getD i (.Pass ⟨0, 0, 0, 0⟩)
def consts : List (Str × A) := []
def tabs : List (Str × List (List Nat × A)) := [("FORMS", [([115, 101, 116], .str [120, 110]), ([110, 111, 110, 101], .str [120]), ([115, 97, 109, 101], .str [120, 120]), ([115, 117, 109], .str [120, 120, 120]), ([108, 101, 115, 115], .str [120, 120, 120]), ([117, 110, 100, 101, 114], .str [120, 120, 120]), ([97, 108, 105, 107, 101], .str [120, 120, 120]), ([109, 97, 107, 101], .str [120, 119]), ([114, 111, 111, 109], .str [120, 120, 119]), ([112, 117, 116], .str [120, 119, 120]), ([99, 97, 108, 108], .str [120, 119, 103]), ([115, 101, 110, 100], .str [120, 120, 119, 103]), ([115, 104, 101, 108, 102], .str [120, 119]), ([107, 101, 101, 112], .str [119, 120]), ([115, 97, 121], .str [120]), ([106, 117, 109, 112], .str [107]), ([117, 110, 108, 101, 115, 115], .str [120, 107]), ([103, 105, 118, 101], .str [120]), ([102, 97, 117, 108, 116], .str [120]), ([116, 117, 114, 110], .str [119, 119, 119])])]
/-- function_of -/
abbrev N0 : List Str := ["program", "name", "function"]
abbrev s0 : Stmt := top 2
abbrev q0 : He.DefD := ⟨("function_of", none), "function_of", "function_of", defArgs s0, defBody s0, defScope s0, [], []⟩
def u0_0 : List Sm := [.ifs (.cmp .Eq (.idx (.nm 2) (.cI 0)) (.nm 1)) [.ret (.nm 2)] []]
def w0_0 : Sm := .forr (.nm 2) .seq [(.idx (.nm 0) (.cI 1))] u0_0
def b0 : List Sm := [w0_0,
  .ret .cN]
def f0 : Fd := ⟨2, 3, b0⟩
/-- kind_of -/
abbrev N1 : List Str := ["program", "word", "kind"]
abbrev s1 : Stmt := top 3
abbrev q1 : He.DefD := ⟨("kind_of", none), "kind_of", "kind_of", defArgs s1, defBody s1, defScope s1, [], []⟩
def u1_0 : List Sm := [.ifs (.cmp .Eq (.idx (.nm 2) (.cI 0)) (.nm 1)) [.ret (.nm 2)] []]
def w1_0 : Sm := .forr (.nm 2) .seq [(.idx (.nm 0) (.cI 0))] u1_0
def b1 : List Sm := [w1_0,
  .ret .cN]
def f1 : Fd := ⟨2, 3, b1⟩
/-- locals_in -/
abbrev N2 : List Str := ["function", "name", "params", "rows", "catches", "found", "word", "things", "sign", "one", "arg", "first", "last", "to", "x"]
abbrev s2 : Stmt := top 4
abbrev q2 : He.DefD := ⟨("locals_in", none), "locals_in", "locals_in", defArgs s2, defBody s2, defScope s2, [], []⟩
def e2_0 : E := .lc false (.tup [(.nm 6), (.cB true)]) (.nm 6) .seq [(.nm 2)] [] [("word", 6)]
def e2_1 : E := .dc (.nm 10) (.cB true) (.nm 10) .seq [(.nm 9)] [] [("arg", 10)]
def u2_0 : List Sm := [.ifs (.cmp .Eq (.nm 8) (.cS [120])) [.asg (.sub (.nm 5) (.nm 9)) (.cB true)] [], .ifs (.cmp .Eq (.nm 8) (.cS [103])) [.ex (.bm .update (.nm 5) [e2_1])] []]
def w2_0 : Sm := .forr (.tup [(.nm 8), (.nm 9)]) .zip [(.tab "FORMS" (.nm 6)), (.nm 7)] u2_0
def u2_1 : List Sm := [w2_0]
def w2_1 : Sm := .forr (.star [6] 7) .seq [(.nm 3)] u2_1
def u2_2 : List Sm := [.asg (.sub (.nm 5) (.nm 14)) (.cB true)]
def w2_2 : Sm := .forr (.tup [(.nm 11), (.nm 12), (.nm 13), (.nm 14)]) .seq [(.nm 4)] u2_2
def b2 : List Sm := [.asg (.t (.tup [(.nm 1), (.nm 2), (.nm 3), (.nm 4)])) (.nm 0),
  .asg (.t (.nm 5)) (.bi (.dict false) [e2_0]),
  w2_1,
  w2_2,
  .ret (.bi (.list true) [(.nm 5)])]
def f2 : Fd := ⟨1, 15, b2⟩
/-- locals_of -/
abbrev N3 : List Str := ["program", "name"]
abbrev s3 : Stmt := top 5
abbrev q3 : He.DefD := ⟨("locals_of", none), "locals_of", "locals_of", defArgs s3, defBody s3, defScope s3, [], []⟩
def b3 : List Sm := [.ret (.call 2 [(.call 0 [(.nm 0), (.nm 1)])])]
def f3 : Fd := ⟨2, 2, b3⟩
/-- _law_pool -/
abbrev N4 : List Str := ["script", "k", "cell", "size", "mixed"]
abbrev s4 : Stmt := top 7
abbrev q4 : He.DefD := ⟨("_law_pool", none), "_law_pool", "_law_pool", defArgs s4, defBody s4, defScope s4, [], []⟩
def b4 : List Sm := [.asg (.t (.nm 2)) (.cI 0),
  .ifs (.cmp .Lt (.nm 1) (.bi .len [(.nm 0)])) [.asg (.t (.nm 2)) (.idx (.nm 0) (.nm 1))] [],
  .asg (.t (.nm 3)) (.bi .max [(.nm 2), (.bin .Sub true (.neg (.cI 1)) (.nm 2))]),
  .asg (.t (.nm 4)) (.bin .Mod true (.bin .Mult true (.bin .Add true (.bin .Add true (.bin .Add true (.bin .Mod true (.nm 3) (.cI 2147483629)) (.bin .Mult true (.bin .Mult true (.cI 7919) (.nm 1)) (.nm 1))) (.bin .Mult true (.cI 31) (.nm 1))) (.cI 17)) (.cI 48271)) (.cI 2147483647)),
  .ret (.lst true [(.bin .Mult true (.nm 3) (.bi .int [(.cmp .GtE (.nm 3) (.bin .Pow true (.cI 10) (.cI 18)))])), (.nm 4)])]
def f4 : Fd := ⟨2, 5, b4⟩
/-- _law_draw -/
abbrev N5 : List Str := ["pool", "many", "found"]
abbrev s5 : Stmt := top 8
abbrev q5 : He.DefD := ⟨("_law_draw", none), "_law_draw", "_law_draw", defArgs s5, defBody s5, defScope s5, [], []⟩
def b5 : List Sm := [.ifs (.cmp .Gt (.idx (.nm 0) (.cI 0)) (.cI 0)) [.asg (.t (.nm 2)) (.bin .Mod false (.idx (.nm 0) (.cI 0)) (.nm 1)), .asg (.sub (.nm 0) (.cI 0)) (.bin .FloorDiv false (.idx (.nm 0) (.cI 0)) (.nm 1)), .ret (.nm 2)] [],
  .asg (.sub (.nm 0) (.cI 1)) (.bin .Mod false (.bin .Add false (.bin .Mult false (.idx (.nm 0) (.cI 1)) (.cI 69621)) (.cI 7)) (.cI 2147483647)),
  .ret (.bin .Mod false (.bin .FloorDiv false (.bin .Mod false (.bin .Mult false (.idx (.nm 0) (.cI 1)) (.idx (.nm 0) (.cI 1))) (.cI 2147483629)) (.cI 32)) (.nm 1))]
def f5 : Fd := ⟨2, 3, b5⟩
/-- _law_words -/
abbrev N6 : List Str := ["pool", "many", "letters", "head", "turn", "left"]
abbrev s6 : Stmt := top 9
abbrev q6 : He.DefD := ⟨("_law_words", none), "_law_words", "_law_words", defArgs s6, defBody s6, defScope s6, [], []⟩
def e6_0 : E := .lc false (.idx (.nm 2) (.call 5 [(.nm 0), (.cI 26)])) (.nm 4) .rng [(.bin .Mult false (.call 5 [(.nm 0), (.cI 2)]) (.call 5 [(.nm 0), (.cI 8)]))] [] [("turn", 4)]
def e6_1 : E := .lc false (.bin .Add false (.idx (.lst false [(.nm 3), (.cS [])]) (.bin .Mod false (.nm 4) (.cI 2))) (.bm .pop (.nm 5) [(.call 5 [(.nm 0), (.bi .len [(.nm 5)])])])) (.nm 4) .rng [(.nm 1)] [] [("turn", 4)]
def b6 : List Sm := [.asg (.t (.nm 2)) (.cS [97, 98, 99, 100, 101, 102, 103, 104, 105, 106, 107, 108, 109, 110, 111, 112, 113, 114, 115, 116, 117, 118, 119, 120, 121, 122]),
  .asg (.t (.nm 3)) (.bm .join (.cS []) [e6_0]),
  .asg (.t (.nm 5)) (.bi (.list true) [(.nm 2)]),
  .ret e6_1]
def f6 : Fd := ⟨2, 6, b6⟩
/-- _law_one -/
abbrev N7 : List Str := ["pool", "some"]
abbrev s7 : Stmt := top 10
abbrev q7 : He.DefD := ⟨("_law_one", none), "_law_one", "_law_one", defArgs s7, defBody s7, defScope s7, [], []⟩
def b7 : List Sm := [.ret (.idx (.nm 1) (.call 5 [(.nm 0), (.bi .len [(.nm 1)])]))]
def f7 : Fd := ⟨2, 2, b7⟩
/-- _law_part -/
abbrev N8 : List Str := ["pool", "sign", "many", "names", "turn"]
abbrev s8 : Stmt := top 11
abbrev q8 : He.DefD := ⟨("_law_part", none), "_law_part", "_law_part", defArgs s8, defBody s8, defScope s8, [], []⟩
def e8_0 : E := .lc false (.call 7 [(.nm 0), (.idx (.nm 3) (.cS [120]))]) (.nm 4) .rng [(.call 5 [(.nm 0), (.cI 3)])] [] [("turn", 4)]
def b8 : List Sm := [.ifs (.cmp .Eq (.nm 1) (.cS [110])) [.ret (.idx (.lst false [(.cI 0), (.cI 1), (.cI 2), (.neg (.cI 1)), (.cI 7), (.bin .Pow false (.cI 10) (.cI 18)), (.neg (.bin .Pow false (.cI 10) (.cI 18))), (.call 5 [(.nm 0), (.cI 100)])]) (.call 5 [(.nm 0), (.cI 8)]))] [],
  .ifs (.cmp .Eq (.nm 1) (.cS [107])) [.ret (.call 5 [(.nm 0), (.nm 2)])] [],
  .ifs (.cmp .Eq (.nm 1) (.cS [103])) [.ret (.bi .tuple [e8_0])] [],
  .ret (.call 7 [(.nm 0), (.idx (.nm 3) (.nm 1))])]
def f8 : Fd := ⟨4, 5, b8⟩
/-- _law_forms -/
abbrev N9 : List Str := ["found"]
abbrev s9 : Stmt := top 12
abbrev q9 : He.DefD := ⟨("_law_forms", none), "_law_forms", "_law_forms", defArgs s9, defBody s9, defScope s9, [], []⟩
def b9 : List Sm := [.asg (.t (.nm 0)) (.lst false [(.tup [(.cS [115, 101, 116]), (.cS [120, 110])]), (.tup [(.cS [110, 111, 110, 101]), (.cS [120])]), (.tup [(.cS [115, 97, 109, 101]), (.cS [120, 120])]), (.tup [(.cS [115, 117, 109]), (.cS [120, 120, 120])]), (.tup [(.cS [108, 101, 115, 115]), (.cS [120, 120, 120])]), (.tup [(.cS [117, 110, 100, 101, 114]), (.cS [120, 120, 120])])]),
  .asg (.t (.nm 0)) (.bin .Add false (.nm 0) (.lst false [(.tup [(.cS [97, 108, 105, 107, 101]), (.cS [120, 120, 120])]), (.tup [(.cS [109, 97, 107, 101]), (.cS [120, 75])]), (.tup [(.cS [114, 111, 111, 109]), (.cS [120, 120, 114])]), (.tup [(.cS [112, 117, 116]), (.cS [120, 114, 120])]), (.tup [(.cS [99, 97, 108, 108]), (.cS [120, 102, 103])])])),
  .asg (.t (.nm 0)) (.bin .Add false (.nm 0) (.lst false [(.tup [(.cS [115, 101, 110, 100]), (.cS [120, 120, 109, 103])]), (.tup [(.cS [115, 104, 101, 108, 102]), (.cS [120, 99])]), (.tup [(.cS [107, 101, 101, 112]), (.cS [99, 120])]), (.tup [(.cS [115, 97, 121]), (.cS [120])]), (.tup [(.cS [106, 117, 109, 112]), (.cS [107])]), (.tup [(.cS [117, 110, 108, 101, 115, 115]), (.cS [120, 107])])])),
  .ret (.bin .Add false (.nm 0) (.lst false [(.tup [(.cS [103, 105, 118, 101]), (.cS [120])]), (.tup [(.cS [102, 97, 117, 108, 116]), (.cS [120])]), (.tup [(.cS [116, 117, 114, 110]), (.cS [75, 109, 102])])]))]
def f9 : Fd := ⟨0, 1, b9⟩
/-- _law_row -/
abbrev N10 : List Str := ["pool", "many", "names", "params", "at", "word", "form", "row", "sign", "param", "turn"]
abbrev s10 : Stmt := top 13
abbrev q10 : He.DefD := ⟨("_law_row", none), "_law_row", "_law_row", defArgs s10, defBody s10, defScope s10, [], []⟩
def e10_0 : E := .lc false (.call 8 [(.nm 0), (.nm 8), (.nm 1), (.nm 2)]) (.nm 8) .sgn [(.nm 6)] [] [("sign", 8)]
def e10_1 : E := .lc false (.call 7 [(.nm 0), (.idx (.nm 2) (.cS [120]))]) (.nm 9) .seq [(.idx (.nm 3) (.idx (.nm 7) (.cI 2)))] [] [("param", 9)]
def e10_2 : E := .lc false (.call 7 [(.nm 0), (.idx (.nm 2) (.cS [120]))]) (.nm 10) .rng [(.call 5 [(.nm 0), (.cI 2)])] [] [("turn", 10)]
def b10 : List Sm := [.asg (.t (.nm 4)) (.idx (.lst false [(.cI 7), (.cI 8), (.cI 9), (.cI 10), (.cI 11), (.cI 7), (.cI 8), (.cI 9), (.cI 10), (.cI 11), (.cI 6), (.cI 3), (.cI 4), (.cI 2), (.cI 16), (.cI 14), (.call 5 [(.nm 0), (.cI 20)])]) (.call 5 [(.nm 0), (.cI 17)])),
  .asg (.t (.tup [(.nm 5), (.nm 6)])) (.idx (.call 9 []) (.nm 4)),
  .asg (.t (.nm 7)) (.bin .Add true (.lst false [(.nm 5)]) e10_0),
  .ifs (.and_ (.cmp .Eq (.nm 5) (.cS [99, 97, 108, 108])) (.cmp .Gt (.call 5 [(.nm 0), (.cI 4)]) (.cI 0))) [.asg (.sub (.nm 7) (.cI 3)) (.bi .tuple [e10_1])] [],
  .ifs (.and_ (.cmp .Eq (.nm 5) (.cS [115, 101, 110, 100])) (.cmp .Gt (.call 5 [(.nm 0), (.cI 4)]) (.cI 0))) [.asg (.sub (.nm 7) (.cI 4)) (.bi .tuple [e10_2])] [],
  .ret (.bi .tuple [(.nm 7)])]
def f10 : Fd := ⟨4, 11, b10⟩
/-- _law_function -/
abbrev N11 : List Str := ["pool", "name", "names", "params", "many", "rows", "turn", "total", "catches", "first", "last"]
abbrev s11 : Stmt := top 14
abbrev q11 : He.DefD := ⟨("_law_function", none), "_law_function", "_law_function", defArgs s11, defBody s11, defScope s11, [], []⟩
def e11_0 : E := .lc false (.tup [(.cS [109, 97, 107, 101]), (.call 7 [(.nm 0), (.idx (.nm 2) (.cS [120]))]), (.call 7 [(.nm 0), (.idx (.nm 2) (.cS [75]))])]) (.nm 6) .rng [(.call 5 [(.nm 0), (.cI 3)])] [] [("turn", 6)]
def e11_1 : E := .lc false (.call 10 [(.nm 0), (.nm 7), (.nm 2), (.nm 3)]) (.nm 6) .rng [(.bin .Sub false (.nm 4) (.cI 1))] [] [("turn", 6)]
def u11_0 : List Sm := [.asg (.t (.nm 9)) (.call 5 [(.nm 0), (.nm 7)]), .asg (.t (.nm 10)) (.bin .Add false (.nm 9) (.call 5 [(.nm 0), (.bin .Sub false (.nm 7) (.nm 9))])), .ex (.bm .append (.nm 8) [(.tup [(.nm 9), (.nm 10), (.call 5 [(.nm 0), (.nm 7)]), (.call 7 [(.nm 0), (.idx (.nm 2) (.cS [120]))])])])]
def w11_0 : Sm := .forr (.nm 6) .rng [(.bin .FloorDiv false (.call 5 [(.nm 0), (.cI 6)]) (.cI 4))] u11_0
def b11 : List Sm := [.asg (.t (.nm 4)) (.bin .Add false (.cI 2) (.call 5 [(.nm 0), (.cI 9)])),
  .asg (.t (.nm 5)) e11_0,
  .asg (.t (.nm 7)) (.bin .Add false (.bi .len [(.nm 5)]) (.nm 4)),
  .asg (.t (.nm 5)) (.bin .Add true (.nm 5) e11_1),
  .ex (.bm .append (.nm 5) [(.call 12 [(.nm 0), (.nm 7), (.nm 2)])]),
  .asg (.t (.nm 8)) (.lst true []),
  w11_0,
  .ret (.tup [(.nm 1), (.idx (.nm 3) (.nm 1)), (.bi .tuple [(.nm 5)]), (.bi .tuple [(.nm 8)])])]
def f11 : Fd := ⟨4, 11, b11⟩
/-- _law_row_last -/
abbrev N12 : List Str := ["pool", "total", "names", "way"]
abbrev s12 : Stmt := top 15
abbrev q12 : He.DefD := ⟨("_law_row_last", none), "_law_row_last", "_law_row_last", defArgs s12, defBody s12, defScope s12, [], []⟩
def b12 : List Sm := [.asg (.t (.nm 3)) (.call 5 [(.nm 0), (.cI 8)]),
  .ifs (.cmp .Eq (.nm 3) (.cI 7)) [.ret (.tup [(.cS [106, 117, 109, 112]), (.call 5 [(.nm 0), (.nm 1)])])] [],
  .ret (.tup [(.idx (.lst false [(.cS [103, 105, 118, 101]), (.cS [102, 97, 117, 108, 116])]) (.bin .FloorDiv false (.nm 3) (.cI 6))), (.call 7 [(.nm 0), (.idx (.nm 2) (.cS [120]))])])]
def f12 : Fd := ⟨3, 4, b12⟩
/-- _law_program -/
abbrev N13 : List Str := ["pool", "most_functions", "words", "names", "params", "name", "kinds", "kind", "rooms", "methods", "m"]
abbrev s13 : Stmt := top 16
abbrev q13 : He.DefD := ⟨("_law_program", none), "_law_program", "_law_program", defArgs s13, defBody s13, defScope s13, [], []⟩
def e13_0 : E := .lc false (.tup [(.nm 5), (.bi .tuple [(.sl false (.idx (.nm 3) (.cS [120])) [] [(.call 5 [(.nm 0), (.cI 3)])])])]) (.nm 5) .seq [(.idx (.nm 3) (.cS [102]))] [] [("name", 5)]
def e13_1 : E := .lc false (.tup [(.nm 10), (.call 7 [(.nm 0), (.idx (.nm 3) (.cS [102]))])]) (.nm 10) .seq [(.idx (.nm 3) (.cS [109]))] [(.cmp .Gt (.call 5 [(.nm 0), (.cI 4)]) (.cI 0))] [("m", 10)]
def u13_0 : List Sm := [.asg (.t (.nm 8)) (.sl false (.idx (.nm 3) (.cS [114])) [] [(.bin .Add false (.cI 1) (.call 5 [(.nm 0), (.cI 2)]))]), .asg (.t (.nm 9)) e13_1, .ex (.bm .append (.nm 6) [(.tup [(.nm 7), (.bi .tuple [(.nm 8)]), (.bi .tuple [(.nm 9)])])])]
def w13_0 : Sm := .forr (.nm 7) .seq [(.idx (.nm 3) (.cS [75]))] u13_0
def e13_2 : E := .lc false (.call 11 [(.nm 0), (.nm 5), (.nm 3), (.nm 4)]) (.nm 5) .seq [(.idx (.nm 3) (.cS [102]))] [] [("name", 5)]
def b13 : List Sm := [.asg (.t (.nm 2)) (.call 6 [(.nm 0), (.cI 20)]),
  .asg (.t (.nm 3)) (.dic false [(.cS [120]), (.cS [75]), (.cS [99])] [(.sl false (.nm 2) [] [(.bin .Add false (.cI 2) (.call 5 [(.nm 0), (.cI 4)]))]), (.sl false (.nm 2) [(.cI 6)] [(.bin .Add false (.cI 7) (.call 5 [(.nm 0), (.cI 3)]))]), (.sl false (.nm 2) [(.cI 9)] [(.cI 11)])]),
  .asg (.sub (.nm 3) (.cS [114])) (.sl false (.nm 2) [(.cI 11)] [(.bin .Add false (.cI 12) (.call 5 [(.nm 0), (.cI 2)]))]),
  .asg (.sub (.nm 3) (.cS [109])) (.sl false (.nm 2) [(.cI 13)] [(.bin .Add false (.cI 14) (.call 5 [(.nm 0), (.cI 2)]))]),
  .asg (.sub (.nm 3) (.cS [102])) (.sl false (.nm 2) [(.cI 15)] [(.bin .Add false (.cI 16) (.call 5 [(.nm 0), (.nm 1)]))]),
  .asg (.t (.nm 4)) (.bi (.dict false) [e13_0]),
  .asg (.t (.nm 6)) (.lst true []),
  w13_0,
  .ret (.tup [(.nm 6), e13_2])]
def f13 : Fd := ⟨2, 11, b13⟩
/-- _law_locals -/
abbrev N14 : List Str := ["function", "found", "row", "form", "word", "sign", "thing", "catch", "at"]
abbrev s14 : Stmt := top 17
abbrev q14 : He.DefD := ⟨("_law_locals", none), "_law_locals", "_law_locals", defArgs s14, defBody s14, defScope s14, [], []⟩
def e14_0 : E := .lc false (.nm 3) (.tup [(.nm 4), (.nm 3)]) .seq [(.call 9 [])] [(.cmp .Eq (.nm 4) (.idx (.nm 2) (.cI 0)))] [("form", 3), ("word", 4)]
def u14_0 : List Sm := [.ifs (.cmp .Eq (.nm 5) (.cS [120])) [.ex (.bm .append (.nm 1) [(.nm 6)])] [], .ifs (.cmp .Eq (.nm 5) (.cS [103])) [.asg (.t (.nm 1)) (.bin .Add true (.nm 1) (.bi (.list false) [(.nm 6)]))] []]
def w14_0 : Sm := .forr (.tup [(.nm 5), (.nm 6)]) .zip [(.nm 3), (.sl false (.nm 2) [(.cI 1)] [])] u14_0
def u14_1 : List Sm := [.asg (.t (.nm 3)) (.idx e14_0 (.cI 0)), w14_0]
def w14_1 : Sm := .forr (.nm 2) .seq [(.idx (.nm 0) (.cI 2))] u14_1
def e14_1 : E := .lc false (.idx (.nm 7) (.cI 3)) (.nm 7) .seq [(.idx (.nm 0) (.cI 3))] [] [("catch", 7)]
def e14_2 : E := .lc false (.nm 4) (.tup [(.nm 8), (.nm 4)]) .enum [(.nm 1)] [(.cmp .NotIn (.nm 4) (.sl false (.nm 1) [] [(.nm 8)]))] [("word", 4), ("at", 8)]
def b14 : List Sm := [.asg (.t (.nm 1)) (.bi (.list true) [(.idx (.nm 0) (.cI 1))]),
  w14_1,
  .asg (.t (.nm 1)) (.bin .Add true (.nm 1) e14_1),
  .ret e14_2]
def f14 : Fd := ⟨1, 9, b14⟩
/-- law -/
abbrev N15 : List Str := ["script", "k", "pool", "program", "words", "kind", "names", "function", "word", "kinds", "functions", "told"]
abbrev s15 : Stmt := top 18
abbrev q15 : He.DefD := ⟨("law", none), "law", "law", defArgs s15, defBody s15, defScope s15, [], []⟩
def e15_0 : E := .lc false (.idx (.nm 5) (.cI 0)) (.nm 5) .seq [(.idx (.nm 3) (.cI 0))] [] [("kind", 5)]
def e15_1 : E := .lc false (.idx (.nm 7) (.cI 0)) (.nm 7) .seq [(.idx (.nm 3) (.cI 1))] [] [("function", 7)]
def e15_2 : E := .lc false (.nm 5) (.nm 5) .seq [(.idx (.nm 3) (.cI 0))] [(.cmp .Eq (.idx (.nm 5) (.cI 0)) (.nm 8))] [("kind", 5)]
def e15_3 : E := .lc false (.nm 7) (.nm 7) .seq [(.idx (.nm 3) (.cI 1))] [(.cmp .Eq (.idx (.nm 7) (.cI 0)) (.nm 8))] [("function", 7)]
def u15_0 : List Sm := [.asg (.t (.nm 9)) (.bin .Add false e15_2 (.lst false [.cN])), .asg (.t (.nm 10)) (.bin .Add false e15_3 (.lst false [.cN])), .ifs (.or_ (.cmp .NotEq (.call 1 [(.nm 3), (.nm 8)]) (.idx (.nm 9) (.cI 0))) (.cmp .NotEq (.call 0 [(.nm 3), (.nm 8)]) (.idx (.nm 10) (.cI 0)))) [.ret (.cB false)] []]
def w15_0 : Sm := .forr (.nm 8) .seq [(.bin .Add false (.bin .Add false (.nm 4) (.nm 6)) (.lst false [(.cS [122, 122, 122, 122, 122, 122, 122, 122]), (.cS [97])]))] u15_0
def u15_1 : List Sm := [.asg (.t (.nm 11)) (.call 3 [(.nm 3), (.idx (.nm 7) (.cI 0))]), .ifs (.or_ (.no_ (.isi (.nm 11) .list)) (.cmp .NotEq (.nm 11) (.call 14 [(.nm 7)]))) [.ret (.cB false)] [], .ex (.bm .append (.nm 11) [(.cS [97])]), .ifs (.cmp .NotEq (.call 3 [(.nm 3), (.idx (.nm 7) (.cI 0))]) (.call 14 [(.nm 7)])) [.ret (.cB false)] []]
def w15_1 : Sm := .forr (.nm 7) .seq [(.idx (.nm 3) (.cI 1))] u15_1
def u15_2 : List Sm := [.asg (.t (.nm 2)) (.call 4 [(.nm 0), (.nm 1)]), .asg (.t (.nm 3)) (.call 13 [(.nm 2), (.cI 4)]), .asg (.t (.nm 4)) e15_0, .asg (.t (.nm 6)) e15_1, w15_0, w15_1]
def w15_2 : Sm := .forr (.nm 1) .rng [(.bi .max [(.cI 1), (.bi .min [(.cI 20), (.bi .len [(.nm 0)])])])] u15_2
def b15 : List Sm := [w15_2,
  .ret (.cB true)]
def f15 : Fd := ⟨1, 12, b15⟩
def fn : List He.DefD := [q0, q1, q2, q3, q4, q5, q6, q7, q8, q9, q10, q11, q12, q13, q14, q15]
def ds : List (Option Fd) := [some f0, some f1, some f2, some f3, some f4, some f5, some f6, some f7, some f8, some f9, some f10, some f11, some f12, some f13, some f14, some f15]
def dnames : List (Option Str) := [some "function_of", some "kind_of", some "locals_in", some "locals_of", some "_law_pool", some "_law_draw", some "_law_words", some "_law_one", some "_law_part", some "_law_forms", some "_law_row", some "_law_function", some "_law_row_last", some "_law_program", some "_law_locals", some "law"]
def kwc : List Kc := []
def G : Gt := ⟨consts, [], [], dnames, kwc, tabs⟩
theorem o0 : DOk G q0 N0 f0 := ⟨⟨rfl, rfl, rfl, by decide +kernel, rfl, by decide +kernel, by decide +kernel⟩, by decide, rfl, by decide +kernel, rfl, fun _ _ _ _ _ _ us hl => match us, hl with | [_, _], _ => rfl⟩
theorem o1 : DOk G q1 N1 f1 := ⟨⟨rfl, rfl, rfl, by decide +kernel, rfl, by decide +kernel, by decide +kernel⟩, by decide, rfl, by decide +kernel, rfl, fun _ _ _ _ _ _ us hl => match us, hl with | [_, _], _ => rfl⟩
theorem o2 : DOk G q2 N2 f2 := ⟨⟨rfl, rfl, rfl, by decide +kernel, rfl, by decide +kernel, by decide +kernel⟩, by decide, rfl, by decide +kernel, rfl, fun _ _ _ _ _ _ us hl => match us, hl with | [_], _ => rfl⟩
theorem o3 : DOk G q3 N3 f3 := ⟨⟨rfl, rfl, rfl, by decide +kernel, rfl, by decide +kernel, by decide +kernel⟩, by decide, rfl, by decide +kernel, rfl, fun _ _ _ _ _ _ us hl => match us, hl with | [_, _], _ => rfl⟩
theorem o4 : DOk G q4 N4 f4 := ⟨⟨rfl, rfl, rfl, by decide +kernel, rfl, by decide +kernel, by decide +kernel⟩, by decide, rfl, by decide +kernel, rfl, fun _ _ _ _ _ _ us hl => match us, hl with | [_, _], _ => rfl⟩
theorem o5 : DOk G q5 N5 f5 := ⟨⟨rfl, rfl, rfl, by decide +kernel, rfl, by decide +kernel, by decide +kernel⟩, by decide, rfl, by decide +kernel, rfl, fun _ _ _ _ _ _ us hl => match us, hl with | [_, _], _ => rfl⟩
theorem o6 : DOk G q6 N6 f6 := ⟨⟨rfl, rfl, rfl, by decide +kernel, rfl, by decide +kernel, by decide +kernel⟩, by decide, rfl, by decide +kernel, rfl, fun _ _ _ _ _ _ us hl => match us, hl with | [_, _], _ => rfl⟩
theorem o7 : DOk G q7 N7 f7 := ⟨⟨rfl, rfl, rfl, by decide +kernel, rfl, by decide +kernel, by decide +kernel⟩, by decide, rfl, by decide +kernel, rfl, fun _ _ _ _ _ _ us hl => match us, hl with | [_, _], _ => rfl⟩
theorem o8 : DOk G q8 N8 f8 := ⟨⟨rfl, rfl, rfl, by decide +kernel, rfl, by decide +kernel, by decide +kernel⟩, by decide, rfl, by decide +kernel, rfl, fun _ _ _ _ _ _ us hl => match us, hl with | [_, _, _, _], _ => rfl⟩
theorem o9 : DOk G q9 N9 f9 := ⟨⟨rfl, rfl, rfl, by decide +kernel, rfl, by decide +kernel, by decide +kernel⟩, by decide, rfl, by decide +kernel, rfl, fun _ _ _ _ _ _ us hl => match us, hl with | [], _ => rfl⟩
theorem o10 : DOk G q10 N10 f10 := ⟨⟨rfl, rfl, rfl, by decide +kernel, rfl, by decide +kernel, by decide +kernel⟩, by decide, rfl, by decide +kernel, rfl, fun _ _ _ _ _ _ us hl => match us, hl with | [_, _, _, _], _ => rfl⟩
theorem o11 : DOk G q11 N11 f11 := ⟨⟨rfl, rfl, rfl, by decide +kernel, rfl, by decide +kernel, by decide +kernel⟩, by decide, rfl, by decide +kernel, rfl, fun _ _ _ _ _ _ us hl => match us, hl with | [_, _, _, _], _ => rfl⟩
theorem o12 : DOk G q12 N12 f12 := ⟨⟨rfl, rfl, rfl, by decide +kernel, rfl, by decide +kernel, by decide +kernel⟩, by decide, rfl, by decide +kernel, rfl, fun _ _ _ _ _ _ us hl => match us, hl with | [_, _, _], _ => rfl⟩
theorem o13 : DOk G q13 N13 f13 := ⟨⟨rfl, rfl, rfl, by decide +kernel, rfl, by decide +kernel, by decide +kernel⟩, by decide, rfl, by decide +kernel, rfl, fun _ _ _ _ _ _ us hl => match us, hl with | [_, _], _ => rfl⟩
theorem o14 : DOk G q14 N14 f14 := ⟨⟨rfl, rfl, rfl, by decide +kernel, rfl, by decide +kernel, by decide +kernel⟩, by decide, rfl, by decide +kernel, rfl, fun _ _ _ _ _ _ us hl => match us, hl with | [_], _ => rfl⟩
theorem o15 : DOk G q15 N15 f15 := ⟨⟨rfl, rfl, rfl, by decide +kernel, rfl, by decide +kernel, by decide +kernel⟩, by decide, rfl, by decide +kernel, rfl, fun _ _ _ _ _ _ us hl => match us, hl with | [_], _ => rfl⟩
theorem ok : ∀ (d : Nat) (fd : Fd), ds[d]? = some (some fd) → ∃ dd N, fn[d]? = some dd ∧ DOk G dd N fd := by
  intro d fd h
  match d, h with
  | 0, h => cases h; exact ⟨_, _, rfl, o0⟩
  | 1, h => cases h; exact ⟨_, _, rfl, o1⟩
  | 2, h => cases h; exact ⟨_, _, rfl, o2⟩
  | 3, h => cases h; exact ⟨_, _, rfl, o3⟩
  | 4, h => cases h; exact ⟨_, _, rfl, o4⟩
  | 5, h => cases h; exact ⟨_, _, rfl, o5⟩
  | 6, h => cases h; exact ⟨_, _, rfl, o6⟩
  | 7, h => cases h; exact ⟨_, _, rfl, o7⟩
  | 8, h => cases h; exact ⟨_, _, rfl, o8⟩
  | 9, h => cases h; exact ⟨_, _, rfl, o9⟩
  | 10, h => cases h; exact ⟨_, _, rfl, o10⟩
  | 11, h => cases h; exact ⟨_, _, rfl, o11⟩
  | 12, h => cases h; exact ⟨_, _, rfl, o12⟩
  | 13, h => cases h; exact ⟨_, _, rfl, o13⟩
  | 14, h => cases h; exact ⟨_, _, rfl, o14⟩
  | 15, h => cases h; exact ⟨_, _, rfl, o15⟩
  | _ + 16, h => simp [ds] at h
theorem kw : KwAll G fn ds := by
  exact kw_none rfl
end K04
namespace K04
open PySem PySem.Spec PyProof.Rows L2 Lt
abbrev fa : List He.Fa := faOf G [.glo "FORMS"]
abbrev RR : PySem.W.OpenRow := PySem.W.OpenLaw.row PySem.Challenge.rw_unmadethings_k04_told_of_programs
abbrev hk : PySem.W.Hook := He.hookX 4 fa fn (tsOf tabs) [] (exOf tabs)
def ob (s : PySem.W.SharedT) : He.AlX := He.obsX 4 fa fn (tsOf tabs) [] (exOf tabs) (HandSHeadRun.getT s)
theorem ob_eq (s : PySem.W.SharedT) : ob s = hk.obs s.abs := He.obsX_eq (HandSHeadRun.getT_eq s)
def loose : List Str := ["FORMS", "function_of", "kind_of", "locals_in", "locals_of", "_law_pool", "_law_draw", "_law_words", "_law_one", "_law_part", "_law_forms", "_law_row", "_law_function", "_law_row_last", "_law_program", "_law_locals"]
theorem run_at (w : World) (b : Bool) : HandSHeadRun.RunEq RR (PySem.W.view RR.prog [18]) hk ob 4000 loose (setFT w b) := by
  intro os
  cases b
  · kernel_rfl
  · kernel_rfl
theorem run (w : World) : HandSHeadRun.RunEq RR (PySem.W.view RR.prog [18]) hk ob 4000 loose w := by
  rw [setFT_eq w]
  exact run_at w _
end K04
namespace K04
open PySem L2 Lt
local macro_rules | `(tactic| wtm_at "wp1") => `(tactic| with_reducible first
  | refine s_cons ?_ | (refine s_nil ?_; try dsimp only [nxt, turn]) | refine s_asg ?_ | refine s_ret ?_ | refine s_ifs ?_ | refine s_ex ?_ | refine s_sub ?_
  | refine w_nil ?_ | refine w_cons ?_
  | refine w_cI ?_ | refine w_cS ?_ | refine w_cN ?_ | refine w_cB ?_
  | refine w_idx ?_ | refine w_call ?_ | refine w_bi ?_ | refine w_tup ?_ | refine w_lst ?_ | refine w_lstT ?_ | refine w_bin ?_ | refine w_neg ?_ | refine w_no ?_ | refine w_cmp ?_
  | refine w_dic0 ?_ | refine w_dic ?_ | refine w_bm ?_ | refine w_isi ?_ | refine w_frz ?_ | refine w_ifx ?_
  | refine t_cmp ?_ | refine t_and ?_ | refine t_or ?_ | refine t_not ?_ | refine t_of ?_
  | refine c_nil ?_ | refine c_one ?_ | refine i_seq ?_ | refine i_rng ?_)
local macro_rules | `(tactic| wtm_at "wp2") => `(tactic| first
  | (with_reducible refine w_nmE ?_; refine ⟨_, rfl, ?_⟩)
  | refine ⟨_, eq_int, ?_⟩ | refine ⟨_, eq_str, ?_⟩ | refine ⟨_, ne_int, ?_⟩ | refine ⟨_, ne_str, ?_⟩
  | ((with_reducible first | refine p_bi ?_ | refine p_bin ?_ | refine p_bm ?_ | refine p_mk ?_); refine ⟨_, _, rfl, ?_⟩)
  | refine ⟨_, rfl, ?_⟩ | refine and_ff ?_ | refine and_tt ?_)
local macro_rules | `(tactic| wtm_at "wp") => `(tactic| repeat (first | wtm_at "wp1" | (wtm_at "wp2"; try dsimp only [nxt, turn, List.set])))
local macro_rules | `(tactic| wtm_at "wp1") => `(tactic| with_reducible first | refine w_sl ?_ | refine w_and ?_ | refine w_or ?_ | refine s_retN ?_ | refine s_pass ?_ | refine s_brk ?_ | refine s_cont ?_)
local macro_rules | `(tactic| wtm_at "wp1") => `(tactic| with_reducible first | refine i_sgn ?_ | refine i_enum ?_ | refine i_zip ?_ | refine w_tab ?_ | refine w_tabIn ?_)
theorem eDraw (k : Nat) (as : List A) (S : List O) : I G ds (k + 1) 5 as S = runF G (I G ds k) drawF as S := I_succ G (by rfl) k as S
theorem ePool (k : Nat) (as : List A) (S : List O) : I G ds (k + 1) 4 as S = runF G (I G ds k) poolF as S := I_succ G (by rfl) k as S
theorem i_draw {k : Nat} {S : List O} {n : Nat} {m : Int} {P : A → List O → Prop} (hS : Pool S n) (hm : 0 < m) (hm2 : m < 1073741824)
    (h : ∀ d S', 0 ≤ d → d < m → Pool S' n → Ext n S S' → P (.int d) S') : okk (I G ds (k + 1) 5 [.ref n, .int m] S) P := by
  rw [eDraw]
  obtain ⟨d, S', e, h1, h2, h3, h4⟩ := draw_pool G (I G ds k) hS hm hm2
  exact .of e (h d S' h1 h2 h3 ⟨by rw [h4.len]; exact Nat.le_refl _, fun j a _ => h4.at_ j a⟩)
theorem Ext.app {n : Nat} {S : List O} (T : List O) : Ext n S (S ++ T) := ext_app n S T
theorem Ext.get {n : Nat} {S S' : List O} (h : Ext n S S') {j : Nat} {o : O} (hj : j ≠ n) (e : S[j]? = some o) : S'[j]? = some o := by
  rw [h.at_ j hj (List.getElem?_eq_some_iff.mp e).1]; exact e
def Wd_ (a : A) : Prop := ∃ l : List Nat, a = .str l ∧ l.length ≤ 8
/-- a draw among some -/
theorem i_one {k : Nat} {S : List O} {n : Nat} {xs : List A} {P : A → List O → Prop} (hS : Pool S n) (h0 : xs ≠ []) (hl : xs.length ≤ 100)
    (h : ∀ v S', v ∈ xs → Pool S' n → Ext n S S' → P v S') : okk (I G ds (k + 2) 7 [.ref n, .lst xs] S) P := by
  rw [I_succ G (fd := f7) (by rfl)]
  refine run_ok rfl ?_
  show oks (denSs G (I G ds (k + 1)) b7 [some (.ref n), some (.lst xs)] S) _
  rw [b7]
  wtm_at "wp"
  have hp : 0 < xs.length := List.length_pos_iff.mpr h0
  refine i_draw hS (by omega) (by omega) fun d S1 h1 h2 p1 o1 => pick h1 h2 fun v hv => ?_
  exact h v S1 hv p1 o1
def letters : List Nat := [97, 98, 99, 100, 101, 102, 103, 104, 105, 106, 107, 108, 109, 110, 111, 112, 113, 114, 115, 116, 117, 118, 119, 120, 121, 122]
theorem erase_perm {α : Type} : ∀ {l : List α} {i : Nat} (h : i < l.length), (l[i] :: l.eraseIdx i).Perm l
  | x :: l, 0, h => by simp
  | x :: l, i + 1, h => by
    have ih := erase_perm (l := l) (i := i) (by simpa using h)
    simp only [List.getElem_cons_succ, List.eraseIdx_cons_succ]
    exact (List.Perm.swap x _ _).trans (ih.cons x)
theorem strs_ok {xs : List A} (h : ∀ a ∈ xs, ∃ c, a = .str [c]) : ∃ ys : List (List Nat), strsO xs = some ys ∧ ys.length = xs.length ∧ ∀ y ∈ ys, y.length = 1 := by
  induction xs with
  | nil => exact ⟨[], rfl, rfl, fun y hy => (by cases hy)⟩
  | cons x xs ih =>
    obtain ⟨c, rfl⟩ := h x List.mem_cons_self
    obtain ⟨ys, e, l, q⟩ := ih fun a ha => h a (List.mem_cons_of_mem _ ha)
    refine ⟨[c] :: ys, by simp [strsO, e], by simp [l], fun y hy => ?_⟩
    rcases List.mem_cons.mp hy with rfl | hy
    · rfl
    · exact q y hy
theorem join_len : ∀ ys : List (List Nat), (∀ y ∈ ys, y.length = 1) → (joinN [] ys).length = ys.length
  | [], _ => rfl
  | [y], h => by simp [joinN, h y List.mem_cons_self]
  | y :: z :: r, h => by
    have ih := join_len (z :: r) fun a ha => h a (List.mem_cons_of_mem _ ha)
    simp only [joinN, List.append_nil, List.length_append, ih, h y List.mem_cons_self, List.length_cons]; omega
theorem sum_len : ∀ ys : List (List Nat), (∀ y ∈ ys, y.length = 1) → (ys.map List.length).sum = ys.length
  | [], _ => rfl
  | y :: r, h => by
    simp only [List.map_cons, List.sum_cons, sum_len r fun a ha => h a (List.mem_cons_of_mem _ ha), h y List.mem_cons_self, List.length_cons]; omega
/-- the words: each ends by a letter of its own -/
def Words (ws : List A) : Prop := ∃ ps : List (List Nat × Nat), ws = ps.map (fun p => A.str (p.1 ++ [p.2])) ∧ (ps.map (·.2)).Nodup ∧ ∀ p ∈ ps, p.1.length ≤ 7
theorem i_words {k : Nat} {S : List O} {n : Nat} {P : A → List O → Prop} (hS : Pool S n) (h : ∀ ws S', Words ws → ws.length = 20 → Pool S' n → Ext n S S' → P (.lst ws) S') : okk (I G ds (k + 2) 6 [.ref n, .int 20] S) P := by
  rw [I_succ G (fd := f6) (by rfl)]
  refine run_ok rfl ?_
  show oks (denSs G (I G ds (k + 1)) b6 [some (.ref n), some (.int 20), none, none, none, none] S) _
  rw [b6]
  have hz : (1000 : Nat) ≤ sizeLine := by decide
  wtm_at "wp"
  refine ⟨rfl, ?_⟩
  rw [e6_0]
  refine w_cons ?_
  refine w_lc (fun zs i acc S2 => acc.length = i ∧ (∀ a ∈ acc, ∃ c, a = .str [c]) ∧ Pool S2 n ∧ Ext n S S2) ?_
  wtm_at "wp"
  refine i_draw hS (by omega) (by omega) fun d1 S1 h1 h2 p1 o1 => ?_
  wtm_at "wp"
  refine i_draw p1 (by omega) (by omega) fun d2 S2 h3 h4 p2 o2 => ?_
  have hm : (0 : Int) ≤ d1 * d2 := Int.mul_nonneg h1 h3
  have hm2 : d1 * d2 ≤ 7 := by
    have : d1 = 0 ∨ d1 = 1 := by omega
    rcases this with rfl | rfl <;> omega
  wtm_at "wp"
  have sm : small d1 := by unfold small; omega
  refine p_bin ⟨.int (d1 * d2), S2, by simp only [binO]; rw [if_pos (Or.inl sm)], ?_⟩

  refine ⟨(d1 * d2).toNat, by rw [Int.toNat_of_nonneg hm], by omega, by rw [rngA_len]; omega, ⟨rfl, fun a ha => (by cases ha), p2, o1.trans o2⟩, ?_, ?_⟩
  · rintro i x acc T hx ⟨q1, q2, q3, q4⟩
    refine ⟨gd_nil _, _, rfl, c_nil ⟨fun _ => ?_, fun c => (by cases c)⟩⟩
    dsimp only [wipeT, List.map, List.set, List.foldl]
    wtm_at "wp"
    refine i_draw q3 (by omega) (by omega) fun d S3 h5 h6 p3 o3 => ?_
    obtain ⟨c, ec, _⟩ := at_mem letters d h5 (by simpa [letters] using h6)
    refine ⟨.str [c], by simp only [idxO]; rw [show ([97, 98, 99, 100, 101, 102, 103, 104, 105, 106, 107, 108, 109, 110, 111, 112, 113, 114, 115, 116, 117, 118, 119, 120, 121, 122] : List Nat) = letters from rfl, ec]; rfl, by simp; omega, fun a ha => ?_, p3, q4.trans o3⟩
    rcases List.mem_append.mp ha with ha | ha
    · exact q2 a ha
    · exact ⟨c, List.mem_singleton.mp ha⟩
  rintro cs T1 ⟨q1, q2, q3, q4⟩
  rw [rngA_len] at q1
  refine ⟨gd_nil _, ?_⟩
  wtm_at "wp"
  obtain ⟨ys, ey, ly, ly1⟩ := strs_ok q2
  have jl := join_len ys ly1
  refine p_bm ⟨.str (joinN [] ys), T1, by simp [bmO, seqO, ey, sum_len ys ly1]; omega, ?_⟩
  have hl : (joinN [] ys).length ≤ 7 := by omega
  generalize joinN [] ys = hd at hl ⊢
  wtm_at "wp"
  rw [e6_1]
  have at0 : (T1 ++ [O.lst (letters.map fun c => A.str [c])])[T1.length]? = some (.lst (letters.map fun c => A.str [c])) := by simp
  have hn : n < T1.length := by
    obtain ⟨a, b, g, _⟩ := q3
    exact (List.getElem?_eq_some_iff.mp g).1
  refine w_lc (fun zs i acc S2 => ∃ (ps : List (List Nat × Nat)) (ls : List Nat), acc = ps.map (fun p => A.str (p.1 ++ [p.2])) ∧ ps.length = i ∧ S2[T1.length]? = some (.lst (ls.map fun c => A.str [c])) ∧ ls.length = 26 - i ∧ ls.Nodup ∧ (ps.map (·.2)).Nodup ∧ (∀ p ∈ ps, p.2 ∉ ls) ∧ (∀ p ∈ ps, p.1.length ≤ 7) ∧ Pool S2 n ∧ Ext n S S2) ?_
  wtm_at "wp"
  refine ⟨by omega, by rw [rngA_len]; omega, ⟨[], letters, rfl, rfl, at0, rfl, by decide, List.nodup_nil, fun p hp => (by cases hp), fun p hp => (by cases hp), pool_app q3 _, q4.trans (ext_app _ _ _)⟩, ?_, ?_⟩
  · rintro i x acc T hx ⟨ps, ls, rfl, r1, r2, r3, r4, r5, r6, r7, r8, r9⟩
    obtain ⟨hi, rfl⟩ := rngA_at hx
    refine ⟨gd_nil _, _, rfl, c_nil ⟨fun _ => ?_, fun c => (by cases c)⟩⟩
    dsimp only [wipeT, List.map, List.set, List.foldl]
    wtm_at "wp"
    have e2 : ((i : Nat) : Int) % 2 = 0 ∨ ((i : Nat) : Int) % 2 = 1 := by omega
    obtain ⟨pre, epre, lpre⟩ : ∃ pre : List Nat, idxO T (.lst [.str hd, .str []]) (.int ((i : Int) % 2)) = some (.str pre) ∧ pre.length ≤ 7 := by
      rcases e2 with e2 | e2 <;> rw [e2]
      · exact ⟨hd, rfl, hl⟩
      · exact ⟨[], rfl, by simp⟩
    refine ⟨_, epre, ?_⟩
    wtm_at "wp"
    refine ⟨by simp [bmFit, lstO, der, r2], ?_⟩
    wtm_at "wp"
    refine p_bi ⟨.int ((26 - i : Nat) : Int), T, by simp [biO, lenO, seqO, r2, r3], ?_⟩
    wtm_at "wp"
    refine i_draw r8 (by omega) (by omega) fun d S3 h5 h6 p3 o3 => ?_
    have e3 : S3[T1.length]? = some (.lst (ls.map fun c => A.str [c])) := Ext.get o3 (by omega) r2
    wtm_at "wp"
    have hd2 : d.toNat < ls.length := by omega
    have sx : seqIndex? d (ls.map fun c => A.str [c]).length = some d.toNat := by
      unfold seqIndex?
      have hd0 : ¬ d < 0 := by omega
      simp only [hd0, if_false, List.length_map]
      rw [if_pos (by simp; omega)]
    have er : (ls.map fun c => A.str [c]).eraseIdx d.toNat = (ls.eraseIdx d.toNat).map fun c => A.str [c] := by
      rw [List.eraseIdx_eq_take_drop_succ, List.eraseIdx_eq_take_drop_succ, List.map_append, List.map_take, List.map_drop]
    have hb : -(2 ^ 63) ≤ d ∧ d < 2 ^ 63 := by omega
    obtain ⟨c, ec⟩ : ∃ c, ls[d.toNat]? = some c := ⟨_, List.getElem?_eq_getElem hd2⟩
    have em : (ls.map fun c => A.str [c])[d.toNat]? = some (.str [c]) := by rw [List.getElem?_map, ec]; rfl
    refine p_bm ⟨.str [c], S3.set T1.length (.lst ((ls.eraseIdx d.toNat).map fun c => A.str [c])), by simp only [bmO, e3]; rw [if_pos hb]; simp only [sx, em, er], ?_⟩
    have ecl : ls[d.toNat] = c := (List.getElem?_eq_some_iff.mp ec).2
    have pm : (c :: ls.eraseIdx d.toNat).Perm ls := ecl ▸ erase_perm hd2
    have nd := List.nodup_cons.mp (pm.nodup_iff.mpr r4)
    have cm : c ∈ ls := pm.subset List.mem_cons_self
    refine p_bin ⟨.str (pre ++ [c]), _, by simp only [binO]; rw [if_pos (by simp; omega)], ?_⟩
    have tl : T1.length < S3.length := (List.getElem?_eq_some_iff.mp e3).1
    refine ⟨ps ++ [(pre, c)], ls.eraseIdx d.toNat, by simp, by simp; omega, List.getElem?_set_self tl, ?_, nd.2, ?_, fun p hp => ?_, fun p hp => ?_, ?_, ?_⟩
    · have := pm.length_eq
      simp at this; omega
    · rw [List.map_append, List.nodup_append]
      refine ⟨r5, by simp, fun a ha b hb => ?_⟩
      obtain ⟨p, hp, rfl⟩ := List.mem_map.mp ha
      have : b = c := by simpa using hb
      subst this
      exact fun e => r6 p hp (e ▸ cm)
    · rcases List.mem_append.mp hp with hp | hp
      · exact fun hm => r6 p hp (List.eraseIdx_subset hm)
      · rw [List.mem_singleton.mp hp]; exact nd.1
    · rcases List.mem_append.mp hp with hp | hp
      · exact r7 p hp
      · rw [List.mem_singleton.mp hp]; exact lpre
    · obtain ⟨u, v, g7, g8⟩ := p3
      exact ⟨u, v, by rw [List.getElem?_set_ne (by omega)]; exact g7, g8⟩
    · refine ⟨by rw [List.length_set]; exact Nat.le_trans r9.len o3.len, fun j hj hl => ?_⟩
      have : j < T1.length := Nat.lt_of_lt_of_le hl q4.len
      rw [List.getElem?_set_ne (by omega)]
      exact (r9.trans o3).at_ j hj hl
  · rintro acc T ⟨ps, ls, rfl, r1, r2, r3, r4, r5, r6, r7, r8, r9⟩
    rw [rngA_len] at r1
    refine ⟨gd_nil _, ?_⟩
    wtm_at "wp"
    exact h _ _ ⟨ps, rfl, r5, r7⟩ (by simp [r1]) r8 r9
end K04
namespace K04
open PySem L2 Lt
local macro_rules | `(tactic| wtm_at "wp1") => `(tactic| with_reducible first
  | refine s_cons ?_ | (refine s_nil ?_; try dsimp only [nxt, turn]) | refine s_asg ?_ | refine s_ret ?_ | refine s_ifs ?_ | refine s_ex ?_ | refine s_sub ?_
  | refine w_nil ?_ | refine w_cons ?_
  | refine w_cI ?_ | refine w_cS ?_ | refine w_cN ?_ | refine w_cB ?_
  | refine w_idx ?_ | refine w_call ?_ | refine w_bi ?_ | refine w_tup ?_ | refine w_lst ?_ | refine w_lstT ?_ | refine w_bin ?_ | refine w_neg ?_ | refine w_no ?_ | refine w_cmp ?_
  | refine w_dic0 ?_ | refine w_dic ?_ | refine w_bm ?_ | refine w_isi ?_ | refine w_frz ?_ | refine w_ifx ?_
  | refine t_cmp ?_ | refine t_and ?_ | refine t_or ?_ | refine t_not ?_ | refine t_of ?_
  | refine c_nil ?_ | refine c_one ?_ | refine i_seq ?_ | refine i_rng ?_)
local macro_rules | `(tactic| wtm_at "wp2") => `(tactic| first
  | (with_reducible refine w_nmE ?_; refine ⟨_, rfl, ?_⟩)
  | refine ⟨_, eq_int, ?_⟩ | refine ⟨_, eq_str, ?_⟩ | refine ⟨_, ne_int, ?_⟩ | refine ⟨_, ne_str, ?_⟩
  | ((with_reducible first | refine p_bi ?_ | refine p_bin ?_ | refine p_bm ?_ | refine p_mk ?_); refine ⟨_, _, rfl, ?_⟩)
  | refine ⟨_, rfl, ?_⟩ | refine and_ff ?_ | refine and_tt ?_)
local macro_rules | `(tactic| wtm_at "wp") => `(tactic| repeat (first | wtm_at "wp1" | (wtm_at "wp2"; try dsimp only [nxt, turn, List.set])))
local macro_rules | `(tactic| wtm_at "wp1") => `(tactic| with_reducible first | refine w_sl ?_ | refine w_and ?_ | refine w_or ?_ | refine s_retN ?_ | refine s_pass ?_ | refine s_brk ?_ | refine s_cont ?_)
local macro_rules | `(tactic| wtm_at "wp1") => `(tactic| with_reducible first | refine i_sgn ?_ | refine i_enum ?_ | refine i_zip ?_ | refine w_tab ?_ | refine w_tabIn ?_)
/-- a row's word, its form in the program, its form here -/
def forms : List (List Nat × List Nat × List Nat) := [([115, 101, 116], [120, 110], [120, 110]), ([110, 111, 110, 101], [120], [120]), ([115, 97, 109, 101], [120, 120], [120, 120]), ([115, 117, 109], [120, 120, 120], [120, 120, 120]), ([108, 101, 115, 115], [120, 120, 120], [120, 120, 120]), ([117, 110, 100, 101, 114], [120, 120, 120], [120, 120, 120]), ([97, 108, 105, 107, 101], [120, 120, 120], [120, 120, 120]), ([109, 97, 107, 101], [120, 119], [120, 75]), ([114, 111, 111, 109], [120, 120, 119], [120, 120, 114]), ([112, 117, 116], [120, 119, 120], [120, 114, 120]), ([99, 97, 108, 108], [120, 119, 103], [120, 102, 103]), ([115, 101, 110, 100], [120, 120, 119, 103], [120, 120, 109, 103]), ([115, 104, 101, 108, 102], [120, 119], [120, 99]), ([107, 101, 101, 112], [119, 120], [99, 120]), ([115, 97, 121], [120], [120]), ([106, 117, 109, 112], [107], [107]), ([117, 110, 108, 101, 115, 115], [120, 107], [120, 107]), ([103, 105, 118, 101], [120], [120]), ([102, 97, 117, 108, 116], [120], [120]), ([116, 117, 114, 110], [119, 119, 119], [75, 109, 102])]
def LF : List A := forms.map fun e => A.tup [.str e.1, .str e.2.2]
theorem i_forms {k : Nat} {S : List O} {P : A → List O → Prop} (h : P (.lst LF) S) : okk (I G ds (k + 1) 9 [] S) P := by
  rw [I_succ G (fd := f9) (by rfl)]
  refine run_ok rfl ?_
  show oks (denSs G (I G ds k) b9 [none] S) _
  rw [b9]
  wtm_at "wp"
  exact h
/-- no object within, not deeper than d -/
def Pd (d : Nat) (a : A) : Prop := a.pure = true ∧ a.depth ≤ d
theorem Pd.all {d : Nat} : ∀ {xs : List A}, (∀ x ∈ xs, Pd d x) → A.pures xs = true ∧ A.depths xs ≤ d
  | [], _ => ⟨rfl, by simp [A.depths]⟩
  | x :: xs, h => by
    obtain ⟨a, b⟩ := Pd.all (xs := xs) fun y hy => h y (List.mem_cons_of_mem _ hy)
    obtain ⟨c, e⟩ := h x List.mem_cons_self
    exact ⟨by simp [A.pures, a, c], by simp only [A.depths]; omega⟩
theorem Pd.tup {d : Nat} {xs : List A} (h : ∀ x ∈ xs, Pd d x) : Pd (d + 1) (.tup xs) := by
  obtain ⟨a, b⟩ := Pd.all h
  exact ⟨by simpa [A.pure] using a, by simp only [A.depth]; omega⟩
theorem Pd.le {d e : Nat} {a : A} (h : Pd d a) (k : d ≤ e) : Pd e a := ⟨h.1, Nat.le_trans h.2 k⟩
theorem Wd_.pd {a : A} (h : Wd_ a) (d : Nat) : Pd d a := by
  obtain ⟨l, rfl, _⟩ := h
  exact ⟨rfl, by simp [A.depth]⟩
theorem pd_int (i : Int) (d : Nat) : Pd d (.int i) := ⟨rfl, by simp [A.depth]⟩
theorem pd_str (i : List Nat) (d : Nat) : Pd d (.str i) := ⟨rfl, by simp [A.depth]⟩
/-- what stands where a form has a sign -/
structure Pt (fs : List A) (s : Nat) (a : A) : Prop where
  pd : Pd 2 a
  x : s = 120 → Wd_ a
  g : s = 103 → ∃ ws, a = .tup ws ∧ ws.length ≤ 4 ∧ ∀ w ∈ ws, Wd_ w
  f : s = 102 → a ∈ fs
def Some_ (ws : List A) : Prop := ws ≠ [] ∧ ws.length ≤ 20 ∧ ∀ w ∈ ws, Wd_ w
/-- the names at nd -/
def Nm (S : List O) (nd : Nat) (fs : List A) : Prop := ∃ kvs, S[nd]? = some (.dic false kvs) ∧ ∀ s ∈ ([120, 75, 99, 114, 109, 102] : List Nat), ∃ ws, valO kvs (.str [s]) = some (.lst ws) ∧ Some_ ws ∧ (s = 102 → ws = fs)
theorem Nm.ext {S S' : List O} {n nd : Nat} {fs : List A} (h : Nm S nd fs) (ne : nd ≠ n) (e : Ext n S S') : Nm S' nd fs := by
  obtain ⟨kvs, a, b⟩ := h
  exact ⟨kvs, Ext.get e ne a, b⟩
theorem Nm.at_ {S : List O} {nd : Nat} {fs : List A} (h : Nm S nd fs) {s : Nat} (hs : s ∈ ([120, 75, 99, 114, 109, 102] : List Nat)) : ∃ ws, idxO S (.ref nd) (.str [s]) = some (.lst ws) ∧ Some_ ws ∧ (s = 102 → ws = fs) := by
  obtain ⟨kvs, a, b⟩ := h
  obtain ⟨ws, c, d⟩ := b s hs
  exact ⟨ws, by simp [idxO, seqO, dicO, a, fitKey, Lt.keyOf, c], d⟩
/-- a few words drawn -/
theorem i_few {k : Nat} {S : List O} {n nd : Nat} {fs : List A} {c : E} {P : A → List O → Prop} (t : Tau) (j : Nat) (own : List (Str × Nat)) {kk : IK} {src : List E} (hS : Pool S n) (hN : Nm S nd fs) (ne : nd ≠ n)
    (hb : okk (iD G (I G ds (k + 2)) kk src t S) fun xg S1 => xg.2 = [] ∧ xg.1.length ≤ 4 ∧ Pool S1 n ∧ Ext n S S1) (ht : ∀ x, T.asg (.nm j) x (wipeT t (own.map (·.2))) = some ((wipeT t (own.map (·.2))).set j (some x)))
    (hv : ∀ x, ((wipeT t (own.map (·.2))).set j (some x))[0]? = some (some (.ref n))) (hc : ∀ x S (Q : A → List O → Prop), Q (.ref nd) S → okk (den G (I G ds (k + 2)) c ((wipeT t (own.map (·.2))).set j (some x)) S) Q)
    (h : ∀ ws S', ws.length ≤ 4 → (∀ w ∈ ws, Wd_ w) → Pool S' n → Ext n S S' → P (.lst ws) S') : okk (den G (I G ds (k + 2)) (.lc false (.call 7 [(.nm 0), (.idx c (.cS [120]))]) (.nm j) kk src [] own) t S) P := by
  refine w_lc (fun xs i acc S2 => acc.length = i ∧ (∀ w ∈ acc, Wd_ w) ∧ Pool S2 n ∧ Ext n S S2) ?_
  refine hb.imp ?_
  rintro ⟨xs, g⟩ S1 ⟨hg, hl, p1, o1⟩
  have hz : (1000 : Nat) ≤ sizeLine := by decide
  dsimp only at hg hl ⊢
  subst hg
  refine ⟨by omega, ⟨rfl, fun w hw => (by cases hw), p1, o1⟩, ?_, ?_⟩
  · rintro i x acc T hx ⟨q1, q2, q3, q4⟩
    refine ⟨gd_nil _, _, ht x, c_nil ⟨fun _ => ?_, fun c => (by cases c)⟩⟩
    refine w_call (w_cons (w_nm (hv x) (w_cons (w_idx (hc x T _ ?_)))))
    wtm_at "wp"
    obtain ⟨ws, ew, ⟨s1, s2, s3⟩, _⟩ := (hN.ext ne q4).at_ (s := 120) (by decide)
    refine ⟨_, ew, ?_⟩
    wtm_at "wp"
    refine i_one (k := k) q3 s1 (by omega) fun v S3 hm p3 o3 => ⟨by simp; omega, fun w hw => ?_, p3, q4.trans o3⟩
    rcases List.mem_append.mp hw with hw | hw
    · exact q2 w hw
    · rw [List.mem_singleton.mp hw]; exact s3 v hm
  · rintro acc T ⟨q1, q2, q3, q4⟩
    refine ⟨gd_nil _, okk.of rfl (h acc T (by omega) q2 q3 q4)⟩
end K04
namespace K04
open PySem L2 Lt
local macro_rules | `(tactic| wtm_at "wp1") => `(tactic| with_reducible first
  | refine s_cons ?_ | (refine s_nil ?_; try dsimp only [nxt, turn]) | refine s_asg ?_ | refine s_ret ?_ | refine s_ifs ?_ | refine s_ex ?_ | refine s_sub ?_
  | refine w_nil ?_ | refine w_cons ?_
  | refine w_cI ?_ | refine w_cS ?_ | refine w_cN ?_ | refine w_cB ?_
  | refine w_idx ?_ | refine w_call ?_ | refine w_bi ?_ | refine w_tup ?_ | refine w_lst ?_ | refine w_lstT ?_ | refine w_bin ?_ | refine w_neg ?_ | refine w_no ?_ | refine w_cmp ?_
  | refine w_dic0 ?_ | refine w_dic ?_ | refine w_bm ?_ | refine w_isi ?_ | refine w_frz ?_ | refine w_ifx ?_
  | refine t_cmp ?_ | refine t_and ?_ | refine t_or ?_ | refine t_not ?_ | refine t_of ?_
  | refine c_nil ?_ | refine c_one ?_ | refine i_seq ?_ | refine i_rng ?_)
local macro_rules | `(tactic| wtm_at "wp2") => `(tactic| first
  | (with_reducible refine w_nmE ?_; refine ⟨_, rfl, ?_⟩)
  | refine ⟨_, eq_int, ?_⟩ | refine ⟨_, eq_str, ?_⟩ | refine ⟨_, ne_int, ?_⟩ | refine ⟨_, ne_str, ?_⟩
  | ((with_reducible first | refine p_bi ?_ | refine p_bin ?_ | refine p_bm ?_ | refine p_mk ?_); refine ⟨_, _, rfl, ?_⟩)
  | refine ⟨_, rfl, ?_⟩ | refine and_ff ?_ | refine and_tt ?_)
local macro_rules | `(tactic| wtm_at "wp") => `(tactic| repeat (first | wtm_at "wp1" | (wtm_at "wp2"; try dsimp only [nxt, turn, List.set])))
local macro_rules | `(tactic| wtm_at "wp1") => `(tactic| with_reducible first | refine w_sl ?_ | refine w_and ?_ | refine w_or ?_ | refine s_retN ?_ | refine s_pass ?_ | refine s_brk ?_ | refine s_cont ?_)
local macro_rules | `(tactic| wtm_at "wp1") => `(tactic| with_reducible first | refine i_sgn ?_ | refine i_enum ?_ | refine i_zip ?_ | refine w_tab ?_ | refine w_tabIn ?_)
theorem i_part {k : Nat} {S : List O} {n nd : Nat} {fs : List A} {s : Nat} {m : Int} {P : A → List O → Prop} (hS : Pool S n) (hN : Nm S nd fs) (ne : nd ≠ n) (hs : s ∈ ([110, 107, 103, 120, 75, 99, 114, 109, 102] : List Nat)) (hm : 0 < m) (hm2 : m < 1000)
    (h : ∀ v S', Pt fs s v → Pool S' n → Ext n S S' → P v S') : okk (I G ds (k + 3) 8 [.ref n, .str [s], .int m, .ref nd] S) P := by
  rw [I_succ G (fd := f8) (by rfl)]
  refine run_ok rfl ?_
  show oks (denSs G (I G ds (k + 2)) b8 [some (.ref n), some (.str [s]), some (.int m), some (.ref nd), none] S) _
  rw [b8]
  have none_ : ∀ {s : Nat} {v : A}, Pd 2 v → s ≠ 120 → s ≠ 103 → s ≠ 102 → Pt fs s v := fun a b c d => ⟨a, fun e => absurd e b, fun e => absurd e c, fun e => absurd e d⟩
  wtm_at "wp"
  refine ⟨fun c => ?_, fun c => ?_⟩
  · have e : s = 110 := by simpa using c
    subst e
    wtm_at "wp"
    refine i_draw hS (by omega) (by omega) fun d0 S1 h1 h2 p1 o1 => ?_
    wtm_at "wp"
    refine i_draw p1 (by omega) (by omega) fun d S2 h3 h4 p2 o2 => pick h3 h4 fun v hv => ?_
    wtm_at "wp"
    refine h _ _ (none_ ?_ (by decide) (by decide) (by decide)) p2 (o1.trans o2)
    simp only [List.mem_cons, List.not_mem_nil, or_false] at hv
    rcases hv with rfl | rfl | rfl | rfl | rfl | rfl | rfl | rfl <;> exact pd_int _ _
  wtm_at "wp"
  refine ⟨fun c => ?_, fun c => ?_⟩
  · have e : s = 107 := by simpa using c
    subst e
    wtm_at "wp"
    refine i_draw hS hm (by omega) fun d S2 h3 h4 p2 o2 => ?_
    wtm_at "wp"
    exact h _ _ (none_ (pd_int _ _) (by decide) (by decide) (by decide)) p2 o2
  wtm_at "wp"
  refine ⟨fun c => ?_, fun c => ?_⟩
  · have e : s = 103 := by simpa using c
    subst e
    wtm_at "wp"
    rw [e8_0]
    refine i_few (k := k) (nd := nd) [some (.ref n), some (.str [103]), some (.int m), some (.ref nd), none] 4 [("turn", 4)] hS hN ne ?_ (fun x => rfl) (fun x => rfl) (fun x S Q q => w_nm rfl q) fun ws S2 l2 hw p2 o2 => ?_
    · wtm_at "wp"
      refine i_draw hS (by omega) (by omega) fun d S2 h3 h4 p2 o2 => ?_
      wtm_at "wp"
      exact ⟨d.toNat, by rw [Int.toNat_of_nonneg h3], by omega, rfl, by rw [rngA_len]; omega, p2, o2⟩
    wtm_at "wp"
    exact h _ _ ⟨Pd.tup fun w hq => (hw w hq).pd 1, fun e => absurd e (by decide), fun _ => ⟨ws, rfl, l2, hw⟩, fun e => absurd e (by decide)⟩ p2 o2
  wtm_at "wp"
  have hs' : s ∈ ([120, 75, 99, 114, 109, 102] : List Nat) := by
    rename_i c1 c2
    have c1 : s ≠ 110 := by simpa using c1
    have c2 : s ≠ 107 := by simpa using c2
    have c : s ≠ 103 := by simpa using c
    simp only [List.mem_cons, List.not_mem_nil, or_false] at hs ⊢
    omega
  obtain ⟨ws, ew, ⟨s1, s2, s3⟩, s4⟩ := hN.at_ hs'
  refine ⟨_, ew, ?_⟩
  wtm_at "wp"
  refine i_one (k := k) hS s1 (by omega) fun v S3 hv p3 o3 => ?_
  wtm_at "wp"
  refine h _ _ ⟨(s3 v hv).pd 2, fun _ => s3 v hv, fun e => ?_, fun e => by rw [← s4 e]; exact hv⟩ p3 o3
  subst e
  simp at hs'
/-- the params at pd -/
def Pr (S : List O) (pd : Nat) (fs : List A) : Prop := ∃ kvs, S[pd]? = some (.dic false kvs) ∧ ∀ f ∈ fs, ∃ l ws, f = .str l ∧ valO kvs f = some (.tup ws) ∧ ws.length ≤ 4 ∧ ∀ w ∈ ws, Wd_ w
theorem Pr.ext {S S' : List O} {n nd : Nat} {fs : List A} (h : Pr S nd fs) (ne : nd ≠ n) (e : Ext n S S') : Pr S' nd fs := by
  obtain ⟨kvs, a, b⟩ := h
  exact ⟨kvs, Ext.get e ne a, b⟩
theorem Pr.at_ {S : List O} {pd : Nat} {fs : List A} (h : Pr S pd fs) {f : A} (hf : f ∈ fs) : ∃ ws, idxO S (.ref pd) f = some (.tup ws) ∧ ws.length ≤ 4 ∧ ∀ w ∈ ws, Wd_ w := by
  obtain ⟨kvs, a, b⟩ := h
  obtain ⟨l, ws, rfl, c, d⟩ := b f hf
  exact ⟨ws, by simp [idxO, seqO, dicO, a, fitKey, Lt.keyOf, c], d⟩
/-- a row -/
def Fit (fs : List A) (fm : List Nat) (ths : List A) : Prop := ths.length = fm.length ∧ ∀ (j s : Nat) (a : A), fm[j]? = some s → ths[j]? = some a → Pt fs s a
def Row (fs : List A) (r : A) : Prop := ∃ e ∈ forms, ∃ ths, r = .tup (.str e.1 :: ths) ∧ Fit fs e.2.2 ths
theorem Fit.set {fs : List A} {fm : List Nat} {ths : List A} (h : Fit fs fm ths) {j s : Nat} {a : A} (e : fm[j]? = some s) (p : Pt fs s a) : Fit fs fm (ths.set j a) := by
  refine ⟨by simp [h.1], fun i t b h1 h2 => ?_⟩
  by_cases hij : j = i
  · subst hij
    rw [e] at h1; cases h1
    have hl : j < ths.length := by rw [h.1]; exact (List.getElem?_eq_some_iff.mp e).1
    rw [List.getElem?_set_self hl] at h2
    cases h2; exact p
  · rw [List.getElem?_set_ne hij] at h2
    exact h.2 i t b h1 h2
theorem sign_in : ∀ e ∈ forms, ∀ s ∈ e.2.2, s ∈ ([110, 107, 103, 120, 75, 99, 114, 109, 102] : List Nat) := by decide
theorem form_call : ∀ e ∈ forms, e.1 = [99, 97, 108, 108] → e.2.2 = [120, 102, 103] := by decide
theorem form_send : ∀ e ∈ forms, e.1 = [115, 101, 110, 100] → e.2.2 = [120, 120, 109, 103] := by decide
theorem form_len : ∀ e ∈ forms, e.2.2.length ≤ 4 := by decide
theorem set_lst {S : List O} {a j : Nat} {xs : List A} {v : A} (e : S[a]? = some (.lst xs)) (h : j < xs.length) : setO (.ref a) (.int (j : Nat)) v S = some (S.set a (.lst (xs.set j v))) := by
  have : ixN xs.length ((j : Nat) : Int) = some j := by
    unfold ixN
    rw [if_pos (by omega), if_pos (by omega)]
    simp
  simp only [setO, e, this]
theorem at_nat (xs : List A) (q : Nat) (a : A) (e : xs[q]? = some a) : atI xs (q : Int) = some a := by
  have hq := (List.getElem?_eq_some_iff.mp e).1
  unfold atI ixN
  rw [if_pos (by omega), if_pos (by omega)]
  simpa using e
theorem Ext.set {n : Nat} {S S' : List O} {a : Nat} {o : O} (h : Ext n S S') (ha : S.length ≤ a) : Ext n S (S'.set a o) :=
  ⟨by rw [List.length_set]; exact h.len, fun j hj hl => by rw [List.getElem?_set_ne (by omega)]; exact h.at_ j hj hl⟩
theorem pool_set {S : List O} {n a : Nat} {o : O} (h : Pool S n) (ne : a ≠ n) : Pool (S.set a o) n := by
  obtain ⟨u, v, g7, g8⟩ := h
  exact ⟨u, v, by rw [List.getElem?_set_ne ne]; exact g7, g8⟩
theorem i_row {k : Nat} {S : List O} {n nd pd : Nat} {fs : List A} {m : Int} {P : A → List O → Prop} (hS : Pool S n) (hN : Nm S nd fs) (ne : nd ≠ n) (hP : Pr S pd fs) (np : pd ≠ n) (hm : 0 < m) (hm2 : m < 1000)
    (h : ∀ v S', Row fs v → Pool S' n → Ext n S S' → P v S') : okk (I G ds (k + 4) 10 [.ref n, .int m, .ref nd, .ref pd] S) P := by
  rw [I_succ G (fd := f10) (by rfl)]
  refine run_ok rfl ?_
  show oks (denSs G (I G ds (k + 3)) b10 [some (.ref n), some (.int m), some (.ref nd), some (.ref pd), none, none, none, none, none, none, none] S) _
  rw [b10]
  have hz : (1000 : Nat) ≤ sizeLine := by decide
  wtm_at "wp"
  refine i_draw hS (by omega) (by omega) fun d0 S1 h1 h2 p1 o1 => ?_
  wtm_at "wp"
  refine i_draw p1 (by omega) (by omega) fun d S2 h3 h4 p2 o2 => pick h3 h4 fun v hv => ?_
  obtain ⟨q, rfl, q1, q2⟩ : ∃ q : Int, v = .int q ∧ 0 ≤ q ∧ q < 20 := by
    simp only [List.mem_cons, List.not_mem_nil, or_false] at hv
    rcases hv with rfl | rfl | rfl | rfl | rfl | rfl | rfl | rfl | rfl | rfl | rfl | rfl | rfl | rfl | rfl | rfl | rfl <;> exact ⟨_, rfl, by omega, by omega⟩
  wtm_at "wp"
  refine i_forms ?_
  wtm_at "wp"
  refine pick q1 q2 fun v hv => ?_
  obtain ⟨e, he, rfl⟩ := List.mem_map.mp hv
  have len4 := form_len e he
  have sg := sign_in e he
  have fc := form_call e he
  have fsd := form_send e he
  wtm_at "wp"
  have o12 := o1.trans o2
  rw [e10_0]
  refine w_lc (fun xs i acc S3 => acc.length = i ∧ (∀ (j s : Nat) (a : A), e.2.2[j]? = some s → acc[j]? = some a → Pt fs s a) ∧ Pool S3 n ∧ Ext n S S3) ?_
  wtm_at "wp"
  refine ⟨by rw [List.length_map]; omega, ⟨rfl, fun j s a h1 h2 => (by simp at h2), p2, o12⟩, ?_, ?_⟩
  · rintro i x acc T hx ⟨r1, r2, r3, r4⟩
    rw [List.getElem?_map] at hx
    obtain ⟨s, es, rfl⟩ := Option.map_eq_some_iff.mp hx
    refine ⟨gd_nil _, _, rfl, c_nil ⟨fun _ => ?_, fun c => (by cases c)⟩⟩
    dsimp only [wipeT, List.map, List.set, List.foldl]
    wtm_at "wp"
    refine i_part (k := k) r3 (hN.ext ne r4) ne (sg s (List.mem_of_getElem? es)) hm hm2 fun v S3 pt p3 o3 => ⟨by simp; omega, fun j t a h1 h2 => ?_, p3, r4.trans o3⟩
    by_cases hj : j < acc.length
    · rw [List.getElem?_append_left hj] at h2
      exact r2 j t a h1 h2
    · have hl := (List.getElem?_eq_some_iff.mp h2).1
      have hji : j = i := by simp at hl; omega
      subst hji
      rw [List.getElem?_append_right (by omega)] at h2
      have e1 : a = v := by simpa [r1] using h2.symm
      rw [es] at h1; cases h1
      rw [e1]; exact pt
  rintro ths T ⟨r1, r2, r3, r4⟩
  rw [List.length_map] at r1
  refine ⟨gd_nil _, ?_⟩
  wtm_at "wp"
  have fit : Fit fs e.2.2 ths := ⟨r1, r2⟩
  refine p_bin ⟨.ref T.length, T ++ [.lst (.str e.1 :: ths)], by simp [binO, der, mkL]; omega, ?_⟩
  have hr : (T ++ [O.lst (.str e.1 :: ths)])[T.length]? = some (.lst (.str e.1 :: ths)) := by simp
  have hST := r4.len
  have hn : n < S.length := by
    obtain ⟨a, b, g, _⟩ := hS
    exact (List.getElem?_eq_some_iff.mp g).1
  have p0 := pool_app r3 [O.lst (.str e.1 :: ths)]
  have o0 := r4.trans (ext_app n T [O.lst (.str e.1 :: ths)])
  generalize (T ++ [O.lst (.str e.1 :: ths)]) = S4 at hr p0 o0 ⊢
  have fin : ∀ (S5 : List O) (ths' : List A) (c9 c10 : Option A), Fit fs e.2.2 ths' → S5[T.length]? = some (.lst (.str e.1 :: ths')) → Pool S5 n → Ext n S S5 → oks (denSs G (I G ds (k + 3)) [.ret (.bi .tuple [(.nm 7)])] [some (.ref n), some (.int m), some (.ref nd), some (.ref pd), some (.int q), some (.str e.1), some (.str e.2.2), some (.ref T.length), none, c9, c10] S5) fun r => match r with | .rt a S1 => P a S1 | .nx _ S1 => P .non S1 | _ => False := by
    intro S5 ths' c9 c10 f1 f2 f3 f4
    wtm_at "wp"
    refine p_bi ⟨.tup (.str e.1 :: ths'), S5, by simp [biO, lstO, der, f2], ?_⟩
    wtm_at "wp"
    exact h _ _ ⟨e, he, ths', rfl, f1⟩ f3 f4
  have mid : ∀ (S5 : List O) (ths' : List A) (c9 c10 : Option A), Fit fs e.2.2 ths' → S5[T.length]? = some (.lst (.str e.1 :: ths')) → Pool S5 n → Ext n S S5 → oks (denSs G (I G ds (k + 3)) [.ifs (.and_ (.cmp .Eq (.nm 5) (.cS [115, 101, 110, 100])) (.cmp .Gt (.call 5 [(.nm 0), (.cI 4)]) (.cI 0))) [.asg (.sub (.nm 7) (.cI 4)) (.bi .tuple [e10_2])] [], .ret (.bi .tuple [(.nm 7)])] [some (.ref n), some (.int m), some (.ref nd), some (.ref pd), some (.int q), some (.str e.1), some (.str e.2.2), some (.ref T.length), none, c9, c10] S5) fun r => match r with | .rt a S1 => P a S1 | .nx _ S1 => P .non S1 | _ => False := by
    intro S5 ths' c9 c10 f1 f2 f3 f4
    refine s_cons (s_ifs ?_)
    wtm_at "wp"
    refine ⟨fun c => ?_, fun c => ?_⟩
    · have ef := fsd (by simpa using c)
      wtm_at "wp"
      refine i_draw f3 (by omega) (by omega) fun d S6 h1 h2 p6 o6 => ?_
      have o6 := f4.trans o6
      have g2 : S6[T.length]? = some (.lst (.str e.1 :: ths')) := by
        have := o6.len
        exact (Ext.get (S := S5) (n := n) ‹Ext n S5 S6› (by omega) f2)
      wtm_at "wp"
      refine ⟨fun c => ?_, fun c => ?_⟩
      · wtm_at "wp"
        rw [e10_2]
        refine i_few (k := k + 1) (nd := nd) [some (.ref n), some (.int m), some (.ref nd), some (.ref pd), some (.int q), some (.str e.1), some (.str e.2.2), some (.ref T.length), none, c9, c10] 10 [("turn", 10)] p6 (hN.ext ne o6) ne ?_ (fun x => rfl) (fun x => rfl) (fun x S Q q => w_nm rfl q) fun ws S7 l2 hw p7 o7 => ?_
        · wtm_at "wp"
          refine i_draw p6 (by omega) (by omega) fun d S2 h3 h4 p2 o2 => ?_
          wtm_at "wp"
          exact ⟨d.toNat, by rw [Int.toNat_of_nonneg h3], by omega, rfl, by rw [rngA_len]; omega, p2, o2⟩
        wtm_at "wp"
        have g3 : S7[T.length]? = some (.lst (.str e.1 :: ths')) := Ext.get o7 (by omega) g2
        have hl : 4 < (A.str e.1 :: ths').length := by rw [List.length_cons, f1.1, ef]; decide
        refine ⟨_, set_lst (j := 4) g3 hl, ?_⟩
        have tl : T.length < S7.length := (List.getElem?_eq_some_iff.mp g3).1
        try dsimp only [nxt]
        refine s_nil ?_
        dsimp only [nxt]
        refine fin _ (ths'.set 3 (.tup ws)) _ _ (f1.set (j := 3) (s := 103) (by rw [ef]; rfl) ⟨Pd.tup fun w hq => (hw w hq).pd 1, fun e => absurd e (by decide), fun _ => ⟨ws, rfl, l2, hw⟩, fun e => absurd e (by decide)⟩) (by rw [List.getElem?_set_self tl]; rfl) (pool_set p7 (by omega)) (Ext.set (o6.trans o7) r4.len)
      · try dsimp only [nxt]
        refine s_nil ?_
        dsimp only [nxt]
        exact fin _ ths' _ _ f1 g2 p6 o6
    · refine and_ff ?_
      refine s_nil ?_
      dsimp only [nxt]
      exact fin _ ths' _ _ f1 f2 f3 f4
  refine ⟨_, rfl, ?_⟩
  dsimp only [List.set]
  refine s_cons (s_ifs ?_)
  wtm_at "wp"
  refine ⟨fun c => ?_, fun c => ?_⟩
  · have ef := fc (by simpa using c)
    wtm_at "wp"
    refine i_draw p0 (by omega) (by omega) fun d S6 h1 h2 p6 o6 => ?_
    have g2 : S6[T.length]? = some (.lst (.str e.1 :: ths)) := Ext.get o6 (by omega) hr
    have o6 := o0.trans o6
    wtm_at "wp"
    refine ⟨fun c => ?_, fun c => ?_⟩
    · wtm_at "wp"
      rw [e10_1]
      have l3 : ths.length = 3 := by rw [r1, ef]; rfl
      obtain ⟨f, ef1⟩ : ∃ f, ths[1]? = some f := ⟨_, List.getElem?_eq_getElem (by omega)⟩
      have pf := r2 1 102 f (by rw [ef]; rfl) ef1
      obtain ⟨pws, epw, lpw, hpw⟩ := (hP.ext np o6).at_ (pf.f rfl)
      refine i_few (k := k + 1) (nd := nd) [some (.ref n), some (.int m), some (.ref nd), some (.ref pd), some (.int q), some (.str e.1), some (.str e.2.2), some (.ref T.length), none, none, none] 9 [("param", 9)] p6 (hN.ext ne o6) ne ?_ (fun x => rfl) (fun x => rfl) (fun x S Q q => w_nm rfl q) fun ws S7 l2 hw p7 o7 => ?_
      · refine i_seq ?_
        wtm_at "wp"
        refine ⟨f, ?_, ?_⟩
        · have : (A.str e.1 :: ths)[2]? = some f := by simpa using ef1
          have := at_nat _ 2 _ this
          simp only [idxO, seqO, g2]
          exact this
        wtm_at "wp"
        refine ⟨_, epw, ?_⟩
        wtm_at "wp"
        exact ⟨rfl, lpw, p6, Ext.refl _ _⟩
      wtm_at "wp"
      have g3 : S7[T.length]? = some (.lst (.str e.1 :: ths)) := Ext.get o7 (by omega) g2
      have hl : 3 < (A.str e.1 :: ths).length := by rw [List.length_cons]; omega
      refine ⟨_, set_lst (j := 3) g3 hl, ?_⟩
      have tl : T.length < S7.length := (List.getElem?_eq_some_iff.mp g3).1
      try dsimp only [nxt]
      refine s_nil ?_
      dsimp only [nxt]
      refine mid _ (ths.set 2 (.tup ws)) _ _ (fit.set (j := 2) (s := 103) (by rw [ef]; rfl) ⟨Pd.tup fun w hq => (hw w hq).pd 1, fun e => absurd e (by decide), fun _ => ⟨ws, rfl, l2, hw⟩, fun e => absurd e (by decide)⟩) (by rw [List.getElem?_set_self tl]; rfl) (pool_set p7 (by omega)) (Ext.set (o6.trans o7) r4.len)
    · try dsimp only [nxt]
      refine s_nil ?_
      dsimp only [nxt]
      exact mid _ ths _ _ fit g2 p6 o6
  · refine and_ff ?_
    refine s_nil ?_
    dsimp only [nxt]
    exact mid _ ths _ _ fit hr p0 o0
end K04
namespace K04
open PySem L2 Lt
local macro_rules | `(tactic| wtm_at "wp1") => `(tactic| with_reducible first
  | refine s_cons ?_ | (refine s_nil ?_; try dsimp only [nxt, turn]) | refine s_asg ?_ | refine s_ret ?_ | refine s_ifs ?_ | refine s_ex ?_ | refine s_sub ?_
  | refine w_nil ?_ | refine w_cons ?_
  | refine w_cI ?_ | refine w_cS ?_ | refine w_cN ?_ | refine w_cB ?_
  | refine w_idx ?_ | refine w_call ?_ | refine w_bi ?_ | refine w_tup ?_ | refine w_lst ?_ | refine w_lstT ?_ | refine w_bin ?_ | refine w_neg ?_ | refine w_no ?_ | refine w_cmp ?_
  | refine w_dic0 ?_ | refine w_dic ?_ | refine w_bm ?_ | refine w_isi ?_ | refine w_frz ?_ | refine w_ifx ?_
  | refine t_cmp ?_ | refine t_and ?_ | refine t_or ?_ | refine t_not ?_ | refine t_of ?_
  | refine c_nil ?_ | refine c_one ?_ | refine i_seq ?_ | refine i_rng ?_)
local macro_rules | `(tactic| wtm_at "wp2") => `(tactic| first
  | (with_reducible refine w_nmE ?_; refine ⟨_, rfl, ?_⟩)
  | refine ⟨_, eq_int, ?_⟩ | refine ⟨_, eq_str, ?_⟩ | refine ⟨_, ne_int, ?_⟩ | refine ⟨_, ne_str, ?_⟩
  | ((with_reducible first | refine p_bi ?_ | refine p_bin ?_ | refine p_bm ?_ | refine p_mk ?_); refine ⟨_, _, rfl, ?_⟩)
  | refine ⟨_, rfl, ?_⟩ | refine and_ff ?_ | refine and_tt ?_)
local macro_rules | `(tactic| wtm_at "wp") => `(tactic| repeat (first | wtm_at "wp1" | (wtm_at "wp2"; try dsimp only [nxt, turn, List.set])))
local macro_rules | `(tactic| wtm_at "wp1") => `(tactic| with_reducible first | refine w_sl ?_ | refine w_and ?_ | refine w_or ?_ | refine s_retN ?_ | refine s_pass ?_ | refine s_brk ?_ | refine s_cont ?_)
local macro_rules | `(tactic| wtm_at "wp1") => `(tactic| with_reducible first | refine i_sgn ?_ | refine i_enum ?_ | refine i_zip ?_ | refine w_tab ?_ | refine w_tabIn ?_)
theorem Fit.one {fs : List A} {s : Nat} {a : A} (p : Pt fs s a) : Fit fs [s] [a] := by
  refine ⟨rfl, fun j t b h1 h2 => ?_⟩
  cases j with
  | zero => cases h1; cases h2; exact p
  | succ j => simp at h1
theorem Fit.two {fs : List A} {s t : Nat} {a b : A} (p : Pt fs s a) (q : Pt fs t b) : Fit fs [s, t] [a, b] := by
  refine ⟨rfl, fun j u c h1 h2 => ?_⟩
  match j, h1, h2 with
  | 0, h1, h2 => cases h1; cases h2; exact p
  | 1, h1, h2 => cases h1; cases h2; exact q
  | j + 2, h1, h2 => simp at h1
theorem pt_int (fs : List A) (i : Int) {s : Nat} (h1 : s ≠ 120) (h2 : s ≠ 103) (h3 : s ≠ 102) : Pt fs s (.int i) := ⟨pd_int _ _, fun e => absurd e h1, fun e => absurd e h2, fun e => absurd e h3⟩
theorem pt_wd {fs : List A} {a : A} {s : Nat} (h : Wd_ a) (h2 : s ≠ 103) (h3 : s ≠ 102) : Pt fs s a := ⟨h.pd _, fun _ => h, fun e => absurd e h2, fun e => absurd e h3⟩
theorem i_row_last {k : Nat} {S : List O} {n nd : Nat} {fs : List A} {m : Int} {P : A → List O → Prop} (hS : Pool S n) (hN : Nm S nd fs) (ne : nd ≠ n) (hm : 0 < m) (hm2 : m < 1000)
    (h : ∀ v S', Row fs v → Pool S' n → Ext n S S' → P v S') : okk (I G ds (k + 3) 12 [.ref n, .int m, .ref nd] S) P := by
  rw [I_succ G (fd := f12) (by rfl)]
  refine run_ok rfl ?_
  show oks (denSs G (I G ds (k + 2)) b12 [some (.ref n), some (.int m), some (.ref nd), none] S) _
  rw [b12]
  wtm_at "wp"
  refine i_draw hS (by omega) (by omega) fun d S1 h1 h2 p1 o1 => ?_
  wtm_at "wp"
  refine ⟨fun c => ?_, fun c => ?_⟩
  · wtm_at "wp"
    refine i_draw p1 hm (by omega) fun d2 S2 h3 h4 p2 o2 => ?_
    wtm_at "wp"
    exact h _ _ ⟨([106, 117, 109, 112], [107], [107]), by decide, _, rfl, Fit.one (pt_int _ _ (by decide) (by decide) (by decide))⟩ p2 (o1.trans o2)
  · have d7 : d ≠ 7 := by simpa using c
    wtm_at "wp"
    refine pick (d := d / 6) (by omega) (by simp; omega) fun v hv => ?_
    wtm_at "wp"
    obtain ⟨ws, ew, ⟨s1, s2, s3⟩, _⟩ := (hN.ext ne o1).at_ (s := 120) (by decide)
    refine ⟨_, ew, ?_⟩
    wtm_at "wp"
    refine i_one (k := k) p1 s1 (by omega) fun x S2 hx p2 o2 => ?_
    wtm_at "wp"
    simp only [List.mem_cons, List.not_mem_nil, or_false] at hv
    rcases hv with rfl | rfl
    · exact h _ _ ⟨([103, 105, 118, 101], [120], [120]), by decide, _, rfl, Fit.one (pt_wd (s3 x hx) (by decide) (by decide))⟩ p2 (o1.trans o2)
    · exact h _ _ ⟨([102, 97, 117, 108, 116], [120], [120]), by decide, _, rfl, Fit.one (pt_wd (s3 x hx) (by decide) (by decide))⟩ p2 (o1.trans o2)
def Catch (c : A) : Prop := ∃ (a b d : Int) (w : A), c = .tup [.int a, .int b, .int d, w] ∧ Wd_ w
structure Fn (fs : List A) (v : A) where
  f : A
  ps : List A
  rows : List A
  cs : List A
  e : v = .tup [f, .tup ps, .tup rows, .tup cs]
  hf : f ∈ fs
  pl : ps.length ≤ 4
  hp : ∀ w ∈ ps, Wd_ w
  rl : rows.length ≤ 20
  hr : ∀ r ∈ rows, Row fs r
  cl : cs.length ≤ 2
  hc : ∀ c ∈ cs, Catch c
theorem i_function {k : Nat} {S : List O} {n nd pd : Nat} {fs : List A} {f : A} {P : A → List O → Prop} (hS : Pool S n) (hN : Nm S nd fs) (ne : nd ≠ n) (hP : Pr S pd fs) (np : pd ≠ n) (hf : f ∈ fs)
    (h : ∀ v S' (F : Fn fs v), F.f = f → Pool S' n → Ext n S S' → P v S') : okk (I G ds (k + 5) 11 [.ref n, f, .ref nd, .ref pd] S) P := by
  rw [I_succ G (fd := f11) (by rfl)]
  refine run_ok rfl ?_
  show oks (denSs G (I G ds (k + 4)) b11 [some (.ref n), some f, some (.ref nd), some (.ref pd), none, none, none, none, none, none, none] S) _
  rw [b11]
  have hz : (1000 : Nat) ≤ sizeLine := by decide
  have hn : n < S.length := by
    obtain ⟨a, b, g, _⟩ := hS
    exact (List.getElem?_eq_some_iff.mp g).1
  wtm_at "wp"
  refine i_draw hS (by omega) (by omega) fun d0 S1 h1 h2 p1 o1 => ?_
  wtm_at "wp"
  rw [e11_0]
  refine w_lc (fun xs i acc S3 => acc.length = i ∧ (∀ r ∈ acc, Row fs r) ∧ Pool S3 n ∧ Ext n S S3) ?_
  wtm_at "wp"
  refine i_draw p1 (by omega) (by omega) fun d1 S2 h3 h4 p2 o2 => ?_
  wtm_at "wp"
  refine ⟨d1.toNat, by rw [Int.toNat_of_nonneg h3], by omega, by rw [rngA_len]; omega, ⟨rfl, fun r hr => (by cases hr), p2, o1.trans o2⟩, ?_, ?_⟩
  · rintro i x acc T hx ⟨r1, r2, r3, r4⟩
    refine ⟨gd_nil _, _, rfl, c_nil ⟨fun _ => ?_, fun c => (by cases c)⟩⟩
    dsimp only [wipeT, List.map, List.set, List.foldl]
    wtm_at "wp"
    obtain ⟨ws, ew, ⟨s1, s2, s3⟩, _⟩ := (hN.ext ne r4).at_ (s := 120) (by decide)
    refine ⟨_, ew, ?_⟩
    wtm_at "wp"
    refine i_one (k := k + 2) r3 s1 (by omega) fun x S3 hx p3 o3 => ?_
    wtm_at "wp"
    have o3 := r4.trans o3
    obtain ⟨ws2, ew2, ⟨t1, t2, t3⟩, _⟩ := (hN.ext ne o3).at_ (s := 75) (by decide)
    refine ⟨_, ew2, ?_⟩
    wtm_at "wp"
    refine i_one (k := k + 2) p3 t1 (by omega) fun y S4 hy p4 o4 => ?_
    wtm_at "wp"
    refine ⟨by simp; omega, fun r hr => ?_, p4, o3.trans o4⟩
    rcases List.mem_append.mp hr with hr | hr
    · exact r2 r hr
    · rw [List.mem_singleton.mp hr]
      exact ⟨([109, 97, 107, 101], [120, 119], [120, 75]), by decide, _, rfl, Fit.two (pt_wd (s3 x hx) (by decide) (by decide)) (pt_wd (t3 y hy) (by decide) (by decide))⟩
  rintro ms T ⟨m1, m2, p3, o3⟩
  rw [rngA_len] at m1
  refine ⟨gd_nil _, ?_⟩
  wtm_at "wp"
  rw [e11_1]
  obtain ⟨tot, etot⟩ : ∃ tot : Int, tot = (ms.length : Int) + (2 + d0) := ⟨_, rfl⟩
  rw [← etot]
  refine w_lc (fun xs i acc S3 => acc.length = i ∧ (∀ r ∈ acc, Row fs r) ∧ Pool S3 n ∧ Ext n S S3) ?_
  wtm_at "wp"
  refine ⟨(1 + d0).toNat, by rw [Int.toNat_of_nonneg (by omega)]; congr 1; omega, by omega, by rw [rngA_len]; omega, ⟨rfl, fun r hr => (by cases hr), p3, o3⟩, ?_, ?_⟩
  · rintro i x acc T hx ⟨r1, r2, r3, r4⟩
    refine ⟨gd_nil _, _, rfl, c_nil ⟨fun _ => ?_, fun c => (by cases c)⟩⟩
    dsimp only [wipeT, List.map, List.set, List.foldl]
    wtm_at "wp"
    refine i_row (k := k) r3 (hN.ext ne r4) ne (hP.ext np r4) np (by omega) (by omega) fun v S3 hv p4 o4 => ⟨by simp; omega, fun r hr => ?_, p4, r4.trans o4⟩
    rcases List.mem_append.mp hr with hr | hr
    · exact r2 r hr
    · rw [List.mem_singleton.mp hr]; exact hv
  rintro rs T2 ⟨r1, r2, r3, r4⟩
  rw [rngA_len] at r1
  refine ⟨gd_nil _, ?_⟩
  have hrow : ∀ r ∈ ms ++ rs, Row fs r := fun r hr => by
    rcases List.mem_append.mp hr with hr | hr
    · exact m2 r hr
    · exact r2 r hr
  refine p_mk ⟨_, _, rfl, ?_⟩
  refine p_bin ⟨.ref T2.length, T2 ++ [.lst (ms ++ rs)], by simp [binO, der, mkL]; omega, ?_⟩
  have hr0 : (T2 ++ [O.lst (ms ++ rs)])[T2.length]? = some (.lst (ms ++ rs)) := by simp
  have p0 := pool_app r3 [O.lst (ms ++ rs)]
  have o0 := r4.trans (ext_app n T2 [O.lst (ms ++ rs)])
  have hlen := r4.len
  have hml : (ms ++ rs).length ≤ 11 := by simp; omega
  generalize (T2 ++ [O.lst (ms ++ rs)]) = S4 at hr0 p0 o0 ⊢
  generalize ms ++ rs = rows at hrow hr0 hml ⊢
  wtm_at "wp"
  refine ⟨by simp [bmFit, lstO, der, hr0], ?_⟩
  wtm_at "wp"
  refine i_row_last (k := k + 1) p0 (hN.ext ne o0) ne (by omega) (by omega) fun lr S5 hlr p5 o5 => ?_
  have hr5 := Ext.get o5 (by omega) hr0
  have tl5 : T2.length < S5.length := (List.getElem?_eq_some_iff.mp hr5).1
  wtm_at "wp"
  refine p_bm ⟨.non, S5.set T2.length (.lst (rows ++ [lr])), by simp [bmO, hr5]; omega, ?_⟩
  have hrow2 : ∀ r ∈ rows ++ [lr], Row fs r := fun r hr => by
    rcases List.mem_append.mp hr with hr | hr
    · exact hrow r hr
    · rw [List.mem_singleton.mp hr]; exact hlr
  have hr6 : (S5.set T2.length (.lst (rows ++ [lr])))[T2.length]? = some (.lst (rows ++ [lr])) := List.getElem?_set_self tl5
  have p6 := pool_set (o := .lst (rows ++ [lr])) p5 (show T2.length ≠ n by omega)
  have o6 := Ext.set (o := .lst (rows ++ [lr])) (o0.trans o5) hlen
  have hml2 : (rows ++ [lr]).length ≤ 12 := by simp; omega
  generalize (S5.set T2.length (.lst (rows ++ [lr]))) = S6 at hr6 p6 o6 ⊢
  generalize rows ++ [lr] = rows2 at hrow2 hr6 hml2 ⊢
  try dsimp only [nxt]
  wtm_at "wp"
  have hl6 : T2.length < S6.length := (List.getElem?_eq_some_iff.mp hr6).1
  rw [w11_0]
  refine s_loop (fun xs i τ U => ∃ c6 c9 c10 cs, τ = [some (.ref n), some f, some (.ref nd), some (.ref pd), some (.int (2 + d0)), some (.ref T2.length), c6, some (.int tot), some (.ref S6.length), c9, c10] ∧ Pool U n ∧ Ext n S U ∧ U[T2.length]? = some (.lst rows2) ∧ U[S6.length]? = some (.lst cs) ∧ cs.length = i ∧ ∀ c ∈ cs, Catch c) ?_
  wtm_at "wp"
  refine i_draw (pool_app p6 _) (by omega) (by omega) fun d3 S7 h5 h6 p7 o7 => ?_
  wtm_at "wp"
  have o67 := (ext_app n S6 [O.lst []]).trans o7
  refine ⟨(d3 / 4).toNat, by rw [Int.toNat_of_nonneg (by omega)], by omega, ⟨_, _, _, [], rfl, p7, o6.trans o67, Ext.get o67 (by omega) hr6, Ext.get o7 (by omega) (by simp), rfl, fun c hc => (by cases hc)⟩, ?_, ?_⟩
  · rintro i x τ U hx ⟨c6, c9, c10, cs, rfl, u1, u2, u3, u4, u5, u6⟩
    have hi := (List.getElem?_eq_some_iff.mp hx).1
    rw [rngA_len] at hi
    refine ⟨gd_nil _, _, rfl, ?_⟩
    rw [u11_0]
    dsimp only [List.set]
    wtm_at "wp"
    refine i_draw u1 (by omega) (by omega) fun a U1 a1 a2 p8 o8 => ?_
    wtm_at "wp"
    refine i_draw p8 (by omega) (by omega) fun b U2 a3 a4 p9 o9 => ?_
    have oo := o8.trans o9
    wtm_at "wp"
    refine ⟨by simp [bmFit, lstO, der, Ext.get oo (by omega) u4], ?_⟩
    wtm_at "wp"
    refine i_draw p9 (by omega) (by omega) fun c U3 a5 a6 p10 o10 => ?_
    have oo := oo.trans o10
    wtm_at "wp"
    obtain ⟨ws, ew, ⟨s1, s2, s3⟩, _⟩ := (hN.ext ne (u2.trans oo)).at_ (s := 120) (by decide)
    refine ⟨_, ew, ?_⟩
    wtm_at "wp"
    refine i_one (k := k + 2) p10 s1 (by omega) fun w U4 hw p11 o11 => ?_
    have oo := oo.trans o11
    wtm_at "wp"
    have g4 := Ext.get oo (by omega) u4
    have gl : S6.length < U4.length := (List.getElem?_eq_some_iff.mp g4).1
    refine p_bm ⟨.non, U4.set S6.length (.lst (cs ++ [.tup [.int a, .int (a + b), .int c, w]])), by simp [bmO, g4]; omega, ?_⟩
    try dsimp only [nxt]
    refine s_nil ?_
    have ol := o6.len
    refine ⟨_, _, _, cs ++ [.tup [.int a, .int (a + b), .int c, w]], rfl, pool_set p11 (by omega), Ext.set (u2.trans oo) ol, by rw [List.getElem?_set_ne (by omega)]; exact Ext.get oo (by omega) u3, List.getElem?_set_self gl, by simp; omega, fun q hq => ?_⟩
    rcases List.mem_append.mp hq with hq | hq
    · exact u6 q hq
    · rw [List.mem_singleton.mp hq]; exact ⟨_, _, _, _, rfl, s3 w hw⟩
  · rintro τ U ⟨c6, c9, c10, cs, rfl, u1, u2, u3, u4, u5, u6⟩
    rw [rngA_len] at u5
    refine ⟨gd_nil _, ?_⟩
    try dsimp only [nxt]
    wtm_at "wp"
    obtain ⟨ws, ew, lw, hw⟩ := (hP.ext np u2).at_ hf
    refine ⟨_, ew, ?_⟩
    wtm_at "wp"
    refine p_bi ⟨.tup rows2, U, by simp [biO, lstO, der, u3], ?_⟩
    wtm_at "wp"
    refine p_bi ⟨.tup cs, U, by simp [biO, lstO, der, u4], ?_⟩
    wtm_at "wp"
    exact h _ _ ⟨f, ws, rows2, cs, rfl, hf, lw, hw, by omega, hrow2, by omega, u6⟩ rfl u1 u2
end K04
namespace K04
open PySem L2 Lt
local macro_rules | `(tactic| wtm_at "wp1") => `(tactic| with_reducible first
  | refine s_cons ?_ | (refine s_nil ?_; try dsimp only [nxt, turn]) | refine s_asg ?_ | refine s_ret ?_ | refine s_ifs ?_ | refine s_ex ?_ | refine s_sub ?_
  | refine w_nil ?_ | refine w_cons ?_
  | refine w_cI ?_ | refine w_cS ?_ | refine w_cN ?_ | refine w_cB ?_
  | refine w_idx ?_ | refine w_call ?_ | refine w_bi ?_ | refine w_tup ?_ | refine w_lst ?_ | refine w_lstT ?_ | refine w_bin ?_ | refine w_neg ?_ | refine w_no ?_ | refine w_cmp ?_
  | refine w_dic0 ?_ | refine w_dic ?_ | refine w_bm ?_ | refine w_isi ?_ | refine w_frz ?_ | refine w_ifx ?_
  | refine t_cmp ?_ | refine t_and ?_ | refine t_or ?_ | refine t_not ?_ | refine t_of ?_
  | refine c_nil ?_ | refine c_one ?_ | refine i_seq ?_ | refine i_rng ?_)
local macro_rules | `(tactic| wtm_at "wp2") => `(tactic| first
  | (with_reducible refine w_nmE ?_; refine ⟨_, rfl, ?_⟩)
  | refine ⟨_, eq_int, ?_⟩ | refine ⟨_, eq_str, ?_⟩ | refine ⟨_, ne_int, ?_⟩ | refine ⟨_, ne_str, ?_⟩
  | ((with_reducible first | refine p_bi ?_ | refine p_bin ?_ | refine p_bm ?_ | refine p_mk ?_); refine ⟨_, _, rfl, ?_⟩)
  | refine ⟨_, rfl, ?_⟩ | refine and_ff ?_ | refine and_tt ?_)
local macro_rules | `(tactic| wtm_at "wp") => `(tactic| repeat (first | wtm_at "wp1" | (wtm_at "wp2"; try dsimp only [nxt, turn, List.set])))
local macro_rules | `(tactic| wtm_at "wp1") => `(tactic| with_reducible first | refine w_sl ?_ | refine w_and ?_ | refine w_or ?_ | refine s_retN ?_ | refine s_pass ?_ | refine s_brk ?_ | refine s_cont ?_)
local macro_rules | `(tactic| wtm_at "wp1") => `(tactic| with_reducible first | refine i_sgn ?_ | refine i_enum ?_ | refine i_zip ?_ | refine w_tab ?_ | refine w_tabIn ?_)
theorem cut_ab {α : Type} (xs : List α) {a b : Nat} (h1 : a ≤ xs.length) (h2 : b ≤ xs.length) : cutA xs (some (a : Int)) (some (b : Int)) = (xs.drop a).take (b - a) := by
  unfold cutA
  rw [HT.sIx_nat, HT.sIx_nat, Nat.min_eq_left h1, Nat.min_eq_left h2]
theorem cut_b {α : Type} (xs : List α) {b : Nat} (h2 : b ≤ xs.length) : cutA xs none (some (b : Int)) = xs.take b := by
  unfold cutA
  rw [HT.sIx_nat, Nat.min_eq_left h2]
  show (xs.drop 0).take (b - 0) = _
  simp
theorem Words.wd {ws : List A} (h : Words ws) : ∀ w ∈ ws, Wd_ w := by
  obtain ⟨ps, rfl, _, h⟩ := h
  intro w hw
  obtain ⟨p, hp, rfl⟩ := List.mem_map.mp hw
  exact ⟨_, rfl, by have := h p hp; simp; omega⟩
def Dst (fs : List A) : Prop := ∃ ls : List (List Nat), fs = ls.map A.str ∧ ls.Nodup
theorem Words.dst {ws : List A} (h : Words ws) : Dst ws := by
  obtain ⟨ps, rfl, h, hx⟩ := h
  clear hx
  refine ⟨ps.map fun p => p.1 ++ [p.2], by rw [List.map_map]; rfl, ?_⟩
  induction ps with
  | nil => exact List.nodup_nil
  | cons p ps ih =>
    obtain ⟨h1, h2⟩ := List.nodup_cons.mp h
    rw [List.map_cons, List.nodup_cons]
    refine ⟨fun hm => ?_, ih h2⟩
    obtain ⟨q, hq, e⟩ := List.mem_map.mp hm
    have : q.2 = p.2 := by
      have := congrArg List.getLast? e
      simpa using this
    exact h1 (by show p.2 ∈ _; rw [← this]; exact List.mem_map_of_mem (f := fun x : List Nat × Nat => x.2) hq)
theorem Dst.part {fs : List A} (h : Dst fs) (a b : Nat) : Dst ((fs.drop a).take b) := by
  obtain ⟨ls, rfl, h⟩ := h
  exact ⟨(ls.drop a).take b, by rw [List.map_take, List.map_drop], h.sublist ((List.take_sublist _ _).trans (List.drop_sublist _ _))⟩
theorem some_part {ws : List A} (hw : ∀ w ∈ ws, Wd_ w) (hl : ws.length = 20) {a b : Nat} (h1 : a < b) (h2 : b ≤ 20) : Some_ ((ws.drop a).take (b - a)) := by
  refine ⟨fun e => ?_, by simp; omega, fun w h => hw w (List.mem_of_mem_drop (List.mem_of_mem_take h))⟩
  have := congrArg List.length e
  simp [hl] at this
  omega
theorem str_eqv (a b : List Nat) : A.eqv (.str a) (.str b) = (a == b) := by simp [A.eqv]
def Has (Q : A → Prop) (kvs : List (A × A)) (f : A) : Prop := ∃ v, valO kvs f = some v ∧ Q v
theorem has_put {Q : A → Prop} {kvs : List (A × A)} {kk ff : List Nat} {v : A} (hQ : Q v) (h : Has Q kvs (.str ff) ∨ ff = kk) : Has Q (putO kvs (.str kk) v) (.str ff) := by
  unfold putO
  split
  · rename_i ha
    have ef : (kvs.map fun p => if p.1.eqv (.str kk) then (p.1, v) else p).find? (fun p => p.1.eqv (.str ff)) = (kvs.find? fun p => p.1.eqv (.str ff)).map fun p => if p.1.eqv (.str kk) then (p.1, v) else p := by
      rw [List.find?_map]
      congr 1
      congr 1
      funext p
      dsimp only [Function.comp]
      split <;> rfl
    have hs : ∃ p, kvs.find? (fun p => p.1.eqv (.str ff)) = some p ∧ (Q p.2 ∨ p.1.eqv (.str kk) = true) := by
      rcases h with ⟨w, hw, q⟩ | rfl
      · unfold valO at hw
        obtain ⟨p, e, rfl⟩ := Option.map_eq_some_iff.mp hw
        exact ⟨p, e, .inl q⟩
      · obtain ⟨p, hp, e⟩ := List.any_eq_true.mp ha
        cases hf : kvs.find? (fun p => p.1.eqv (.str ff)) with
        | none => exact absurd e (List.find?_eq_none.mp hf p hp)
        | some q => exact ⟨q, rfl, .inr (by simpa using List.find?_some hf)⟩
    obtain ⟨p, e, hq⟩ := hs
    refine ⟨(if p.1.eqv (.str kk) then (p.1, v) else p).2, by unfold valO; rw [ef, e]; rfl, ?_⟩
    split
    · exact hQ
    · rename_i c
      rcases hq with hq | hq
      · exact hq
      · exact absurd hq c
  · rename_i ha
    unfold Has valO
    rw [List.find?_append]
    cases hf : kvs.find? (fun p => p.1.eqv (.str ff)) with
    | some q =>
      rcases h with ⟨w, hw, hq⟩ | rfl
      · unfold valO at hw
        rw [hf] at hw
        exact ⟨w, by simpa using hw, hq⟩
      · exact absurd (List.any_eq_true.mpr ⟨q, List.mem_of_find?_eq_some hf, List.find?_some hf⟩) ha
    | none =>
      rcases h with ⟨w, hw, hq⟩ | rfl
      · unfold valO at hw
        rw [hf] at hw; cases hw
      · exact ⟨v, by simp [A.eqv], hQ⟩
theorem has_fold {Q : A → Prop} : ∀ (kvs : List (A × A)) (acc : List (A × A)) (ff : List Nat), (∀ p ∈ kvs, ∃ l, p.1 = .str l) → (∀ p ∈ kvs, Q p.2) → (Has Q acc (.str ff) ∨ A.str ff ∈ kvs.map (·.1)) → Has Q (kvs.foldl (fun acc p => putO acc p.1 p.2) acc) (.str ff)
  | [], acc, ff, _, _, h => by
    rcases h with h | h
    · exact h
    · cases h
  | p :: kvs, acc, ff, hk, hv, h => by
    obtain ⟨l, el⟩ := hk p List.mem_cons_self
    rw [List.foldl_cons]
    refine has_fold kvs _ ff (fun q hq => hk q (List.mem_cons_of_mem _ hq)) (fun q hq => hv q (List.mem_cons_of_mem _ hq)) ?_
    rw [el]
    rcases h with h | h
    · exact .inl (has_put (hv p List.mem_cons_self) (.inl h))
    · rw [List.map_cons] at h
      rcases List.mem_cons.mp h with h | h
      · rw [el] at h
        exact .inl (has_put (hv p List.mem_cons_self) (.inr (by simpa using h)))
      · exact .inr h
theorem pairs_of : ∀ (kvs : List (A × A)), (∀ p ∈ kvs, ∃ l, p.1 = .str l) → pairsO (kvs.map fun p => .tup [p.1, p.2]) = some kvs
  | [], _ => rfl
  | p :: kvs, h => by
    obtain ⟨l, el⟩ := h p List.mem_cons_self
    obtain ⟨k, v⟩ := p
    dsimp only at el
    subst el
    simp [pairsO, Lt.keyOf, pairs_of kvs fun q hq => h q (List.mem_cons_of_mem _ hq)]
theorem mk_pr {S : List O} {kvs : List (A × A)} {fs : List A} (h1 : ∀ p ∈ kvs, ∃ l, p.1 = .str l) (h2 : ∀ p ∈ kvs, ∃ ws, p.2 = .tup ws ∧ ws.length ≤ 4 ∧ ∀ w ∈ ws, Wd_ w) (h3 : kvs.map (·.1) = fs) : Pr (S ++ [.dic false (mergeO kvs)]) S.length fs := by
  refine ⟨mergeO kvs, by simp, fun f hf => ?_⟩
  rw [← h3] at hf
  obtain ⟨p, hp, rfl⟩ := List.mem_map.mp hf
  obtain ⟨l, el⟩ := h1 p hp
  rw [el]
  obtain ⟨v, e, ws, rfl, q⟩ := has_fold (Q := fun v => ∃ ws, v = .tup ws ∧ ws.length ≤ 4 ∧ ∀ w ∈ ws, Wd_ w) kvs [] l h1 h2 (.inr (by rw [← el]; exact List.mem_map_of_mem hp))
  exact ⟨l, ws, rfl, e, q⟩
def Named (v : A) : Prop := ∃ l r, v = .tup (.str l :: r)
structure Kind (v : A) : Prop where
  nm : Named v
  pd : Pd 6 v
end K04
namespace K04
open PySem L2 Lt
local macro_rules | `(tactic| wtm_at "wp1") => `(tactic| with_reducible first
  | refine s_cons ?_ | (refine s_nil ?_; try dsimp only [nxt, turn]) | refine s_asg ?_ | refine s_ret ?_ | refine s_ifs ?_ | refine s_ex ?_ | refine s_sub ?_
  | refine w_nil ?_ | refine w_cons ?_
  | refine w_cI ?_ | refine w_cS ?_ | refine w_cN ?_ | refine w_cB ?_
  | refine w_idx ?_ | refine w_call ?_ | refine w_bi ?_ | refine w_tup ?_ | refine w_lst ?_ | refine w_lstT ?_ | refine w_bin ?_ | refine w_neg ?_ | refine w_no ?_ | refine w_cmp ?_
  | refine w_dic0 ?_ | refine w_dic ?_ | refine w_bm ?_ | refine w_isi ?_ | refine w_frz ?_ | refine w_ifx ?_
  | refine t_cmp ?_ | refine t_and ?_ | refine t_or ?_ | refine t_not ?_ | refine t_of ?_
  | refine c_nil ?_ | refine c_one ?_ | refine i_seq ?_ | refine i_rng ?_)
local macro_rules | `(tactic| wtm_at "wp2") => `(tactic| first
  | (with_reducible refine w_nmE ?_; refine ⟨_, rfl, ?_⟩)
  | refine ⟨_, eq_int, ?_⟩ | refine ⟨_, eq_str, ?_⟩ | refine ⟨_, ne_int, ?_⟩ | refine ⟨_, ne_str, ?_⟩
  | ((with_reducible first | refine p_bi ?_ | refine p_bin ?_ | refine p_bm ?_ | refine p_mk ?_); refine ⟨_, _, rfl, ?_⟩)
  | refine ⟨_, rfl, ?_⟩ | refine and_ff ?_ | refine and_tt ?_)
local macro_rules | `(tactic| wtm_at "wp") => `(tactic| repeat (first | wtm_at "wp1" | (wtm_at "wp2"; try dsimp only [nxt, turn, List.set])))
local macro_rules | `(tactic| wtm_at "wp1") => `(tactic| with_reducible first | refine w_sl ?_ | refine w_and ?_ | refine w_or ?_ | refine s_retN ?_ | refine s_pass ?_ | refine s_brk ?_ | refine s_cont ?_)
local macro_rules | `(tactic| wtm_at "wp1") => `(tactic| with_reducible first | refine i_sgn ?_ | refine i_enum ?_ | refine i_zip ?_ | refine w_tab ?_ | refine w_tabIn ?_)
theorem sl_ab {ws : List A} {S : List O} {a b : Nat} {P : A → List O → Prop} (hl : ws.length = 20) (h1 : a ≤ 20) (h2 : b ≤ 20) (h : P (.lst ((ws.drop a).take (b - a))) S) : okk (slO false (.lst ws) (some (a : Int)) (some (b : Int)) S) P :=
  p_sl ⟨_, S, by show R.ok (A.lst (cutA ws (some (a : Int)) (some (b : Int)))) S = _; rw [cut_ab ws (by omega) (by omega)], h⟩
theorem sl_b {ws : List A} {S : List O} {b : Nat} {P : A → List O → Prop} (h2 : b ≤ ws.length) (h : P (.lst (ws.take b)) S) : okk (slO false (.lst ws) none (some (b : Int)) S) P :=
  p_sl ⟨_, S, by show R.ok (A.lst (cutA ws none (some (b : Int)))) S = _; rw [cut_b ws h2], h⟩
/-- what a program is -/
structure Prog (S : List O) (kd : Nat) (fs fns : List A) : Prop where
  ks : ∃ kinds, S[kd]? = some (.lst kinds) ∧ (∀ k ∈ kinds, Kind k) ∧ kinds.length ≤ 20
  dst : Dst fs
  fl : fns.length = fs.length
  fl2 : fs.length ≤ 20
  fn : ∀ (j : Nat) (v : A), fns[j]? = some v → ∃ F : Fn fs v, fs[j]? = some F.f
theorem dic_set {S : List O} {a : Nat} {kvs : List (A × A)} {l : List Nat} {v : A} (e : S[a]? = some (.dic false kvs)) (h : kvs.length < 1000000) : setO (.ref a) (.str l) v S = some (S.set a (.dic false (putO kvs (.str l) v))) := by
  simp [setO, e, fitKey, Lt.keyOf, h]
theorem i_program {k : Nat} {S : List O} {n : Nat} {P : A → List O → Prop} (hS : Pool S n)
    (h : ∀ kd fs fns S', Prog S' kd fs fns → Pool S' n → Ext n S S' → P (.tup [.ref kd, .lst fns]) S') : okk (I G ds (k + 6) 13 [.ref n, .int 4] S) P := by
  rw [I_succ G (fd := f13) (by rfl)]
  refine run_ok rfl ?_
  show oks (denSs G (I G ds (k + 5)) b13 [some (.ref n), some (.int 4), none, none, none, none, none, none, none, none, none] S) _
  rw [b13]
  have hz : (1000 : Nat) ≤ sizeLine := by decide
  have hn : n < S.length := by
    obtain ⟨a, b, g, _⟩ := hS
    exact (List.getElem?_eq_some_iff.mp g).1
  wtm_at "wp"
  refine i_words (k := k + 3) hS fun ws S1 hw hl p1 o1 => ?_
  have wd := hw.wd
  wtm_at "wp"
  refine i_draw p1 (by omega) (by omega) fun d1 S2 h1 h2 p2 o2 => ?_
  wtm_at "wp"
  have o2 := o1.trans o2
  obtain ⟨x1, rfl⟩ : ∃ x1 : Nat, d1 = (x1 : Int) := ⟨d1.toNat, by omega⟩
  have e1 : (2 : Int) + (x1 : Int) = ((2 + x1 : Nat) : Int) := by omega
  rw [e1]
  refine sl_b (by omega) ?_
  wtm_at "wp"
  refine i_draw p2 (by omega) (by omega) fun d2 S3 h3 h4 p3 o3 => ?_
  wtm_at "wp"
  have o3 := o2.trans o3
  obtain ⟨x2, rfl⟩ : ∃ x2 : Nat, d2 = (x2 : Int) := ⟨d2.toNat, by omega⟩
  have e2 : (7 : Int) + (x2 : Int) = ((7 + x2 : Nat) : Int) := by omega
  rw [e2]
  refine sl_ab (a := 6) hl (by omega) (by omega) ?_
  wtm_at "wp"
  refine sl_ab (a := 9) (b := 11) hl (by omega) (by omega) ?_
  wtm_at "wp"
  refine ⟨by decide, rfl, ?_⟩
  have s_x := some_part wd hl (a := 0) (b := 2 + x1) (by omega) (by omega)
  have s_K := some_part wd hl (a := 6) (b := 7 + x2) (by omega) (by omega)
  have s_c := some_part wd hl (a := 9) (b := 11) (by omega) (by omega)
  rw [List.drop_zero, Nat.sub_zero] at s_x
  generalize ws.take (2 + x1) = lx at s_x ⊢
  generalize (ws.drop 6).take (7 + x2 - 6) = lK at s_K ⊢
  generalize (ws.drop 9).take (11 - 9) = lc at s_c ⊢
  have n0 : (S3 ++ [O.dic false [(.str [120], .lst lx), (.str [75], .lst lK), (.str [99], .lst lc)]])[S3.length]? = some (.dic false [(.str [120], .lst lx), (.str [75], .lst lK), (.str [99], .lst lc)]) := by simp
  have h3l := o3.len
  have p4 := pool_app p3 [O.dic false [(.str [120], .lst lx), (.str [75], .lst lK), (.str [99], .lst lc)]]
  have o4 := o3.trans (ext_app n S3 [O.dic false [(.str [120], .lst lx), (.str [75], .lst lK), (.str [99], .lst lc)]])
  refine ⟨_, rfl, ?_⟩
  dsimp only [List.set]
  show oks (denSs G (I G ds (k + 5)) _ _ (S3 ++ [O.dic false [(.str [120], .lst lx), (.str [75], .lst lK), (.str [99], .lst lc)]])) _
  generalize (S3 ++ [O.dic false [(.str [120], .lst lx), (.str [75], .lst lK), (.str [99], .lst lc)]]) = S4 at n0 p4 o4 ⊢
  obtain ⟨nd, end_⟩ : ∃ nd, nd = S3.length := ⟨_, rfl⟩
  rw [← end_] at n0 ⊢
  have ndl : S.length ≤ nd := by omega
  have ne : nd ≠ n := by omega
  -- r
  wtm_at "wp"
  refine i_draw p4 (by omega) (by omega) fun d3 S5 h5 h6 p5 o5 => ?_
  wtm_at "wp"
  have n5 := Ext.get o5 ne n0
  have o5 := o4.trans o5
  obtain ⟨x3, rfl⟩ : ∃ x3 : Nat, d3 = (x3 : Int) := ⟨d3.toNat, by omega⟩
  have e3 : (12 : Int) + (x3 : Int) = ((12 + x3 : Nat) : Int) := by omega
  rw [e3]
  refine sl_ab (a := 11) hl (by omega) (by omega) ?_
  wtm_at "wp"
  refine ⟨_, dic_set n5 (by simp), ?_⟩
  have s_r := some_part wd hl (a := 11) (b := 12 + x3) (by omega) (by omega)
  generalize (ws.drop 11).take (12 + x3 - 11) = lr at s_r ⊢
  have t5 : nd < S5.length := (List.getElem?_eq_some_iff.mp n5).1
  have n6 : (S5.set nd (.dic false (putO [(.str [120], .lst lx), (.str [75], .lst lK), (.str [99], .lst lc)] (.str [114]) (.lst lr))))[nd]? = some (.dic false [(.str [120], .lst lx), (.str [75], .lst lK), (.str [99], .lst lc), (.str [114], .lst lr)]) := List.getElem?_set_self t5
  have p6 := pool_set (o := .dic false (putO [(.str [120], .lst lx), (.str [75], .lst lK), (.str [99], .lst lc)] (.str [114]) (.lst lr))) p5 ne
  have o6 := Ext.set (o := .dic false (putO [(.str [120], .lst lx), (.str [75], .lst lK), (.str [99], .lst lc)] (.str [114]) (.lst lr))) o5 ndl
  generalize (S5.set nd (.dic false (putO [(.str [120], .lst lx), (.str [75], .lst lK), (.str [99], .lst lc)] (.str [114]) (.lst lr)))) = S6 at n6 p6 o6 ⊢
  try dsimp only [nxt]
  -- m
  wtm_at "wp"
  refine i_draw p6 (by omega) (by omega) fun d4 S7 h7 h8 p7 o7 => ?_
  wtm_at "wp"
  have n7 := Ext.get o7 ne n6
  have o7 := o6.trans o7
  obtain ⟨x4, rfl⟩ : ∃ x4 : Nat, d4 = (x4 : Int) := ⟨d4.toNat, by omega⟩
  have e4 : (14 : Int) + (x4 : Int) = ((14 + x4 : Nat) : Int) := by omega
  rw [e4]
  refine sl_ab (a := 13) hl (by omega) (by omega) ?_
  wtm_at "wp"
  refine ⟨_, dic_set n7 (by simp), ?_⟩
  have s_m := some_part wd hl (a := 13) (b := 14 + x4) (by omega) (by omega)
  generalize (ws.drop 13).take (14 + x4 - 13) = lm at s_m ⊢
  have t7 : nd < S7.length := (List.getElem?_eq_some_iff.mp n7).1
  have n8 : (S7.set nd (.dic false (putO [(.str [120], .lst lx), (.str [75], .lst lK), (.str [99], .lst lc), (.str [114], .lst lr)] (.str [109]) (.lst lm))))[nd]? = some (.dic false [(.str [120], .lst lx), (.str [75], .lst lK), (.str [99], .lst lc), (.str [114], .lst lr), (.str [109], .lst lm)]) := List.getElem?_set_self t7
  have p8 := pool_set (o := .dic false (putO [(.str [120], .lst lx), (.str [75], .lst lK), (.str [99], .lst lc), (.str [114], .lst lr)] (.str [109]) (.lst lm))) p7 ne
  have o8 := Ext.set (o := .dic false (putO [(.str [120], .lst lx), (.str [75], .lst lK), (.str [99], .lst lc), (.str [114], .lst lr)] (.str [109]) (.lst lm))) o7 ndl
  generalize (S7.set nd (.dic false (putO [(.str [120], .lst lx), (.str [75], .lst lK), (.str [99], .lst lc), (.str [114], .lst lr)] (.str [109]) (.lst lm)))) = S8 at n8 p8 o8 ⊢
  try dsimp only [nxt]
  -- f
  wtm_at "wp"
  refine i_draw p8 (by omega) (by omega) fun d5 S9 h9 h10 p9 o9 => ?_
  wtm_at "wp"
  have n9 := Ext.get o9 ne n8
  have o9 := o8.trans o9
  obtain ⟨x5, rfl⟩ : ∃ x5 : Nat, d5 = (x5 : Int) := ⟨d5.toNat, by omega⟩
  have e5 : (16 : Int) + (x5 : Int) = ((16 + x5 : Nat) : Int) := by omega
  rw [e5]
  refine sl_ab (a := 15) hl (by omega) (by omega) ?_
  wtm_at "wp"
  refine ⟨_, dic_set n9 (by simp), ?_⟩
  have s_f := some_part wd hl (a := 15) (b := 16 + x5) (by omega) (by omega)
  have dst := hw.dst.part 15 (16 + x5 - 15)
  generalize (ws.drop 15).take (16 + x5 - 15) = fs at s_f dst ⊢
  have t9 : nd < S9.length := (List.getElem?_eq_some_iff.mp n9).1
  have n10 : (S9.set nd (.dic false (putO [(.str [120], .lst lx), (.str [75], .lst lK), (.str [99], .lst lc), (.str [114], .lst lr), (.str [109], .lst lm)] (.str [102]) (.lst fs))))[nd]? = some (.dic false [(.str [120], .lst lx), (.str [75], .lst lK), (.str [99], .lst lc), (.str [114], .lst lr), (.str [109], .lst lm), (.str [102], .lst fs)]) := List.getElem?_set_self t9
  have p10 := pool_set (o := .dic false (putO [(.str [120], .lst lx), (.str [75], .lst lK), (.str [99], .lst lc), (.str [114], .lst lr), (.str [109], .lst lm)] (.str [102]) (.lst fs))) p9 ne
  have o10 := Ext.set (o := .dic false (putO [(.str [120], .lst lx), (.str [75], .lst lK), (.str [99], .lst lc), (.str [114], .lst lr), (.str [109], .lst lm)] (.str [102]) (.lst fs))) o9 ndl
  generalize (S9.set nd (.dic false (putO [(.str [120], .lst lx), (.str [75], .lst lK), (.str [99], .lst lc), (.str [114], .lst lr), (.str [109], .lst lm)] (.str [102]) (.lst fs)))) = T0 at n10 p10 o10 ⊢
  have hN : Nm T0 nd fs := by
    refine ⟨_, n10, fun s hs => ?_⟩
    simp only [List.mem_cons, List.not_mem_nil, or_false] at hs
    rcases hs with rfl | rfl | rfl | rfl | rfl | rfl
    · exact ⟨lx, rfl, s_x, fun e => absurd e (by decide)⟩
    · exact ⟨lK, rfl, s_K, fun e => absurd e (by decide)⟩
    · exact ⟨lc, rfl, s_c, fun e => absurd e (by decide)⟩
    · exact ⟨lr, rfl, s_r, fun e => absurd e (by decide)⟩
    · exact ⟨lm, rfl, s_m, fun e => absurd e (by decide)⟩
    · exact ⟨fs, rfl, s_f, fun _ => rfl⟩
  have hT0 := o10.len
  have ndT : nd < T0.length := (List.getElem?_eq_some_iff.mp n10).1
  clear n0 n5 n6 n7 n8 n9 n10 p1 p2 p3 p4 p5 p6 p7 p8 p9 o1 o2 o3 o4 o5 o6 o7 o8 o9 s_x s_K s_c s_r s_m
  try dsimp only [nxt]
  wtm_at "wp"
  rw [e13_0]
  have at_ : ∀ {T : List O}, Ext n T0 T → ∀ {s : Nat}, s ∈ ([120, 75, 99, 114, 109, 102] : List Nat) → ∃ ws, idxO T (.ref nd) (.str [s]) = some (.lst ws) ∧ Some_ ws ∧ (s = 102 → ws = fs) := fun e s hs => (hN.ext ne e).at_ hs
  refine w_lc (fun xs i acc U => ∃ kvs : List (A × A), acc = kvs.map (fun p => .tup [p.1, p.2]) ∧ kvs.length = i ∧ (∀ p ∈ kvs, ∃ l, p.1 = .str l) ∧ (∀ p ∈ kvs, ∃ ws, p.2 = .tup ws ∧ ws.length ≤ 4 ∧ ∀ w ∈ ws, Wd_ w) ∧ kvs.map (·.1) = fs.take i ∧ Pool U n ∧ Ext n T0 U) ?_
  wtm_at "wp"
  obtain ⟨fs', ef, sf, hf⟩ := at_ (Ext.refl n T0) (s := 102) (by decide)
  have := hf rfl
  subst this
  obtain ⟨f1, f2, f3⟩ := s_f
  refine ⟨_, ef, ?_⟩
  wtm_at "wp"
  refine ⟨by omega, ⟨[], rfl, rfl, fun p hp => (by cases hp), fun p hp => (by cases hp), rfl, p10, Ext.refl _ _⟩, ?_, ?_⟩
  · rintro i x acc U hx ⟨kvs, rfl, q1, q2, q3, q4, q5, q6⟩
    obtain ⟨l, rfl, _⟩ := f3 x (List.mem_of_getElem? hx)
    refine ⟨gd_nil _, _, rfl, c_nil ⟨fun _ => ?_, fun c => (by cases c)⟩⟩
    dsimp only [wipeT, List.map, List.set, List.foldl]
    wtm_at "wp"
    obtain ⟨wx, ew, ⟨t1, t2, t3⟩, _⟩ := at_ q6 (s := 120) (by decide)
    refine ⟨_, ew, ?_⟩
    wtm_at "wp"
    refine i_draw q5 (by omega) (by omega) fun d U1 a1 a2 p11 o11 => ?_
    wtm_at "wp"
    refine p_sl ⟨.lst (cutA wx none (some d)), U1, rfl, ?_⟩
    have cl : (cutA wx none (some d)).length ≤ 4 := by
      obtain ⟨z, rfl⟩ : ∃ z : Nat, d = (z : Int) := ⟨d.toNat, by omega⟩
      unfold cutA
      rw [HT.sIx_nat]
      simp; omega
    have cm : ∀ w ∈ cutA wx none (some d), Wd_ w := fun w hw => t3 w (cutA_mem hw)
    wtm_at "wp"
    refine ⟨kvs ++ [(.str l, .tup (cutA wx none (some d)))], by simp, by simp; omega, fun p hp => ?_, fun p hp => ?_, ?_, p11, q6.trans o11⟩
    · rcases List.mem_append.mp hp with hp | hp
      · exact q2 p hp
      · rw [List.mem_singleton.mp hp]; exact ⟨l, rfl⟩
    · rcases List.mem_append.mp hp with hp | hp
      · exact q3 p hp
      · rw [List.mem_singleton.mp hp]; exact ⟨_, rfl, cl, cm⟩
    · rw [List.map_append, q4, List.take_add_one, hx]; rfl
  rintro acc U ⟨kvs, rfl, q1, q2, q3, q4, q5, q6⟩
  rw [List.take_length] at q4
  refine ⟨gd_nil _, ?_⟩
  wtm_at "wp"
  refine p_bi ⟨.ref U.length, U ++ [.dic false (mergeO kvs)], by simp [biO, lstO, der, pairs_of kvs q2], ?_⟩
  have hPr := mk_pr (S := U) q2 q3 q4
  have pdl : U.length ≠ n := by have := q6.len; omega
  have p11 := pool_app q5 [O.dic false (mergeO kvs)]
  have o11 := q6.trans (ext_app n U [O.dic false (mergeO kvs)])
  have ul : T0.length ≤ U.length := q6.len
  obtain ⟨pd, epd⟩ : ∃ pd, pd = U.length := ⟨_, rfl⟩
  have pdT : pd < (U ++ [O.dic false (mergeO kvs)]).length := by simp; omega
  rw [← epd] at hPr pdl ⊢
  generalize (U ++ [O.dic false (mergeO kvs)]) = U1 at hPr p11 o11 pdT ⊢
  wtm_at "wp"
  rw [w13_0]
  refine s_loop (fun xs i τ V => ∃ c7 c8 c9 kinds, τ = [some (.ref n), some (.int 4), some (.lst ws), some (.ref nd), some (.ref pd), none, some (.ref U1.length), c7, c8, c9, none] ∧ Pool V n ∧ Ext n U1 V ∧ V[U1.length]? = some (.lst kinds) ∧ kinds.length = i ∧ ∀ k ∈ kinds, Kind k) ?_
  wtm_at "wp"
  obtain ⟨lK, eK, ⟨k1, k2, k3⟩, _⟩ := at_ (o11.trans (ext_app n U1 [O.lst []])) (s := 75) (by decide)
  have uT := o11.len
  have nU : n < U1.length := by omega
  refine ⟨_, eK, ?_⟩
  wtm_at "wp"
  refine ⟨⟨_, _, _, [], rfl, pool_app p11 _, ext_app _ _ _, by simp, rfl, fun k hk => (by cases hk)⟩, ?_, ?_⟩
  · rintro i x τ V hx ⟨c7, c8, c9, kinds, rfl, v1, v2, v3, v4, v5⟩
    have hi := (List.getElem?_eq_some_iff.mp hx).1
    obtain ⟨l, rfl, _⟩ := k3 x (List.mem_of_getElem? hx)
    refine ⟨gd_nil _, _, rfl, ?_⟩
    rw [u13_0]
    dsimp only [List.set]
    wtm_at "wp"
    obtain ⟨lr, er, ⟨r1, r2, r3⟩, _⟩ := at_ (o11.trans v2) (s := 114) (by decide)
    refine ⟨_, er, ?_⟩
    wtm_at "wp"
    refine i_draw v1 (by omega) (by omega) fun d V1 a1 a2 p12 o12 => ?_
    have o12 := v2.trans o12
    wtm_at "wp"
    refine p_sl ⟨.lst (cutA lr none (some (1 + d))), V1, rfl, ?_⟩
    have cm : ∀ w ∈ cutA lr none (some (1 + d)), Wd_ w := fun w hw => r3 w (cutA_mem hw)
    generalize cutA lr none (some (1 + d)) = rooms at cm ⊢
    have g1 : V1[U1.length]? = some (.lst kinds) := Ext.get ‹Ext n V V1› (by omega) v3
    wtm_at "wp"
    rw [e13_1]
    refine w_lc (fun xs i acc Y => (∀ q ∈ acc, ∃ a b, q = .tup [a, b] ∧ Wd_ a ∧ Wd_ b) ∧ acc.length ≤ i ∧ Pool Y n ∧ Ext n U1 Y ∧ Y[U1.length]? = some (.lst kinds)) ?_
    wtm_at "wp"
    obtain ⟨lm, em, ⟨m1, m2, m3⟩, _⟩ := at_ (o11.trans o12) (s := 109) (by decide)
    refine ⟨_, em, ?_⟩
    wtm_at "wp"
    refine ⟨by omega, ⟨fun q hq => (by cases hq), by simp, p12, o12, g1⟩, ?_, ?_⟩
    · rintro j y acc Y hy ⟨y1, y2, y3, y4, y5⟩
      refine ⟨gd_nil _, _, rfl, c_one ?_⟩
      dsimp only [wipeT, List.map, List.set, List.foldl]
      wtm_at "wp"
      refine i_draw y3 (by omega) (by omega) fun d2 Y1 b1 b2 p13 o13 => ?_
      have g2 := Ext.get o13 (by omega) y5
      have o13 := y4.trans o13
      wtm_at "wp"
      refine ⟨fun c => ?_, fun c => ⟨y1, by omega, p13, o13, g2⟩⟩
      wtm_at "wp"
      obtain ⟨lf, ef2, ⟨z1, z2, z3⟩, _⟩ := at_ (o11.trans o13) (s := 102) (by decide)
      refine ⟨_, ef2, ?_⟩
      wtm_at "wp"
      refine i_one (k := k + 3) p13 z1 (by omega) fun w Y2 hw p14 o14 => ?_
      wtm_at "wp"
      refine ⟨fun q hq => ?_, by simp; omega, p14, o13.trans o14, Ext.get o14 (by omega) g2⟩
      rcases List.mem_append.mp hq with hq | hq
      · exact y1 q hq
      · rw [List.mem_singleton.mp hq]; exact ⟨_, _, rfl, m3 y (List.mem_of_getElem? hy), z3 w hw⟩
    rintro mt Y ⟨y1, y2, y3, y4, y5⟩
    refine ⟨gd_nil _, ?_⟩
    wtm_at "wp"
    refine ⟨by simp [bmFit, lstO, der, y5], ?_⟩
    wtm_at "wp"
    have yl : U1.length < Y.length := (List.getElem?_eq_some_iff.mp y5).1
    refine p_bm ⟨.non, Y.set U1.length (.lst (kinds ++ [.tup [.str l, .tup rooms, .tup mt]])), by simp [bmO, y5]; omega, ?_⟩
    try dsimp only [nxt]
    refine s_nil ?_
    refine ⟨_, _, _, kinds ++ [.tup [.str l, .tup rooms, .tup mt]], rfl, pool_set y3 (by omega), Ext.set y4 (Nat.le_refl _), List.getElem?_set_self yl, by simp; omega, fun q hq => ?_⟩
    rcases List.mem_append.mp hq with hq | hq
    · exact v5 q hq
    · rw [List.mem_singleton.mp hq]
      refine ⟨⟨_, _, rfl⟩, Pd.le (d := 4) (Pd.tup fun z hz => ?_) (by omega)⟩
      simp only [List.mem_cons, List.not_mem_nil, or_false] at hz
      rcases hz with rfl | rfl | rfl
      · exact pd_str _ _
      · exact Pd.tup fun w hw => (cm w hw).pd 2
      · refine Pd.tup fun w hw => ?_
        obtain ⟨a, b, rfl, ha, hb⟩ := y1 w hw
        refine Pd.tup fun z hz => ?_
        simp only [List.mem_cons, List.not_mem_nil, or_false] at hz
        rcases hz with rfl | rfl
        · exact ha.pd 1
        · exact hb.pd 1
  rintro τ V ⟨c7, c8, c9, kinds, rfl, v1, v2, v3, v4, v5⟩
  refine ⟨gd_nil _, ?_⟩
  try dsimp only [nxt]
  wtm_at "wp"
  rw [e13_2]
  refine w_lc (fun xs i acc Y => acc.length = i ∧ (∀ (j : Nat) (v : A), acc[j]? = some v → ∃ F : Fn fs' v, fs'[j]? = some F.f) ∧ Pool Y n ∧ Ext n U1 Y ∧ Y[U1.length]? = some (.lst kinds)) ?_
  wtm_at "wp"
  obtain ⟨fs2, ef2, sf2, hf2⟩ := at_ (o11.trans v2) (s := 102) (by decide)
  have := hf2 rfl
  subst this
  refine ⟨_, ef2, ?_⟩
  wtm_at "wp"
  refine ⟨by omega, ⟨rfl, fun j v hv => (by simp at hv), v1, v2, v3⟩, ?_, ?_⟩
  · rintro j y acc Y hy ⟨y1, y2, y3, y4, y5⟩
    refine ⟨gd_nil _, _, rfl, c_nil ⟨fun _ => ?_, fun c => (by cases c)⟩⟩
    dsimp only [wipeT, List.map, List.set, List.foldl]
    wtm_at "wp"
    have hPr2 : Pr Y pd fs2 := by
      obtain ⟨kvs, a, b⟩ := hPr
      exact ⟨kvs, Ext.get y4 pdl a, b⟩
    refine i_function (k := k) y3 (hN.ext ne (o11.trans y4)) ne hPr2 pdl (List.mem_of_getElem? hy) fun v Y1 F eF p13 o13 => ⟨by simp; omega, fun i w hw => ?_, p13, y4.trans o13, Ext.get o13 (by omega) y5⟩
    by_cases hj : i < acc.length
    · rw [List.getElem?_append_left hj] at hw
      exact y2 i w hw
    · have hl := (List.getElem?_eq_some_iff.mp hw).1
      have hij : i = acc.length := by simp at hl; omega
      subst hij
      rw [List.getElem?_append_right (Nat.le_refl _)] at hw
      have e1 : w = v := by simpa using hw.symm
      subst e1
      exact ⟨F, by rw [eF, y1]; exact hy⟩
  rintro fns Y ⟨y1, y2, y3, y4, y5⟩
  refine ⟨gd_nil _, ?_⟩
  wtm_at "wp"
  exact h _ fs2 fns Y ⟨⟨kinds, y5, v5, by omega⟩, dst, y1, f2, y2⟩ y3 (o10.trans (o11.trans y4))
end K04
namespace K04
open PySem L2 Lt
local macro_rules | `(tactic| wtm_at "wp1") => `(tactic| with_reducible first
  | refine s_cons ?_ | (refine s_nil ?_; try dsimp only [nxt, turn]) | refine s_asg ?_ | refine s_ret ?_ | refine s_ifs ?_ | refine s_ex ?_ | refine s_sub ?_
  | refine w_nil ?_ | refine w_cons ?_
  | refine w_cI ?_ | refine w_cS ?_ | refine w_cN ?_ | refine w_cB ?_
  | refine w_idx ?_ | refine w_call ?_ | refine w_bi ?_ | refine w_tup ?_ | refine w_lst ?_ | refine w_lstT ?_ | refine w_bin ?_ | refine w_neg ?_ | refine w_no ?_ | refine w_cmp ?_
  | refine w_dic0 ?_ | refine w_dic ?_ | refine w_bm ?_ | refine w_isi ?_ | refine w_frz ?_ | refine w_ifx ?_
  | refine t_cmp ?_ | refine t_and ?_ | refine t_or ?_ | refine t_not ?_ | refine t_of ?_
  | refine c_nil ?_ | refine c_one ?_ | refine i_seq ?_ | refine i_rng ?_)
local macro_rules | `(tactic| wtm_at "wp2") => `(tactic| first
  | (with_reducible refine w_nmE ?_; refine ⟨_, rfl, ?_⟩)
  | refine ⟨_, eq_int, ?_⟩ | refine ⟨_, eq_str, ?_⟩ | refine ⟨_, ne_int, ?_⟩ | refine ⟨_, ne_str, ?_⟩
  | ((with_reducible first | refine p_bi ?_ | refine p_bin ?_ | refine p_bm ?_ | refine p_mk ?_); refine ⟨_, _, rfl, ?_⟩)
  | refine ⟨_, rfl, ?_⟩ | refine and_ff ?_ | refine and_tt ?_)
local macro_rules | `(tactic| wtm_at "wp") => `(tactic| repeat (first | wtm_at "wp1" | (wtm_at "wp2"; try dsimp only [nxt, turn, List.set])))
local macro_rules | `(tactic| wtm_at "wp1") => `(tactic| with_reducible first | refine w_sl ?_ | refine w_and ?_ | refine w_or ?_ | refine s_retN ?_ | refine s_pass ?_ | refine s_brk ?_ | refine s_cont ?_)
local macro_rules | `(tactic| wtm_at "wp1") => `(tactic| with_reducible first | refine i_sgn ?_ | refine i_enum ?_ | refine i_zip ?_ | refine w_tab ?_ | refine w_tabIn ?_)
def hdN : A → List Nat
  | .tup (.str l :: _) => l
  | _ => []
def txt : A → List Nat
  | .str l => l
  | _ => []
def items : A → List A
  | .tup ws => ws
  | _ => []
def firstN (xs : List A) (nm : List Nat) : A := (xs.find? fun v => hdN v == nm).getD .non
theorem find_at {xs : List A} {p : A → Bool} {i : Nat} {x : A} (hx : xs[i]? = some x) (h : p x = true) (hl : ∀ (j : Nat) (y : A), j < i → xs[j]? = some y → p y = false) : xs.find? p = some x := by
  induction xs generalizing i with
  | nil => simp at hx
  | cons y ys ih =>
    cases i with
    | zero => cases hx; simp [h]
    | succ i =>
      have hy := hl 0 y (by omega) rfl
      rw [List.find?_cons, hy]
      exact ih (by simpa using hx) fun j z hj hz => hl (j + 1) z (by omega) (by simpa using hz)
theorem find_no {xs : List A} {p : A → Bool} (hl : ∀ (j : Nat) (y : A), xs[j]? = some y → p y = false) : xs.find? p = none := by
  rw [List.find?_eq_none]
  intro x hx
  obtain ⟨j, hj⟩ := List.getElem?_of_mem hx
  rw [hl j x hj]; decide
mutual
theorem eqv_refl : ∀ a : A, a.pure = true → a.eqv a = true
  | .non, _ => rfl
  | .bl b, _ => by simp [A.eqv]
  | .int i, _ => by simp [A.eqv]
  | .str l, _ => by simp [A.eqv]
  | .ref n, h => by simp [A.pure] at h
  | .scr xs, h => by simp [A.pure] at h
  | .ktup xs, h => by simp [A.pure] at h
  | .tup xs, h => by simp only [A.eqv]; exact eqvs_refl xs (by simpa [A.pure] using h)
  | .lst xs, h => by simp only [A.eqv]; exact eqvs_refl xs (by simpa [A.pure] using h)
theorem eqvs_refl : ∀ xs : List A, A.pures xs = true → A.eqvs xs xs = true
  | [], _ => rfl
  | x :: xs, h => by
    simp only [A.pures, Bool.and_eq_true] at h
    simp only [A.eqvs, Bool.and_eq_true]
    exact ⟨eqv_refl x h.1, eqvs_refl xs h.2⟩
end
theorem der_pd {d : Nat} {a : A} (S : List O) (h : Pd d a) : der S a = a := by
  cases a with
  | ref n => exact absurd h.1 (by simp [A.pure])
  | _ => rfl
theorem ne_self {d : Nat} {a : A} (S : List O) (h : Pd d a) (hd : d ≤ 60) : cmpO .NotEq a a S = some false := by
  have := h.2
  simp only [cmpO, eqO, der_pd S h]
  rw [if_pos (by simp [fitsEq, h.1]; omega), eqv_refl a h.1]; rfl
/-! ### first come -/
def addW (ks : List (List Nat)) (l : List Nat) : List (List Nat) := if l ∈ ks then ks else ks ++ [l]
def nubN (acc xs : List (List Nat)) : List (List Nat) := xs.foldl addW acc
theorem addW_mem (ks : List (List Nat)) (l w : List Nat) : w ∈ addW ks l ↔ w ∈ ks ∨ w = l := by
  unfold addW
  split
  · rename_i h
    exact ⟨.inl, fun e => e.elim id fun e => e ▸ h⟩
  · simp
theorem nubN_mem : ∀ (xs acc : List (List Nat)) (w : List Nat), w ∈ nubN acc xs ↔ w ∈ acc ∨ w ∈ xs
  | [], acc, w => by simp [nubN]
  | x :: xs, acc, w => by
    show w ∈ nubN (addW acc x) xs ↔ _
    rw [nubN_mem xs, addW_mem]
    simp [or_assoc]
theorem nubN_app (acc xs ys : List (List Nat)) : nubN acc (xs ++ ys) = nubN (nubN acc xs) ys := List.foldl_append ..
theorem nubN_len : ∀ (xs acc : List (List Nat)), (nubN acc xs).length ≤ acc.length + xs.length
  | [], acc => by simp [nubN]
  | x :: xs, acc => by
    show (nubN (addW acc x) xs).length ≤ _
    have h1 := nubN_len xs (addW acc x)
    have h2 : (addW acc x).length ≤ acc.length + 1 := by unfold addW; split <;> simp
    simp; omega
theorem nubN_nub (acc : List (List Nat)) : ∀ ws : List (List Nat), nubN acc (nubN [] ws) = nubN acc ws := by
  have key : ∀ (ws : List (List Nat)) (n : Nat), ws.length = n → nubN acc (nubN [] ws) = nubN acc ws := by
    intro ws n
    induction n generalizing ws with
    | zero => intro h; rw [List.length_eq_zero_iff.mp h]; rfl
    | succ n ih =>
      intro h
      rcases List.eq_nil_or_concat ws with rfl | ⟨vs, w, rfl⟩
      · simp at h
      · rw [List.concat_eq_append] at h ⊢
        have hv := ih vs (by simp at h; exact h)
        rw [nubN_app [] vs, nubN_app acc vs]
        show nubN acc (addW (nubN [] vs) w) = addW (nubN acc vs) w
        unfold addW
        by_cases hm : w ∈ vs
        · rw [if_pos ((nubN_mem vs [] w).mpr (.inr hm)), if_pos ((nubN_mem vs acc w).mpr (.inr hm))]
          exact hv
        · rw [if_neg (fun z => ((nubN_mem vs [] w).mp z).elim (fun z => by cases z) hm), nubN_app, hv]
          rfl
  exact fun ws => key ws _ rfl
theorem any_str (ks : List (List Nat)) (l : List Nat) : ((ks.map A.str).any fun z => z.eqv (.str l)) = decide (l ∈ ks) := by
  induction ks with
  | nil => rfl
  | cons k ks ih =>
    rw [List.map_cons, List.any_cons, ih]
    by_cases h : k = l
    · subst h; simp [A.eqv]
    · simp [A.eqv, h, Ne.symm h]
theorem put_keys (kvs : List (A × A)) (ks : List (List Nat)) (e : kvs.map (·.1) = ks.map A.str) (l : List Nat) (v : A) : (putO kvs (.str l) v).map (·.1) = (addW ks l).map A.str := by
  have ha : (kvs.any fun p => p.1.eqv (.str l)) = decide (l ∈ ks) := by
    rw [← any_str, ← e, List.any_map]; rfl
  unfold putO addW
  rw [ha]
  by_cases h : l ∈ ks
  · simp only [h, decide_true, if_true]
    rw [← e, List.map_map]
    apply List.map_congr_left
    intro p _
    dsimp only [Function.comp]
    split <;> rfl
  · simp [h, e]
theorem fold_keys : ∀ (more : List (A × A)) (kvs : List (A × A)) (ks ms : List (List Nat)), kvs.map (·.1) = ks.map A.str → more.map (·.1) = ms.map A.str → (more.foldl (fun acc p => putO acc p.1 p.2) kvs).map (·.1) = (nubN ks ms).map A.str
  | [], kvs, ks, ms, h, hm => by
    have : ms = [] := by cases ms with | nil => rfl | cons => simp at hm
    subst this
    exact h
  | p :: more, kvs, ks, ms, h, hm => by
    cases ms with
    | nil => simp at hm
    | cons m ms =>
      have hm' : p.1 = .str m ∧ more.map (·.1) = ms.map A.str := by simpa using hm
      rw [List.foldl_cons, hm'.1]
      exact fold_keys more _ (addW ks m) ms (put_keys kvs ks h m _) hm'.2
theorem strs_map {ws : List A} (h : ∀ w ∈ ws, Wd_ w) : ws = (ws.map txt).map A.str := by
  induction ws with
  | nil => rfl
  | cons w ws ih =>
    obtain ⟨l, rfl, _⟩ := h w List.mem_cons_self
    rw [List.map_cons, List.map_cons, ← ih fun z hz => h z (List.mem_cons_of_mem _ hz)]; rfl
/-! ### what a row tells -/
def c1 (s : Nat) (a : A) : List (List Nat) := if s = 120 then [txt a] else if s = 103 then (items a).map txt else []
def contrib : List Nat → List A → List (List Nat)
  | s :: fm, a :: ths => c1 s a ++ contrib fm ths
  | _, _ => []
def keyS (s : Nat) : Nat := if s = 120 then 1 else if s = 103 then 2 else 0
theorem c1_key {s t : Nat} (h : keyS s = keyS t) (a : A) : c1 s a = c1 t a := by
  unfold keyS at h
  unfold c1
  by_cases h1 : s = 120 <;> by_cases h2 : t = 120 <;> by_cases h3 : s = 103 <;> by_cases h4 : t = 103 <;> simp_all
theorem contrib_key : ∀ (fm fl : List Nat) (ths : List A), fm.map keyS = fl.map keyS → contrib fm ths = contrib fl ths
  | [], [], _, _ => by simp [contrib]
  | [], _ :: _, _, h => by simp at h
  | _ :: _, [], _, h => by simp at h
  | s :: fm, t :: fl, [], _ => by simp [contrib]
  | s :: fm, t :: fl, a :: ths, h => by
    have h' : keyS s = keyS t ∧ fm.map keyS = fl.map keyS := by simpa using h
    simp only [contrib]
    rw [c1_key h'.1, contrib_key fm fl ths h'.2]
theorem contrib_take (fm : List Nat) (ths : List A) {j s : Nat} {a : A} (h1 : fm[j]? = some s) (h2 : ths[j]? = some a) : contrib (fm.take (j + 1)) (ths.take (j + 1)) = contrib (fm.take j) (ths.take j) ++ c1 s a := by
  induction j generalizing fm ths with
  | zero =>
    cases fm with
    | nil => simp at h1
    | cons s' fm =>
      cases ths with
      | nil => simp at h2
      | cons a' ths =>
        cases h1; cases h2
        simp [contrib]
  | succ j ih =>
    cases fm with
    | nil => simp at h1
    | cons s' fm =>
      cases ths with
      | nil => simp at h2
      | cons a' ths =>
        have := ih fm ths (by simpa using h1) (by simpa using h2)
        simp only [List.take_succ_cons, contrib]
        rw [this, List.append_assoc]
theorem form_tab : ∀ e ∈ forms, ((G.tabs.lookup ("FORMS" : Str)).bind fun kvs => List.lookup e.1 kvs) = some (A.str e.2.1) := by
  intro e he
  simp only [forms, List.mem_cons, List.not_mem_nil, or_false] at he
  rcases he with rfl | rfl | rfl | rfl | rfl | rfl | rfl | rfl | rfl | rfl | rfl | rfl | rfl | rfl | rfl | rfl | rfl | rfl | rfl | rfl <;> rfl
theorem form_same : ∀ e ∈ forms, e.2.1.map keyS = e.2.2.map keyS := by decide
theorem form_one : ∀ e ∈ forms, (forms.filter fun f => f.1 == e.1).map (·.2.2) = [e.2.2] := by decide
def rowC (r : A) : List (List Nat) := match r with
  | .tup (.str w :: ths) => (match forms.find? fun f => f.1 == w with
    | some e => contrib e.2.2 ths
    | none => [])
  | _ => []
theorem form_find : ∀ e ∈ forms, forms.find? (fun f => f.1 == e.1) = some e := by decide
theorem rowC_eq {e : List Nat × List Nat × List Nat} (he : e ∈ forms) (ths : List A) : rowC (.tup (.str e.1 :: ths)) = contrib e.2.2 ths := by
  unfold rowC
  simp only [form_find e he]
end K04
namespace K04
open PySem L2 Lt
local macro_rules | `(tactic| wtm_at "wp1") => `(tactic| with_reducible first
  | refine s_cons ?_ | (refine s_nil ?_; try dsimp only [nxt, turn]) | refine s_asg ?_ | refine s_ret ?_ | refine s_ifs ?_ | refine s_ex ?_ | refine s_sub ?_
  | refine w_nil ?_ | refine w_cons ?_
  | refine w_cI ?_ | refine w_cS ?_ | refine w_cN ?_ | refine w_cB ?_
  | refine w_idx ?_ | refine w_call ?_ | refine w_bi ?_ | refine w_tup ?_ | refine w_lst ?_ | refine w_lstT ?_ | refine w_bin ?_ | refine w_neg ?_ | refine w_no ?_ | refine w_cmp ?_
  | refine w_dic0 ?_ | refine w_dic ?_ | refine w_bm ?_ | refine w_isi ?_ | refine w_frz ?_ | refine w_ifx ?_
  | refine t_cmp ?_ | refine t_and ?_ | refine t_or ?_ | refine t_not ?_ | refine t_of ?_
  | refine c_nil ?_ | refine c_one ?_ | refine i_seq ?_ | refine i_rng ?_)
local macro_rules | `(tactic| wtm_at "wp2") => `(tactic| first
  | (with_reducible refine w_nmE ?_; refine ⟨_, rfl, ?_⟩)
  | refine ⟨_, eq_int, ?_⟩ | refine ⟨_, eq_str, ?_⟩ | refine ⟨_, ne_int, ?_⟩ | refine ⟨_, ne_str, ?_⟩
  | ((with_reducible first | refine p_bi ?_ | refine p_bin ?_ | refine p_bm ?_ | refine p_mk ?_); refine ⟨_, _, rfl, ?_⟩)
  | refine ⟨_, rfl, ?_⟩ | refine and_ff ?_ | refine and_tt ?_)
local macro_rules | `(tactic| wtm_at "wp") => `(tactic| repeat (first | wtm_at "wp1" | (wtm_at "wp2"; try dsimp only [nxt, turn, List.set])))
local macro_rules | `(tactic| wtm_at "wp1") => `(tactic| with_reducible first | refine w_sl ?_ | refine w_and ?_ | refine w_or ?_ | refine s_retN ?_ | refine s_pass ?_ | refine s_brk ?_ | refine s_cont ?_)
local macro_rules | `(tactic| wtm_at "wp1") => `(tactic| with_reducible first | refine i_sgn ?_ | refine i_enum ?_ | refine i_zip ?_ | refine w_tab ?_ | refine w_tabIn ?_)
theorem i_kind_of {k : Nat} {S : List O} {kd : Nat} {kinds fns : List A} {nm : List Nat} {P : A → List O → Prop} (hk : S[kd]? = some (.lst kinds)) (hn : ∀ v ∈ kinds, Named v) (h : P (firstN kinds nm) S) : okk (I G ds (k + 1) 1 [.tup [.ref kd, .lst fns], .str nm] S) P := by
  rw [I_succ G (fd := f1) (by rfl)]
  refine run_ok rfl ?_
  show oks (denSs G (I G ds k) b1 [some (.tup [.ref kd, .lst fns]), some (.str nm), none] S) _
  rw [b1]
  wtm_at "wp"
  rw [w1_0]
  refine s_loop (fun xs i τ S4 => S4 = S ∧ (∃ c2, τ = [some (.tup [.ref kd, .lst fns]), some (.str nm), c2]) ∧ ∀ (j : Nat) (y : A), j < i → kinds[j]? = some y → (hdN y == nm) = false) ?_
  wtm_at "wp"
  refine ⟨kinds, by simp [seqO, hk], ⟨rfl, ⟨_, rfl⟩, fun j y hj => (by omega)⟩, ?_, ?_⟩
  · rintro i x τ T hx ⟨rfl, ⟨c2, rfl⟩, q⟩
    obtain ⟨l, r, rfl⟩ := hn x (List.mem_of_getElem? hx)
    refine ⟨fun p hp => ?_, _, rfl, ?_⟩
    · rw [List.mem_singleton.mp hp]; exact hk
    rw [u1_0]
    dsimp only [List.set]
    wtm_at "wp"
    refine ⟨.str l, by simp [idxO, seqO, atI, ixN], ?_⟩
    wtm_at "wp"
    refine ⟨fun c => ?_, fun c => ?_⟩
    · have e : l = nm := by simpa using c
      subst e
      wtm_at "wp"
      have := find_at (p := fun v => hdN v == l) hx (by simp [hdN]) q
      unfold firstN at h
      rw [this] at h
      exact h
    · refine s_nil ?_
      try dsimp only [nxt]
      refine s_nil ?_
      refine ⟨rfl, ⟨_, rfl⟩, fun j y hj hy => ?_⟩
      by_cases hji : j = i
      · subst hji
        rw [hx] at hy; cases hy
        simpa [hdN] using c
      · exact q j y (by omega) hy
  · rintro τ T ⟨rfl, ⟨c2, rfl⟩, q⟩
    refine ⟨fun p hp => by rw [List.mem_singleton.mp hp]; exact hk, ?_⟩
    try dsimp only [nxt]
    wtm_at "wp"
    unfold firstN at h
    rw [find_no fun j y hy => q j y (List.getElem?_eq_some_iff.mp hy).1 hy] at h
    exact h
theorem i_function_of {k : Nat} {S : List O} {kd : A} {fns : List A} {nm : List Nat} {P : A → List O → Prop} (hn : ∀ v ∈ fns, Named v) (h : P (firstN fns nm) S) : okk (I G ds (k + 1) 0 [.tup [kd, .lst fns], .str nm] S) P := by
  rw [I_succ G (fd := f0) (by rfl)]
  refine run_ok rfl ?_
  show oks (denSs G (I G ds k) b0 [some (.tup [kd, .lst fns]), some (.str nm), none] S) _
  rw [b0]
  wtm_at "wp"
  rw [w0_0]
  refine s_loop (fun xs i τ S4 => S4 = S ∧ (∃ c2, τ = [some (.tup [kd, .lst fns]), some (.str nm), c2]) ∧ ∀ (j : Nat) (y : A), j < i → fns[j]? = some y → (hdN y == nm) = false) ?_
  wtm_at "wp"
  refine ⟨⟨rfl, ⟨_, rfl⟩, fun j y hj => (by omega)⟩, ?_, ?_⟩
  · rintro i x τ T hx ⟨rfl, ⟨c2, rfl⟩, q⟩
    obtain ⟨l, r, rfl⟩ := hn x (List.mem_of_getElem? hx)
    refine ⟨gd_nil _, _, rfl, ?_⟩
    rw [u0_0]
    dsimp only [List.set]
    wtm_at "wp"
    refine ⟨.str l, by simp [idxO, seqO, atI, ixN], ?_⟩
    wtm_at "wp"
    refine ⟨fun c => ?_, fun c => ?_⟩
    · have e : l = nm := by simpa using c
      subst e
      wtm_at "wp"
      have := find_at (p := fun v => hdN v == l) hx (by simp [hdN]) q
      unfold firstN at h
      rw [this] at h
      exact h
    · refine s_nil ?_
      try dsimp only [nxt]
      refine s_nil ?_
      refine ⟨rfl, ⟨_, rfl⟩, fun j y hj hy => ?_⟩
      by_cases hji : j = i
      · subst hji
        rw [hx] at hy; cases hy
        simpa [hdN] using c
      · exact q j y (by omega) hy
  · rintro τ T ⟨rfl, ⟨c2, rfl⟩, q⟩
    refine ⟨gd_nil _, ?_⟩
    try dsimp only [nxt]
    wtm_at "wp"
    unfold firstN at h
    rw [find_no fun j y hy => q j y (List.getElem?_eq_some_iff.mp hy).1 hy] at h
    exact h
def catchT : A → List Nat
  | .tup [_, _, _, w] => txt w
  | _ => []
def seqF {fs : List A} {v : A} (F : Fn fs v) : List (List Nat) := F.ps.map txt ++ F.rows.flatMap rowC ++ F.cs.map catchT
theorem pre_set {S0 S : List O} {m : Nat} {o : O} (h : S0 <+: S) (hm : S0.length ≤ m) : S0 <+: S.set m o := by
  obtain ⟨t, rfl⟩ := h
  rw [List.set_append_right _ _ hm]
  exact List.prefix_append _ _
theorem asg_star (w : List Nat) (ths : List A) (τ : Tau) : T.asg (.star [6] 7) (.tup (.str w :: ths)) τ = some ((τ.set 6 (some (.str w))).set 7 (some (.lst ths))) := by
  simp [T.asg, asgN]
theorem wd_txt {w : A} (h : Wd_ w) : w = .str (txt w) := by
  obtain ⟨l, rfl, _⟩ := h
  rfl
theorem key120 {t : Nat} (h : keyS 120 = keyS t) : t = 120 := by
  unfold keyS at h
  by_cases h1 : t = 120
  · exact h1
  · by_cases h2 : t = 103 <;> simp [h1, h2] at h
theorem key103 {t : Nat} (h : keyS 103 = keyS t) : t = 103 := by
  unfold keyS at h
  by_cases h1 : t = 120
  · simp [h1] at h
  · by_cases h2 : t = 103
    · exact h2
    · simp [h1, h2] at h
/-- what a dict that was filled holds -/
def Keys (S : List O) (a : Nat) (L : List (List Nat)) (b : Nat) : Prop := ∃ kvs : List (A × A), S[a]? = some (.dic false kvs) ∧ kvs.map (·.1) = (nubN [] L).map A.str ∧ kvs.length ≤ b
/-- one row's things -/
theorem row_in {cal : Cal} {S0 S : List O} {a0 b : Nat} {L : List (List Nat)} {fs : List A} {e : List Nat × List Nat × List Nat} {ths : List A} {c0 c1' c2 c3 c4 c8 c9 c10 c11 c12 c13 c14 : Option A} {Z : SR → Prop} (he : e ∈ forms) (hf : Fit fs e.2.2 ths) (hp : S0 <+: S) (ha : S0.length ≤ a0) (hk : Keys S a0 L b) (hb : b ≤ 100000)
    (h : ∀ c8 c9 S', S0 <+: S' → Keys S' a0 (L ++ contrib e.2.2 ths) (b + 16) → Z (.nx [c0, c1', c2, c3, c4, some (.ref a0), some (.str e.1), some (.lst ths), c8, c9, c10, c11, c12, c13, c14] S')) : oks (denS G cal w2_0 [c0, c1', c2, c3, c4, some (.ref a0), some (.str e.1), some (.lst ths), c8, c9, c10, c11, c12, c13, c14] S) Z := by
  rw [w2_0]
  have len4 := form_len e he
  have fsm := form_same e he
  have hl2 : e.2.1.length = e.2.2.length := by
    have := congrArg List.length fsm
    simpa using this
  have hl := hf.1
  refine s_loop (fun xs j τ T => ∃ c8 c9, τ = [c0, c1', c2, c3, c4, some (.ref a0), some (.str e.1), some (.lst ths), c8, c9, c10, c11, c12, c13, c14] ∧ S0 <+: T ∧ Keys T a0 (L ++ contrib (e.2.1.take j) (ths.take j)) (b + 4 * j)) ?_
  refine i_zip ?_
  wtm_at "wp"
  refine ⟨_, _, rfl, form_tab e he, ?_⟩
  wtm_at "wp"
  have k0 : Keys S a0 (L ++ contrib (e.2.1.take 0) (ths.take 0)) (b + 4 * 0) := by simpa [contrib] using hk
  refine ⟨_, _, rfl, rfl, ⟨_, _, rfl, hp, k0⟩, ?_, ?_⟩
  · rintro j x τ T hx ⟨c8, c9, rfl, t1, kvs, t2, t3, t4⟩
    obtain ⟨sx, a, h1, h2, rfl⟩ := zipA_get _ _ _ _ hx
    rw [List.getElem?_map] at h1
    obtain ⟨s, es, rfl⟩ := Option.map_eq_some_iff.mp h1
    have hj : j < ths.length := (List.getElem?_eq_some_iff.mp h2).1
    obtain ⟨t, et⟩ : ∃ t, e.2.2[j]? = some t := ⟨_, List.getElem?_eq_getElem (by omega)⟩
    have ks : keyS s = keyS t := by
      have e1 : (e.2.1.map keyS)[j]? = some (keyS s) := by rw [List.getElem?_map, es]; rfl
      rw [fsm, List.getElem?_map, et] at e1
      exact (Option.some.inj e1).symm
    have pt := hf.2 j t a et h2
    have ct := contrib_take e.2.1 ths es h2
    have tl : a0 < T.length := (List.getElem?_eq_some_iff.mp t2).1
    refine ⟨gd_nil _, _, rfl, ?_⟩
    rw [u2_0]
    dsimp only [List.set]
    by_cases s1 : s = 120
    · subst s1
      have wd := wd_txt (pt.x (key120 ks))
      rw [wd]
      wtm_at "wp"
      refine ⟨_, dic_set t2 (by omega), ?_⟩
      try dsimp only [nxt]
      refine s_nil ?_
      dsimp only [nxt]
      wtm_at "wp"
      refine ⟨_, _, rfl, pre_set t1 ha, _, List.getElem?_set_self tl, ?_, ?_⟩
      · rw [put_keys _ _ t3, ct, ← List.append_assoc, nubN_app _ (L ++ _)]; rfl
      · have := putO_len kvs (.str (txt a)) (.bl true); omega
    · by_cases s2 : s = 103
      · subst s2
        obtain ⟨ws, rfl, lw, hw⟩ := pt.g (key103 ks)
        wtm_at "wp"
        refine ⟨by simp [bmFit, dicO, t2], ?_⟩
        wtm_at "wp"
        rw [e2_1]
        refine w_dc (fun xs i acc U => acc.map (·.1) = (nubN [] ((ws.take i).map txt)).map A.str ∧ U = T) ?_
        wtm_at "wp"
        refine ⟨by omega, ⟨rfl, rfl⟩, ?_, ?_⟩
        · rintro i w acc U hw' ⟨u1, rfl⟩
          have ww := wd_txt (hw w (List.mem_of_getElem? hw'))
          refine ⟨gd_nil _, _, rfl, c_nil ⟨fun _ => ?_, fun c => (by cases c)⟩⟩
          dsimp only [wipeT, List.map, List.set, List.foldl]
          wtm_at "wp"
          rw [ww]
          refine ⟨rfl, ?_, rfl⟩
          rw [put_keys _ _ u1, List.take_add_one, hw', List.map_append, nubN_app]; rfl
        · rintro acc U ⟨u1, rfl⟩
          rw [List.take_length] at u1
          refine ⟨gd_nil _, ?_⟩
          wtm_at "wp"
          have t2' : (U ++ [O.dic false acc])[a0]? = some (.dic false kvs) := by rw [List.getElem?_append_left tl]; exact t2
          have al : acc.length ≤ 4 := by
            have e1 := congrArg List.length u1
            have e2 := nubN_len (ws.map txt) []
            simp at e1 e2; omega
          refine p_bm ⟨.non, (U ++ [O.dic false acc]).set a0 (.dic false (acc.foldl (fun acc p => putO acc p.1 p.2) kvs)), ?_, ?_⟩
          · have e3 : (U ++ [O.dic false acc])[U.length]? = some (.dic false acc) := by simp
            simp only [bmO, t2', e3]
            rw [if_pos ⟨by omega, by omega⟩]
          try dsimp only [nxt]
          refine s_nil ?_
          dsimp only [nxt]
          refine s_nil ?_
          have fk := fold_keys acc kvs _ _ t3 u1
          refine ⟨_, _, rfl, pre_set (t1.trans (List.prefix_append _ _)) ha, _, List.getElem?_set_self (by simp; omega), ?_, ?_⟩
          · rw [fk, ct, ← List.append_assoc, nubN_app _ (L ++ _), nubN_nub]; rfl
          · have e1 := congrArg List.length fk
            have e2 := congrArg List.length t3
            have e4 := congrArg List.length u1
            have e3 := nubN_len (nubN [] (ws.map txt)) (nubN [] (L ++ contrib (e.2.1.take j) (ths.take j)))
            simp at e1 e2 e4; omega
      · have z : c1 s a = [] := by simp [c1, s1, s2]
        wtm_at "wp"
        refine ⟨fun c => absurd (by simpa using c) s1, fun c => ?_⟩
        refine s_nil ?_
        dsimp only [nxt]
        wtm_at "wp"
        refine ⟨fun c => absurd (by simpa using c) s2, fun c => ?_⟩
        refine s_nil ?_
        dsimp only [nxt]
        refine s_nil ?_
        refine ⟨_, _, rfl, t1, kvs, t2, ?_, by omega⟩
        rw [ct, z, List.append_nil]; exact t3
  · rintro τ T ⟨c8, c9, rfl, t1, kvs, t2, t3, t4⟩
    rw [zipA_len, List.length_map, hl, hl2, Nat.min_self] at t3 t4
    refine ⟨gd_nil _, h _ _ _ t1 ⟨kvs, t2, ?_, by omega⟩⟩
    rw [List.take_of_length_le (by omega), List.take_of_length_le (by omega), contrib_key _ _ _ fsm] at t3
    exact t3
end K04
namespace K04
open PySem L2 Lt
local macro_rules | `(tactic| wtm_at "wp1") => `(tactic| with_reducible first
  | refine s_cons ?_ | (refine s_nil ?_; try dsimp only [nxt, turn]) | refine s_asg ?_ | refine s_ret ?_ | refine s_ifs ?_ | refine s_ex ?_ | refine s_sub ?_
  | refine w_nil ?_ | refine w_cons ?_
  | refine w_cI ?_ | refine w_cS ?_ | refine w_cN ?_ | refine w_cB ?_
  | refine w_idx ?_ | refine w_call ?_ | refine w_bi ?_ | refine w_tup ?_ | refine w_lst ?_ | refine w_lstT ?_ | refine w_bin ?_ | refine w_neg ?_ | refine w_no ?_ | refine w_cmp ?_
  | refine w_dic0 ?_ | refine w_dic ?_ | refine w_bm ?_ | refine w_isi ?_ | refine w_frz ?_ | refine w_ifx ?_
  | refine t_cmp ?_ | refine t_and ?_ | refine t_or ?_ | refine t_not ?_ | refine t_of ?_
  | refine c_nil ?_ | refine c_one ?_ | refine i_seq ?_ | refine i_rng ?_)
local macro_rules | `(tactic| wtm_at "wp2") => `(tactic| first
  | (with_reducible refine w_nmE ?_; refine ⟨_, rfl, ?_⟩)
  | refine ⟨_, eq_int, ?_⟩ | refine ⟨_, eq_str, ?_⟩ | refine ⟨_, ne_int, ?_⟩ | refine ⟨_, ne_str, ?_⟩
  | ((with_reducible first | refine p_bi ?_ | refine p_bin ?_ | refine p_bm ?_ | refine p_mk ?_); refine ⟨_, _, rfl, ?_⟩)
  | refine ⟨_, rfl, ?_⟩ | refine and_ff ?_ | refine and_tt ?_)
local macro_rules | `(tactic| wtm_at "wp") => `(tactic| repeat (first | wtm_at "wp1" | (wtm_at "wp2"; try dsimp only [nxt, turn, List.set])))
local macro_rules | `(tactic| wtm_at "wp1") => `(tactic| with_reducible first | refine w_sl ?_ | refine w_and ?_ | refine w_or ?_ | refine s_retN ?_ | refine s_pass ?_ | refine s_brk ?_ | refine s_cont ?_)
local macro_rules | `(tactic| wtm_at "wp1") => `(tactic| with_reducible first | refine i_sgn ?_ | refine i_enum ?_ | refine i_zip ?_ | refine w_tab ?_ | refine w_tabIn ?_)
theorem i_locals_in {k : Nat} {S0 S : List O} {fs : List A} {v : A} {P : A → List O → Prop} (F : Fn fs v) (hp : S0 <+: S)
    (h : ∀ a S', S0.length ≤ a → S0 <+: S' → S'[a]? = some (.lst ((nubN [] (seqF F)).map A.str)) → (nubN [] (seqF F)).length ≤ 500 → P (.ref a) S') : okk (I G ds (k + 1) 2 [v] S) P := by
  obtain ⟨f, ps, rows, cs, rfl, hf, pl, hps, rl, hr, cl, hc⟩ := F
  rw [I_succ G (fd := f2) (by rfl)]
  refine run_ok rfl ?_
  show oks (denSs G (I G ds k) b2 [some (.tup [f, .tup ps, .tup rows, .tup cs]), none, none, none, none, none, none, none, none, none, none, none, none, none, none] S) _
  rw [b2]
  have hz : (1000 : Nat) ≤ sizeLine := by decide
  wtm_at "wp"
  rw [e2_0]
  refine w_lc (fun xs i acc U => ∃ kvs : List (A × A), acc = kvs.map (fun p => .tup [p.1, p.2]) ∧ kvs.map (·.1) = (ps.take i) ∧ U = S) ?_
  wtm_at "wp"
  refine ⟨by omega, ⟨[], rfl, rfl, rfl⟩, ?_, ?_⟩
  · rintro i x acc U hx ⟨kvs, rfl, q1, rfl⟩
    refine ⟨gd_nil _, _, rfl, c_nil ⟨fun _ => ?_, fun c => (by cases c)⟩⟩
    dsimp only [wipeT, List.map, List.set, List.foldl]
    wtm_at "wp"
    refine ⟨kvs ++ [(x, .bl true)], by simp, ?_, rfl⟩
    rw [List.map_append, q1, List.take_add_one, hx]; rfl
  rintro acc U ⟨kvs, rfl, q1, rfl⟩
  rw [List.take_length] at q1
  refine ⟨gd_nil _, ?_⟩
  wtm_at "wp"
  have hstr : ∀ p ∈ kvs, ∃ l, p.1 = .str l := fun p hp => by
    have : p.1 ∈ ps := by rw [← q1]; exact List.mem_map_of_mem hp
    obtain ⟨l, e, _⟩ := hps _ this
    exact ⟨l, e⟩
  refine p_bi ⟨.ref U.length, U ++ [.dic false (mergeO kvs)], by simp [biO, lstO, der, pairs_of kvs hstr], ?_⟩
  have hl0 := hp.length_le
  have kl : kvs.length = ps.length := by rw [← q1, List.length_map]
  have k0 : Keys (U ++ [.dic false (mergeO kvs)]) U.length (ps.map txt) 4 := by
    have fk := fold_keys kvs [] [] (ps.map txt) rfl (by rw [q1]; exact strs_map hps)
    refine ⟨mergeO kvs, by simp, fk, ?_⟩
    have e1 := congrArg List.length fk
    have e2 := nubN_len (ps.map txt) []
    unfold mergeO
    simp at e1 e2; omega
  have hp0 := hp.trans (List.prefix_append U [O.dic false (mergeO kvs)])
  obtain ⟨a0, ea⟩ : ∃ a0, a0 = U.length := ⟨_, rfl⟩
  rw [← ea] at k0 ⊢
  have ha : S0.length ≤ a0 := by omega
  generalize (U ++ [O.dic false (mergeO kvs)]) = T0 at k0 hp0 ⊢
  wtm_at "wp"
  rw [w2_1]
  refine s_loop (fun xs i τ T => ∃ c6 c7 c8 c9, τ = [some (.tup [f, .tup ps, .tup rows, .tup cs]), some f, some (.tup ps), some (.tup rows), some (.tup cs), some (.ref a0), c6, c7, c8, c9, none, none, none, none, none] ∧ S0 <+: T ∧ Keys T a0 (ps.map txt ++ (rows.take i).flatMap rowC) (4 + 16 * i)) ?_
  wtm_at "wp"
  refine ⟨⟨_, _, _, _, rfl, hp0, by simpa using k0⟩, ?_, ?_⟩
  · rintro i x τ T hx ⟨c6, c7, c8, c9, rfl, t1, t2⟩
    have hi := (List.getElem?_eq_some_iff.mp hx).1
    obtain ⟨e, he, ths, rfl, ft⟩ := hr x (List.mem_of_getElem? hx)
    refine ⟨gd_nil _, _, asg_star _ _ _, ?_⟩
    rw [u2_1]
    dsimp only [List.set]
    refine s_cons (row_in he ft t1 ha t2 (by omega) fun c8 c9 T1 t3 t4 => ?_)
    dsimp only [nxt]
    refine s_nil ⟨_, _, _, _, rfl, t3, ?_⟩
    rw [List.take_add_one, hx, List.flatMap_append]
    have e1 : [A.tup (.str e.1 :: ths)].flatMap rowC = contrib e.2.2 ths := by simp [rowC_eq he]
    show Keys T1 a0 (ps.map txt ++ ((rows.take i).flatMap rowC ++ [A.tup (.str e.1 :: ths)].flatMap rowC)) _
    rw [e1, ← List.append_assoc]
    obtain ⟨kvs, b1, b2, b3⟩ := t4
    exact ⟨kvs, b1, b2, by omega⟩
  rintro τ T ⟨c6, c7, c8, c9, rfl, t1, t2⟩
  refine ⟨gd_nil _, ?_⟩
  try dsimp only [nxt]
  refine s_cons ?_
  rw [w2_2]
  refine s_loop (fun xs i τ T => ∃ c11 c12 c13 c14, τ = [some (.tup [f, .tup ps, .tup rows, .tup cs]), some f, some (.tup ps), some (.tup rows), some (.tup cs), some (.ref a0), c6, c7, c8, c9, none, c11, c12, c13, c14] ∧ S0 <+: T ∧ Keys T a0 (ps.map txt ++ rows.flatMap rowC ++ (cs.take i).map catchT) (400 + i)) ?_
  wtm_at "wp"
  rw [List.take_length] at t2
  refine ⟨⟨_, _, _, _, rfl, t1, ?_⟩, ?_, ?_⟩
  · obtain ⟨kvs, b1, b2, b3⟩ := t2
    exact ⟨kvs, b1, by simpa using b2, by omega⟩
  · rintro i x τ T hx ⟨c11, c12, c13, c14, rfl, t3, kvs, t4, t5, t6⟩
    have hi := (List.getElem?_eq_some_iff.mp hx).1
    obtain ⟨a, b, d, w, rfl, hw⟩ := hc x (List.mem_of_getElem? hx)
    have tl : a0 < T.length := (List.getElem?_eq_some_iff.mp t4).1
    refine ⟨gd_nil _, _, rfl, ?_⟩
    rw [u2_2]
    dsimp only [List.set]
    have ew := wd_txt hw
    rw [ew]
    wtm_at "wp"
    refine ⟨_, dic_set t4 (by omega), ?_⟩
    try dsimp only [nxt]
    refine s_nil ?_
    refine ⟨_, _, _, _, rfl, pre_set t3 ha, _, List.getElem?_set_self tl, ?_, ?_⟩
    · rw [put_keys _ _ t5, List.take_add_one, hx, List.map_append, ← List.append_assoc]
      exact congrArg (List.map A.str) (nubN_app [] (ps.map txt ++ rows.flatMap rowC ++ (cs.take i).map catchT) [txt w]).symm
    · have := putO_len kvs (.str (txt w)) (.bl true); omega
  rintro τ T ⟨c11, c12, c13, c14, rfl, t3, kvs, t4, t5, t6⟩
  rw [List.take_length] at t5
  refine ⟨gd_nil _, ?_⟩
  try dsimp only [nxt]
  wtm_at "wp"
  refine p_bi ⟨.ref T.length, T ++ [.lst (kvs.map (·.1))], by simp [biO, seqO, dicO, t4, mkL], ?_⟩
  wtm_at "wp"
  refine h T.length _ t3.length_le (t3.trans (List.prefix_append _ _)) ?_ ?_
  · rw [t5]; simp [seqF]
  · have e1 := congrArg List.length t5
    rw [List.length_map, List.length_map] at e1
    show (nubN [] (ps.map txt ++ rows.flatMap rowC ++ cs.map catchT)).length ≤ 500
    omega
theorem i_locals_of {k : Nat} {S0 S : List O} {fs fns : List A} {kd v : A} {nm : List Nat} {P : A → List O → Prop} (F : Fn fs v) (hp : S0 <+: S) (hn : ∀ v ∈ fns, Named v) (hv : firstN fns nm = v)
    (h : ∀ a S', S0.length ≤ a → S0 <+: S' → S'[a]? = some (.lst ((nubN [] (seqF F)).map A.str)) → (nubN [] (seqF F)).length ≤ 500 → P (.ref a) S') : okk (I G ds (k + 2) 3 [.tup [kd, .lst fns], .str nm] S) P := by
  rw [I_succ G (fd := f3) (by rfl)]
  refine run_ok rfl ?_
  show oks (denSs G (I G ds (k + 1)) b3 [some (.tup [kd, .lst fns]), some (.str nm)] S) _
  rw [b3]
  wtm_at "wp"
  refine i_function_of (k := k) hn ?_
  rw [hv]
  wtm_at "wp"
  refine i_locals_in (k := k) F hp fun a S' h1 h2 h3 h4 => ?_
  exact h a S' h1 h2 h3 h4
end K04
namespace K04
open PySem L2 Lt
local macro_rules | `(tactic| wtm_at "wp1") => `(tactic| with_reducible first
  | refine s_cons ?_ | (refine s_nil ?_; try dsimp only [nxt, turn]) | refine s_asg ?_ | refine s_ret ?_ | refine s_ifs ?_ | refine s_ex ?_ | refine s_sub ?_
  | refine w_nil ?_ | refine w_cons ?_
  | refine w_cI ?_ | refine w_cS ?_ | refine w_cN ?_ | refine w_cB ?_
  | refine w_idx ?_ | refine w_call ?_ | refine w_bi ?_ | refine w_tup ?_ | refine w_lst ?_ | refine w_lstT ?_ | refine w_bin ?_ | refine w_neg ?_ | refine w_no ?_ | refine w_cmp ?_
  | refine w_dic0 ?_ | refine w_dic ?_ | refine w_bm ?_ | refine w_isi ?_ | refine w_frz ?_ | refine w_ifx ?_
  | refine t_cmp ?_ | refine t_and ?_ | refine t_or ?_ | refine t_not ?_ | refine t_of ?_
  | refine c_nil ?_ | refine c_one ?_ | refine i_seq ?_ | refine i_rng ?_)
local macro_rules | `(tactic| wtm_at "wp2") => `(tactic| first
  | (with_reducible refine w_nmE ?_; refine ⟨_, rfl, ?_⟩)
  | refine ⟨_, eq_int, ?_⟩ | refine ⟨_, eq_str, ?_⟩ | refine ⟨_, ne_int, ?_⟩ | refine ⟨_, ne_str, ?_⟩
  | ((with_reducible first | refine p_bi ?_ | refine p_bin ?_ | refine p_bm ?_ | refine p_mk ?_); refine ⟨_, _, rfl, ?_⟩)
  | refine ⟨_, rfl, ?_⟩ | refine and_ff ?_ | refine and_tt ?_)
local macro_rules | `(tactic| wtm_at "wp") => `(tactic| repeat (first | wtm_at "wp1" | (wtm_at "wp2"; try dsimp only [nxt, turn, List.set])))
local macro_rules | `(tactic| wtm_at "wp1") => `(tactic| with_reducible first | refine w_sl ?_ | refine w_and ?_ | refine w_or ?_ | refine s_retN ?_ | refine s_pass ?_ | refine s_brk ?_ | refine s_cont ?_)
local macro_rules | `(tactic| wtm_at "wp1") => `(tactic| with_reducible first | refine i_sgn ?_ | refine i_enum ?_ | refine i_zip ?_ | refine w_tab ?_ | refine w_tabIn ?_)
theorem strs_pd (ks : List (List Nat)) : A.pures (ks.map A.str) = true ∧ A.depths (ks.map A.str) ≤ 0 := by
  induction ks with
  | nil => exact ⟨rfl, by simp [A.depths]⟩
  | cons k ks ih => exact ⟨by simp [A.pures, A.pure, ih.1], by simp only [List.map_cons, A.depths, A.depth]; have := ih.2; omega⟩
theorem inO_strs (S : List O) (l : List Nat) (ks : List (List Nat)) : inO S (.str l) (.lst (ks.map A.str)) = some (decide (l ∈ ks)) := by
  obtain ⟨h1, h2⟩ := strs_pd ks
  have e : inO S (.str l) (.lst (ks.map A.str)) = if A.pures (ks.map A.str) && (A.str l).pure && decide (min (A.str l).depth (A.depths (ks.map A.str)) ≤ 63) then some ((ks.map A.str).any fun z => z.eqv (.str l)) else none := by
    unfold inO
    split <;> simp_all [der]
  rw [e, if_pos (by simp [h1, A.pure, A.depth]), any_str]
theorem cut_one (x : A) (xs : List A) : cutA (x :: xs) (some 1) none = xs := by
  unfold cutA
  have e : HT.sIx (x :: xs).length 0 (some 1) = 1 := by
    unfold HT.sIx
    simp
  rw [e]
  show ((x :: xs).drop 1).take ((x :: xs).length - 1) = xs
  simp
/-- what a list that grew holds -/
def Fo (S : List O) (a : Nat) (L : List (List Nat)) (b : Nat) : Prop := S[a]? = some (.lst (L.map A.str)) ∧ L.length ≤ b
theorem row_loc {cal : Cal} {S0 S : List O} {a b : Nat} {L : List (List Nat)} {fs : List A} {e : List Nat × List Nat × List Nat} {ths : List A} {c0 c4 c5 c6 c7 c8 : Option A} {Z : SR → Prop} (he : e ∈ forms) (hf : Fit fs e.2.2 ths) (hp : S0 <+: S) (ha : S0.length ≤ a) (hk : Fo S a L b) (hb : b ≤ 500)
    (h : ∀ a' c5 c6 S', S0 <+: S' → S0.length ≤ a' → Fo S' a' (L ++ contrib e.2.2 ths) (b + 16) → Z (.nx [c0, some (.ref a'), some (.tup (.str e.1 :: ths)), some (.str e.2.2), c4, c5, c6, c7, c8] S')) :
    oks (denS G cal w14_0 [c0, some (.ref a), some (.tup (.str e.1 :: ths)), some (.str e.2.2), c4, c5, c6, c7, c8] S) Z := by
  rw [w14_0]
  have len4 := form_len e he
  have hl2 : e.2.1.length = e.2.2.length := by
    have := congrArg List.length (form_same e he)
    simpa using this
  have hl := hf.1
  have hz : (1000 : Nat) ≤ sizeLine := by decide
  refine s_loop (fun xs j τ T => ∃ a c5 c6, τ = [c0, some (.ref a), some (.tup (.str e.1 :: ths)), some (.str e.2.2), c4, c5, c6, c7, c8] ∧ S0 <+: T ∧ S0.length ≤ a ∧ Fo T a (L ++ contrib (e.2.2.take j) (ths.take j)) (b + 4 * j)) ?_
  refine i_zip ?_
  wtm_at "wp"
  refine p_sl ⟨.tup ths, S, by show R.ok (A.tup (cutA _ _ _)) _ = _; rw [cut_one], ?_⟩
  have k0 : Fo S a (L ++ contrib (e.2.2.take 0) (ths.take 0)) (b + 4 * 0) := by simpa [contrib] using hk
  refine ⟨_, _, rfl, rfl, ⟨_, _, _, rfl, hp, ha, k0⟩, ?_, ?_⟩
  · rintro j x τ T hx ⟨a, c5, c6, rfl, t1, t0, t2, t3⟩
    obtain ⟨sx, y, h1, h2, rfl⟩ := zipA_get _ _ _ _ hx
    rw [List.getElem?_map] at h1
    obtain ⟨t, et, rfl⟩ := Option.map_eq_some_iff.mp h1
    have hj : j < ths.length := (List.getElem?_eq_some_iff.mp h2).1
    have pt := hf.2 j t y et h2
    have ct := contrib_take e.2.2 ths et h2
    have tl : a < T.length := (List.getElem?_eq_some_iff.mp t2).1
    have jl : j < 5 := by omega
    refine ⟨gd_nil _, _, rfl, ?_⟩
    rw [u14_0]
    dsimp only [List.set]
    by_cases s1 : t = 120
    · subst s1
      have wd := wd_txt (pt.x rfl)
      rw [wd]
      wtm_at "wp"
      refine ⟨by simp [bmFit, lstO, der, t2], ?_⟩
      wtm_at "wp"
      refine p_bm ⟨.non, T.set a (.lst ((L ++ contrib (e.2.2.take j) (ths.take j)).map A.str ++ [.str (txt y)])), by simp only [bmO, t2]; rw [if_pos (by rw [List.length_map]; omega)], ?_⟩
      try dsimp only [nxt]
      wtm_at "wp"
      refine ⟨_, _, _, rfl, pre_set t1 t0, t0, ?_, ?_⟩
      · rw [List.getElem?_set_self tl, ct, ← List.append_assoc, List.map_append (l₂ := c1 120 y)]; rfl
      · rw [ct, ← List.append_assoc, List.length_append]; simp [c1]; simp at t3; omega
    · by_cases s2 : t = 103
      · subst s2
        obtain ⟨ws, rfl, lw, hw⟩ := pt.g rfl
        wtm_at "wp"
        have e3 : binO .Add true (.ref a) (.lst ws) T = .ok (.ref T.length) (T ++ [.lst ((L ++ contrib (e.2.2.take j) (ths.take j)).map A.str ++ ws)]) := by
          have dr : der T (.ref a) = .lst ((L ++ contrib (e.2.2.take j) (ths.take j)).map A.str) := by simp only [der, t2]
          show (match der T (.ref a), der T (.lst ws) with | .lst xs, .lst ys => if xs.length + ys.length ≤ sizeLine then mkL true (xs ++ ys) T else .no | _, _ => .no) = _
          rw [dr]
          show (if _ then _ else _) = _
          rw [if_pos (by rw [List.length_map]; omega)]; rfl
        refine p_bin ⟨_, _, e3, ?_⟩
        try dsimp only [nxt]
        wtm_at "wp"
        refine ⟨_, _, _, rfl, t1.trans (List.prefix_append _ _), by have := t1.length_le; omega, ?_, ?_⟩
        · rw [ct, ← List.append_assoc, List.map_append (l₂ := c1 103 (.tup ws))]
          have : ws = (c1 103 (.tup ws)).map A.str := strs_map hw
          rw [← this]; simp
        · rw [ct, ← List.append_assoc, List.length_append]
          simp [c1, items]; simp at t3; omega
      · have z : c1 t y = [] := by simp [c1, s1, s2]
        wtm_at "wp"
        refine ⟨fun c => absurd (by simpa using c) s1, fun c => ?_⟩
        refine s_nil ?_
        dsimp only [nxt]
        wtm_at "wp"
        refine ⟨fun c => absurd (by simpa using c) s2, fun c => ?_⟩
        refine s_nil ?_
        dsimp only [nxt]
        refine s_nil ?_
        refine ⟨_, _, _, rfl, t1, t0, ?_, ?_⟩
        · rw [ct, z, List.append_nil]; exact t2
        · rw [ct, z, List.append_nil]; omega
  · rintro τ T ⟨a, c5, c6, rfl, t1, t0, t2, t3⟩
    rw [zipA_len, List.length_map, hl, Nat.min_self] at t2 t3
    rw [List.take_of_length_le (by omega), List.take_of_length_le (by omega)] at t2 t3
    exact ⟨gd_nil _, h _ _ _ _ t1 t0 ⟨t2, by omega⟩⟩
end K04
namespace K04
open PySem L2 Lt
local macro_rules | `(tactic| wtm_at "wp1") => `(tactic| with_reducible first
  | refine s_cons ?_ | (refine s_nil ?_; try dsimp only [nxt, turn]) | refine s_asg ?_ | refine s_ret ?_ | refine s_ifs ?_ | refine s_ex ?_ | refine s_sub ?_
  | refine w_nil ?_ | refine w_cons ?_
  | refine w_cI ?_ | refine w_cS ?_ | refine w_cN ?_ | refine w_cB ?_
  | refine w_idx ?_ | refine w_call ?_ | refine w_bi ?_ | refine w_tup ?_ | refine w_lst ?_ | refine w_lstT ?_ | refine w_bin ?_ | refine w_neg ?_ | refine w_no ?_ | refine w_cmp ?_
  | refine w_dic0 ?_ | refine w_dic ?_ | refine w_bm ?_ | refine w_isi ?_ | refine w_frz ?_ | refine w_ifx ?_
  | refine t_cmp ?_ | refine t_and ?_ | refine t_or ?_ | refine t_not ?_ | refine t_of ?_
  | refine c_nil ?_ | refine c_one ?_ | refine i_seq ?_ | refine i_rng ?_)
local macro_rules | `(tactic| wtm_at "wp2") => `(tactic| first
  | (with_reducible refine w_nmE ?_; refine ⟨_, rfl, ?_⟩)
  | refine ⟨_, eq_int, ?_⟩ | refine ⟨_, eq_str, ?_⟩ | refine ⟨_, ne_int, ?_⟩ | refine ⟨_, ne_str, ?_⟩
  | ((with_reducible first | refine p_bi ?_ | refine p_bin ?_ | refine p_bm ?_ | refine p_mk ?_); refine ⟨_, _, rfl, ?_⟩)
  | refine ⟨_, rfl, ?_⟩ | refine and_ff ?_ | refine and_tt ?_)
local macro_rules | `(tactic| wtm_at "wp") => `(tactic| repeat (first | wtm_at "wp1" | (wtm_at "wp2"; try dsimp only [nxt, turn, List.set])))
local macro_rules | `(tactic| wtm_at "wp1") => `(tactic| with_reducible first | refine w_sl ?_ | refine w_and ?_ | refine w_or ?_ | refine s_retN ?_ | refine s_pass ?_ | refine s_brk ?_ | refine s_cont ?_)
local macro_rules | `(tactic| wtm_at "wp1") => `(tactic| with_reducible first | refine i_sgn ?_ | refine i_enum ?_ | refine i_zip ?_ | refine w_tab ?_ | refine w_tabIn ?_)
theorem forms_at {i : Nat} {x : A} (h : LF[i]? = some x) : ∃ f, forms[i]? = some f ∧ x = .tup [.str f.1, .str f.2.2] := by
  unfold LF at h
  rw [List.getElem?_map] at h
  obtain ⟨f, e, rfl⟩ := Option.map_eq_some_iff.mp h
  exact ⟨f, e, rfl⟩
theorem forms_len : forms.length = 20 := by decide
theorem i_law_locals {k : Nat} {S : List O} {fs : List A} {v : A} {P : A → List O → Prop} (F : Fn fs v) (h : ∀ S', S <+: S' → P (.lst ((nubN [] (seqF F)).map A.str)) S') : okk (I G ds (k + 2) 14 [v] S) P := by
  obtain ⟨f, ps, rows, cs, rfl, hf, pl, hps, rl, hr, cl, hc⟩ := F
  rw [I_succ G (fd := f14) (by rfl)]
  refine run_ok rfl ?_
  show oks (denSs G (I G ds (k + 1)) b14 [some (.tup [f, .tup ps, .tup rows, .tup cs]), none, none, none, none, none, none, none, none] S) _
  rw [b14]
  have hz : (1000 : Nat) ≤ sizeLine := by decide
  wtm_at "wp"
  have f0 : Fo (S ++ [O.lst ps]) S.length (ps.map txt) 4 := ⟨by rw [← strs_map hps]; simp, by rw [List.length_map]; omega⟩
  have hp0 := List.prefix_append S [O.lst ps]
  obtain ⟨a0, ea⟩ : ∃ a0, a0 = S.length := ⟨_, rfl⟩
  rw [← ea] at f0 ⊢
  have ha0 : S.length ≤ a0 := by omega
  generalize (S ++ [O.lst ps]) = T0 at f0 hp0 ⊢
  rw [w14_1]
  refine s_loop (fun xs i τ T => ∃ a c2 c3 c4 c5 c6 c7 c8, τ = [some (.tup [f, .tup ps, .tup rows, .tup cs]), some (.ref a), c2, c3, c4, c5, c6, c7, c8] ∧ S <+: T ∧ S.length ≤ a ∧ Fo T a (ps.map txt ++ (rows.take i).flatMap rowC) (4 + 16 * i)) ?_
  wtm_at "wp"
  refine ⟨⟨_, _, _, _, _, _, _, _, rfl, hp0, ha0, by simpa using f0⟩, ?_, ?_⟩
  · rintro i x τ T hx ⟨a, c2, c3, c4, c5, c6, c7, c8, rfl, t1, t0, t2⟩
    have hi := (List.getElem?_eq_some_iff.mp hx).1
    obtain ⟨e, he, ths, rfl, ft⟩ := hr x (List.mem_of_getElem? hx)
    refine ⟨gd_nil _, _, rfl, ?_⟩
    rw [u14_1]
    dsimp only [List.set]
    wtm_at "wp"
    rw [e14_0]
    refine w_lc (fun xs q acc U => acc = ((forms.take q).filter fun f => f.1 == e.1).map (fun f => A.str f.2.2) ∧ U = T) ?_
    wtm_at "wp"
    refine i_forms (k := k) ?_
    refine ⟨_, rfl, by show LF.length ≤ _; unfold LF; rw [List.length_map, forms_len]; omega, ⟨rfl, rfl⟩, ?_, ?_⟩
    · rintro q x acc U hq ⟨rfl, rfl⟩
      obtain ⟨g, eg, rfl⟩ := forms_at hq
      refine ⟨gd_nil _, _, rfl, c_one ?_⟩
      dsimp only [wipeT, List.map, List.set, List.foldl]
      wtm_at "wp"
      refine ⟨.str e.1, by simp [idxO, seqO, atI, ixN], ?_⟩
      wtm_at "wp"
      refine ⟨fun c => ?_, fun c => ?_⟩
      · wtm_at "wp"
        refine ⟨?_, rfl⟩
        rw [List.take_add_one, eg, List.filter_append, List.map_append]
        have : (g.1 == e.1) = true := by simpa using c
        simp [this]
      · refine ⟨?_, rfl⟩
        rw [List.take_add_one, eg, List.filter_append, List.map_append]
        have : (g.1 == e.1) = false := by simpa using c
        simp [this]
    rintro acc U ⟨rfl, rfl⟩
    have e1 : ((forms.take LF.length).filter fun f => f.1 == e.1).map (fun f => A.str f.2.2) = [A.str e.2.2] := by
      have := form_one e he
      rw [show LF.length = forms.length by unfold LF; rw [List.length_map], List.take_length]
      have e2 := congrArg (List.map A.str) this
      rw [List.map_map] at e2
      exact e2
    refine ⟨gd_nil _, ?_⟩
    rw [e1]
    wtm_at "wp"
    refine row_loc he ft t1 t0 t2 (by omega) fun a' c5 c6 T1 t3 t4 t5 => ?_
    dsimp only [nxt]
    refine s_nil ⟨_, _, _, _, _, _, _, _, rfl, t3, t4, ?_⟩
    rw [List.take_add_one, hx, List.flatMap_append]
    have e1 : [A.tup (.str e.1 :: ths)].flatMap rowC = contrib e.2.2 ths := by simp [rowC_eq he]
    show Fo T1 a' (ps.map txt ++ ((rows.take i).flatMap rowC ++ [A.tup (.str e.1 :: ths)].flatMap rowC)) _
    rw [e1, ← List.append_assoc]
    exact ⟨t5.1, by have := t5.2; omega⟩
  rintro τ T ⟨a, c2, c3, c4, c5, c6, c7, c8, rfl, t1, t0, t2, t3⟩
  rw [List.take_length] at t2 t3
  refine ⟨gd_nil _, ?_⟩
  try dsimp only [nxt]
  wtm_at "wp"
  rw [e14_1]
  refine w_lc (fun xs q acc U => acc = ((cs.take q).map catchT).map A.str ∧ U = T) ?_
  wtm_at "wp"
  refine ⟨by omega, ⟨rfl, rfl⟩, ?_, ?_⟩
  · rintro q x acc U hq ⟨rfl, rfl⟩
    obtain ⟨i1, i2, i3, w, rfl, hw⟩ := hc x (List.mem_of_getElem? hq)
    refine ⟨gd_nil _, _, rfl, c_nil ⟨fun _ => ?_, fun c => (by cases c)⟩⟩
    dsimp only [wipeT, List.map, List.set, List.foldl]
    wtm_at "wp"
    refine ⟨?_, rfl⟩
    rw [List.take_add_one, hq, List.map_append, List.map_append]
    show _ = _ ++ [A.str (txt w)]
    rw [← wd_txt hw]
  rintro acc U ⟨rfl, rfl⟩
  rw [List.take_length]
  refine ⟨gd_nil _, ?_⟩
  wtm_at "wp"
  have e3 : binO .Add true (.ref a) (.lst ((cs.map catchT).map A.str)) U = .ok (.ref U.length) (U ++ [.lst ((ps.map txt ++ rows.flatMap rowC ++ cs.map catchT).map A.str)]) := by
    have dr : der U (.ref a) = .lst ((ps.map txt ++ rows.flatMap rowC).map A.str) := by simp only [der, t2]
    show (match der U (.ref a), der U (.lst ((cs.map catchT).map A.str)) with | .lst xs, .lst ys => if xs.length + ys.length ≤ sizeLine then mkL true (xs ++ ys) U else .no | _, _ => .no) = _
    rw [dr]
    show (if _ then _ else _) = _
    rw [if_pos (by rw [List.length_map, List.length_map, List.length_map]; omega), ← List.map_append]; rfl
  refine p_bin ⟨_, _, e3, ?_⟩
  have hfl : (ps.map txt ++ rows.flatMap rowC ++ cs.map catchT).length ≤ 500 := by rw [List.length_append, List.length_map]; omega
  unfold seqF at h
  dsimp only at h
  generalize (ps.map txt ++ rows.flatMap rowC ++ cs.map catchT) = FF at hfl h ⊢
  have hp2 := t1.trans (List.prefix_append U [O.lst (FF.map A.str)])
  have g2 : (U ++ [O.lst (FF.map A.str)])[U.length]? = some (.lst (FF.map A.str)) := by simp
  generalize (U ++ [O.lst (FF.map A.str)]) = V at hp2 g2 ⊢
  generalize U.length = m at g2 ⊢
  wtm_at "wp"
  rw [e14_2]
  refine w_lc (fun xs q acc W => acc = (nubN [] (FF.take q)).map A.str ∧ W = V) ?_
  wtm_at "wp"
  refine ⟨FF.map A.str, by simp only [lstO, der, g2], by rw [enumA_len, List.length_map]; omega, ⟨rfl, rfl⟩, ?_, ?_⟩
  · rintro q x acc W hq ⟨rfl, rfl⟩
    obtain ⟨y, hy, rfl⟩ := enumA_get _ _ _ _ hq
    rw [List.getElem?_map] at hy
    obtain ⟨l, el, rfl⟩ := Option.map_eq_some_iff.mp hy
    have hql : q < FF.length := (List.getElem?_eq_some_iff.mp el).1
    refine ⟨fun p hp => by rw [List.mem_singleton.mp hp]; exact g2, _, rfl, c_one ?_⟩
    dsimp only [wipeT, List.map, List.set, List.foldl]
    wtm_at "wp"
    refine p_sl ⟨.lst ((FF.take q).map A.str), W, ?_, ?_⟩
    · have dr : der W (.ref m) = .lst (FF.map A.str) := by simp only [der, g2]
      unfold slO
      rw [dr]
      show R.ok (A.lst (cutA _ _ _)) _ = _
      rw [Int.zero_add, cut_b _ (by rw [List.length_map]; omega), List.map_take]
    have stp : nubN [] (FF.take (q + 1)) = addW (nubN [] (FF.take q)) l := by
      rw [List.take_add_one, el, nubN_app]; rfl
    refine ⟨_, by simp only [cmpO, inO_strs, Option.map_some]; rfl, fun c => ?_, fun c => ?_⟩
    · have hm : l ∉ FF.take q := by simpa using c
      wtm_at "wp"
      refine ⟨?_, rfl⟩
      rw [stp]
      unfold addW
      rw [if_neg (fun z => ((nubN_mem _ [] l).mp z).elim (fun z => by cases z) hm), List.map_append]; rfl
    · have hm : l ∈ FF.take q := by simpa using c
      refine ⟨?_, rfl⟩
      rw [stp]
      unfold addW
      rw [if_pos ((nubN_mem _ [] l).mpr (.inr hm))]
  · rintro acc W ⟨rfl, rfl⟩
    rw [enumA_len, List.length_map, List.take_length]
    refine ⟨fun p hp => by rw [List.mem_singleton.mp hp]; exact g2, ?_⟩
    wtm_at "wp"
    exact h _ hp2
end K04
namespace K04
open PySem L2 Lt
local macro_rules | `(tactic| wtm_at "wp1") => `(tactic| with_reducible first
  | refine s_cons ?_ | (refine s_nil ?_; try dsimp only [nxt, turn]) | refine s_asg ?_ | refine s_ret ?_ | refine s_ifs ?_ | refine s_ex ?_ | refine s_sub ?_
  | refine w_nil ?_ | refine w_cons ?_
  | refine w_cI ?_ | refine w_cS ?_ | refine w_cN ?_ | refine w_cB ?_
  | refine w_idx ?_ | refine w_call ?_ | refine w_bi ?_ | refine w_tup ?_ | refine w_lst ?_ | refine w_lstT ?_ | refine w_bin ?_ | refine w_neg ?_ | refine w_no ?_ | refine w_cmp ?_
  | refine w_dic0 ?_ | refine w_dic ?_ | refine w_bm ?_ | refine w_isi ?_ | refine w_frz ?_ | refine w_ifx ?_
  | refine t_cmp ?_ | refine t_and ?_ | refine t_or ?_ | refine t_not ?_ | refine t_of ?_
  | refine c_nil ?_ | refine c_one ?_ | refine i_seq ?_ | refine i_rng ?_)
local macro_rules | `(tactic| wtm_at "wp2") => `(tactic| first
  | (with_reducible refine w_nmE ?_; refine ⟨_, rfl, ?_⟩)
  | refine ⟨_, eq_int, ?_⟩ | refine ⟨_, eq_str, ?_⟩ | refine ⟨_, ne_int, ?_⟩ | refine ⟨_, ne_str, ?_⟩
  | ((with_reducible first | refine p_bi ?_ | refine p_bin ?_ | refine p_bm ?_ | refine p_mk ?_); refine ⟨_, _, rfl, ?_⟩)
  | refine ⟨_, rfl, ?_⟩ | refine and_ff ?_ | refine and_tt ?_)
local macro_rules | `(tactic| wtm_at "wp") => `(tactic| repeat (first | wtm_at "wp1" | (wtm_at "wp2"; try dsimp only [nxt, turn, List.set])))
local macro_rules | `(tactic| wtm_at "wp1") => `(tactic| with_reducible first | refine w_sl ?_ | refine w_and ?_ | refine w_or ?_ | refine s_retN ?_ | refine s_pass ?_ | refine s_brk ?_ | refine s_cont ?_)
local macro_rules | `(tactic| wtm_at "wp1") => `(tactic| with_reducible first | refine i_sgn ?_ | refine i_enum ?_ | refine i_zip ?_ | refine w_tab ?_ | refine w_tabIn ?_)
theorem pre_at {α : Type} {xs ys : List α} (h : xs <+: ys) {i : Nat} {a : α} (e : xs[i]? = some a) : ys[i]? = some a := by
  obtain ⟨t, rfl⟩ := h
  rw [List.getElem?_append_left (List.getElem?_eq_some_iff.mp e).1]; exact e
theorem Row.pd {fs : List A} {r : A} (h : Row fs r) : Pd 3 r := by
  obtain ⟨e, he, ths, rfl, hl, hf⟩ := h
  refine Pd.tup fun x hx => ?_
  rcases List.mem_cons.mp hx with rfl | hx
  · exact pd_str _ _
  · obtain ⟨j, hj⟩ := List.getElem?_of_mem hx
    have : j < e.2.2.length := by rw [← hl]; exact (List.getElem?_eq_some_iff.mp hj).1
    exact (hf j _ x (List.getElem?_eq_getElem this) hj).pd
theorem Catch.pd {c : A} (h : Catch c) : Pd 1 c := by
  obtain ⟨a, b, d, w, rfl, hw⟩ := h
  refine Pd.tup fun x hx => ?_
  simp only [List.mem_cons, List.not_mem_nil, or_false] at hx
  rcases hx with rfl | rfl | rfl | rfl
  · exact pd_int _ _
  · exact pd_int _ _
  · exact pd_int _ _
  · exact hw.pd 0
theorem Fn.pd {fs : List A} {v : A} (F : Fn fs v) (hd : ∃ l, F.f = .str l) : Pd 6 v := by
  obtain ⟨f, ps, rows, cs, rfl, hf, pl, hps, rl, hr, cl, hc⟩ := F
  obtain ⟨l, rfl⟩ := hd
  refine (Pd.tup (d := 4) fun x hx => ?_).le (by omega)
  simp only [List.mem_cons, List.not_mem_nil, or_false] at hx
  rcases hx with rfl | rfl | rfl | rfl
  · exact pd_str _ _
  · exact (Pd.tup fun w hw => (hps w hw).pd 0).le (by omega)
  · exact Pd.tup fun r hh => (hr r hh).pd
  · exact (Pd.tup fun c hh => (hc c hh).pd).le (by omega)
theorem first_eq (xs : List A) (nm : List Nat) : atI ((xs.filter fun v => hdN v == nm) ++ [.non]) 0 = some (firstN xs nm) := by
  unfold firstN
  induction xs with
  | nil => rfl
  | cons x xs ih =>
    rw [List.filter_cons, List.find?_cons]
    cases hdN x == nm with
    | true =>
      show atI (x :: ((xs.filter fun v => hdN v == nm) ++ [.non])) 0 = some x
      unfold atI ixN
      rw [if_pos (by omega), if_pos (by simp only [List.length_cons]; omega)]; rfl
    | false => exact ih
theorem first_pd {xs : List A} (h : ∀ v ∈ xs, Pd 6 v) (nm : List Nat) : Pd 6 (firstN xs nm) := by
  unfold firstN
  cases e : xs.find? fun v => hdN v == nm with
  | none => exact ⟨rfl, by simp [A.depth]⟩
  | some v => exact h v (List.mem_of_find?_eq_some e)
/-- the functions of a program -/
structure Fns (fns : List A) : Prop where
  l : fns.length ≤ 20
  f : ∀ (j : Nat) (v : A), fns[j]? = some v → ∃ (fs : List A) (F : Fn fs v) (l : List Nat), F.f = .str l ∧ firstN fns l = v
theorem Fn.head {fs : List A} {v : A} (F : Fn fs v) {l : List Nat} (e : F.f = .str l) : hdN v = l ∧ Named v := by
  obtain ⟨f, ps, rows, cs, rfl, hf, pl, hps, rl, hr, cl, hc⟩ := F
  cases e
  exact ⟨rfl, _, _, rfl⟩
theorem Prog.fns {S : List O} {kd : Nat} {fs fns : List A} (h : Prog S kd fs fns) : Fns fns := by
  refine ⟨by rw [h.fl]; exact h.fl2, fun j v hv => ?_⟩
  obtain ⟨ls, rfl, nd⟩ := h.dst
  obtain ⟨F, hF⟩ := h.fn j v hv
  rw [List.getElem?_map] at hF
  obtain ⟨l, el, ef⟩ := Option.map_eq_some_iff.mp hF
  refine ⟨_, F, l, ef.symm, ?_⟩
  unfold firstN
  rw [find_at (p := fun v => hdN v == l) hv (by simp [(F.head ef.symm).1]) fun i y hi hy => ?_]
  · rfl
  · obtain ⟨F2, hF2⟩ := h.fn i y hy
    rw [List.getElem?_map] at hF2
    obtain ⟨l2, el2, ef2⟩ := Option.map_eq_some_iff.mp hF2
    rw [(F2.head ef2.symm).1]
    simp only [beq_eq_false_iff_ne, ne_eq]
    intro e
    subst e
    have h1 := (List.getElem?_eq_some_iff.mp el)
    have h2 := (List.getElem?_eq_some_iff.mp el2)
    exact (List.pairwise_iff_getElem.mp nd i j h2.1 h1.1 hi) (by rw [h1.2, h2.2])
theorem Fns.named {fns : List A} (h : Fns fns) : ∀ v ∈ fns, Named v := fun v hv => by
  obtain ⟨j, hj⟩ := List.getElem?_of_mem hv
  obtain ⟨fs, F, l, e, _⟩ := h.f j v hj
  exact (F.head e).2
theorem Fns.pd {fns : List A} (h : Fns fns) : ∀ v ∈ fns, Pd 6 v := fun v hv => by
  obtain ⟨j, hj⟩ := List.getElem?_of_mem hv
  obtain ⟨fs, F, l, e, _⟩ := h.f j v hj
  exact F.pd ⟨l, e⟩
theorem ne_list {S : List O} {a : Nat} {ks : List (List Nat)} (h : S[a]? = some (.lst (ks.map A.str))) : cmpO .NotEq (.ref a) (.lst (ks.map A.str)) S = some false := by
  obtain ⟨h1, h2⟩ := strs_pd ks
  have d1 : der S (.ref a) = .lst (ks.map A.str) := by simp only [der, h]
  have d2 : der S (.lst (ks.map A.str)) = .lst (ks.map A.str) := rfl
  simp only [cmpO, eqO, d1, d2]
  rw [if_pos (by simp [fitsEq, A.pure, A.depth, h1]; omega), eqv_refl _ (by simpa [A.pure] using h1)]; rfl
/-- one function's words, told twice -/
theorem turn1 {k : Nat} {S : List O} {fns fs : List A} {v kd : A} (F : Fn fs v) (hF : Fns fns) {l : List Nat} (el : F.f = .str l) (hv : firstN fns l = v) {c0 c1' c2 c4 c5 c6 c8 c9 c10 c11 : Option A} {Z : SR → Prop}
    (h : ∀ c11 S', Z (.nx [c0, c1', c2, some (.tup [kd, .lst fns]), c4, c5, c6, some v, c8, c9, c10, c11] S')) : oks (denSs G (I G ds (k + 2)) u15_1 [c0, c1', c2, some (.tup [kd, .lst fns]), c4, c5, c6, some v, c8, c9, c10, c11] S) Z := by
  have hx : ∀ U, idxO U v (.int 0) = some (.str l) := fun U => by
    obtain ⟨f, ps, rows, cs, rfl, hf, pl, hps, rl, hr, cl, hc⟩ := F
    cases el
    simp [idxO, seqO, atI, ixN]
  rw [u15_1]
  wtm_at "wp"
  refine ⟨_, hx _, ?_⟩
  wtm_at "wp"
  refine i_locals_of (k := k) F (List.prefix_refl S) hF.named hv fun a S1 h1 h2 h3 h4 => ?_
  try dsimp only [nxt]
  wtm_at "wp"
  refine ⟨true, by simp [tyO, h3]; rfl, ?_⟩
  wtm_at "wp"
  refine i_law_locals (k := k) F fun S2 p2 => ?_
  have g2 := pre_at p2 h3
  refine ⟨_, ne_list g2, fun c => (by cases c), fun _ => ?_⟩
  refine s_nil ?_
  try dsimp only [nxt]
  wtm_at "wp"
  refine ⟨by simp [bmFit, lstO, der, g2], ?_⟩
  wtm_at "wp"
  have hz : (1000 : Nat) ≤ sizeLine := by decide
  refine p_bm ⟨.non, S2.set a (.lst ((nubN [] (seqF F)).map A.str ++ [.str [97]])), by simp only [bmO, g2]; rw [if_pos (by rw [List.length_map]; omega)], ?_⟩
  try dsimp only [nxt]
  wtm_at "wp"
  refine ⟨_, hx _, ?_⟩
  wtm_at "wp"
  refine i_locals_of (k := k) F (List.prefix_refl _) hF.named hv fun a2 S3 h5 h6 h7 h8 => ?_
  wtm_at "wp"
  refine i_law_locals (k := k) F fun S4 p4 => ?_
  refine ⟨_, ne_list (pre_at p4 h7), fun c => (by cases c), fun _ => ?_⟩
  refine s_nil ?_
  try dsimp only [nxt]
  refine s_nil ?_
  exact h _ _
/-- one name's look-ups -/
theorem turn0 {k kd : Nat} {S : List O} {kinds fns : List A} {nm : List Nat} (hk : S[kd]? = some (.lst kinds)) (hK : ∀ v ∈ kinds, Kind v) (hl : kinds.length ≤ 20) (hF : Fns fns) {c0 c1' c2 c4 c5 c6 c7 c9 c10 c11 : Option A} {Z : SR → Prop}
    (h : ∀ c9 c10, Z (.nx [c0, c1', c2, some (.tup [.ref kd, .lst fns]), c4, c5, c6, c7, some (.str nm), c9, c10, c11] S)) : oks (denSs G (I G ds (k + 1)) u15_0 [c0, c1', c2, some (.tup [.ref kd, .lst fns]), c4, c5, c6, c7, some (.str nm), c9, c10, c11] S) Z := by
  have hz : (1000 : Nat) ≤ sizeLine := by decide
  have hn : ∀ v ∈ kinds, Named v := fun v hv => (hK v hv).nm
  rw [u15_0]
  wtm_at "wp"
  rw [e15_2]
  refine w_lc (fun xs q acc U => acc = (kinds.take q).filter (fun v => hdN v == nm) ∧ U = S) ?_
  wtm_at "wp"
  refine ⟨kinds, by simp [seqO, hk], by omega, ⟨rfl, rfl⟩, ?_, ?_⟩
  · rintro q x acc U hq ⟨rfl, rfl⟩
    obtain ⟨l, r, rfl⟩ := hn x (List.mem_of_getElem? hq)
    refine ⟨fun p hp => by rw [List.mem_singleton.mp hp]; exact hk, _, rfl, c_one ?_⟩
    dsimp only [wipeT, List.map, List.set, List.foldl]
    wtm_at "wp"
    refine ⟨.str l, by simp [idxO, seqO, atI, ixN], ?_⟩
    wtm_at "wp"
    refine ⟨fun c => ?_, fun c => ?_⟩
    · have : (l == nm) = true := by simpa using c
      wtm_at "wp"
      refine ⟨?_, rfl⟩
      rw [List.take_add_one, hq, List.filter_append]
      simp [hdN, this]
    · have : (l == nm) = false := by simpa using c
      refine ⟨?_, rfl⟩
      rw [List.take_add_one, hq, List.filter_append]
      simp [hdN, this]
  rintro acc U ⟨rfl, rfl⟩
  rw [List.take_length]
  refine ⟨fun p hp => by rw [List.mem_singleton.mp hp]; exact hk, ?_⟩
  wtm_at "wp"
  have fl : ∀ xs : List A, (xs.filter fun v => hdN v == nm).length ≤ xs.length := fun xs => List.length_filter_le _ _
  have f1 := fl kinds
  have f2 := fl fns
  have f3 := hF.l
  refine p_bin ⟨.lst ((kinds.filter fun v => hdN v == nm) ++ [.non]), U, by simp [binO, der, mkL]; omega, ?_⟩
  wtm_at "wp"
  rw [e15_3]
  refine w_lc (fun xs q acc U' => acc = (fns.take q).filter (fun v => hdN v == nm) ∧ U' = U) ?_
  wtm_at "wp"
  refine ⟨by omega, ⟨rfl, rfl⟩, ?_, ?_⟩
  · rintro q x acc V hq ⟨rfl, rfl⟩
    obtain ⟨l, r, rfl⟩ := hF.named x (List.mem_of_getElem? hq)
    refine ⟨gd_nil _, _, rfl, c_one ?_⟩
    dsimp only [wipeT, List.map, List.set, List.foldl]
    wtm_at "wp"
    refine ⟨.str l, by simp [idxO, seqO, atI, ixN], ?_⟩
    wtm_at "wp"
    refine ⟨fun c => ?_, fun c => ?_⟩
    · have : (l == nm) = true := by simpa using c
      wtm_at "wp"
      refine ⟨?_, rfl⟩
      rw [List.take_add_one, hq, List.filter_append]
      simp [hdN, this]
    · have : (l == nm) = false := by simpa using c
      refine ⟨?_, rfl⟩
      rw [List.take_add_one, hq, List.filter_append]
      simp [hdN, this]
  rintro acc V ⟨rfl, rfl⟩
  rw [List.take_length]
  refine ⟨gd_nil _, ?_⟩
  wtm_at "wp"
  refine p_bin ⟨.lst ((fns.filter fun v => hdN v == nm) ++ [.non]), V, by simp [binO, der, mkL]; omega, ?_⟩
  wtm_at "wp"
  refine i_kind_of (k := k) hk hn ?_
  wtm_at "wp"
  refine ⟨firstN kinds nm, first_eq kinds nm, ?_⟩
  refine ⟨_, ne_self V (first_pd (fun v hv => (hK v hv).pd) nm) (by omega), ?_⟩
  wtm_at "wp"
  refine i_function_of (k := k) hF.named ?_
  wtm_at "wp"
  refine ⟨firstN fns nm, first_eq fns nm, ?_⟩
  refine ⟨_, ne_self V (first_pd hF.pd nm) (by omega), ?_⟩
  wtm_at "wp"
  exact h _ _
end K04
namespace K04
open PySem L2 Lt
local macro_rules | `(tactic| wtm_at "wp1") => `(tactic| with_reducible first
  | refine s_cons ?_ | (refine s_nil ?_; try dsimp only [nxt, turn]) | refine s_asg ?_ | refine s_ret ?_ | refine s_ifs ?_ | refine s_ex ?_ | refine s_sub ?_
  | refine w_nil ?_ | refine w_cons ?_
  | refine w_cI ?_ | refine w_cS ?_ | refine w_cN ?_ | refine w_cB ?_
  | refine w_idx ?_ | refine w_call ?_ | refine w_bi ?_ | refine w_tup ?_ | refine w_lst ?_ | refine w_lstT ?_ | refine w_bin ?_ | refine w_neg ?_ | refine w_no ?_ | refine w_cmp ?_
  | refine w_dic0 ?_ | refine w_dic ?_ | refine w_bm ?_ | refine w_isi ?_ | refine w_frz ?_ | refine w_ifx ?_
  | refine t_cmp ?_ | refine t_and ?_ | refine t_or ?_ | refine t_not ?_ | refine t_of ?_
  | refine c_nil ?_ | refine c_one ?_ | refine i_seq ?_ | refine i_rng ?_)
local macro_rules | `(tactic| wtm_at "wp2") => `(tactic| first
  | (with_reducible refine w_nmE ?_; refine ⟨_, rfl, ?_⟩)
  | refine ⟨_, eq_int, ?_⟩ | refine ⟨_, eq_str, ?_⟩ | refine ⟨_, ne_int, ?_⟩ | refine ⟨_, ne_str, ?_⟩
  | ((with_reducible first | refine p_bi ?_ | refine p_bin ?_ | refine p_bm ?_ | refine p_mk ?_); refine ⟨_, _, rfl, ?_⟩)
  | refine ⟨_, rfl, ?_⟩ | refine and_ff ?_ | refine and_tt ?_)
local macro_rules | `(tactic| wtm_at "wp") => `(tactic| repeat (first | wtm_at "wp1" | (wtm_at "wp2"; try dsimp only [nxt, turn, List.set])))
local macro_rules | `(tactic| wtm_at "wp1") => `(tactic| with_reducible first | refine w_sl ?_ | refine w_and ?_ | refine w_or ?_ | refine s_retN ?_ | refine s_pass ?_ | refine s_brk ?_ | refine s_cont ?_)
local macro_rules | `(tactic| wtm_at "wp1") => `(tactic| with_reducible first | refine i_sgn ?_ | refine i_enum ?_ | refine i_zip ?_ | refine w_tab ?_ | refine w_tabIn ?_)
theorem i_pool {k i : Nat} {S : List O} {ns : List Int} {P : A → List O → Prop} (hi : i < 1000) (h : ∀ n S', Pool S' n → P (.ref n) S') : okk (I G ds (k + 1) 4 [.scr (ns.map .int), .int (i : Int)] S) P := by
  rw [ePool]
  obtain ⟨pa, pb, e1, q1, q2, q3⟩ := pool_spec G (I G ds k) S ns i hi
  exact .of e1 (h _ _ (pool_new q1 q2 q3))
/-- the names of some -/
def Nms (xs : List A) : Prop := ∀ a ∈ xs, ∃ l : List Nat, a = .str l
theorem prog_turn {kd n : Nat} {S : List O} {fs fns : List A} (p : Prog S kd fs fns) {c0 c1 c4 c5 c6 c7 c8 c9 c10 c11 : Option A} {Z : SR → Prop}
    (h : ∀ c4 c6 c7 c8 c9 c10 c11 S', Z (.nx [c0, c1, some (.ref n), some (.tup [.ref kd, .lst fns]), c4, c5, c6, c7, c8, c9, c10, c11] S')) :
    oks (denSs G (I G ds 10) [.asg (.t (.nm 4)) e15_0, .asg (.t (.nm 6)) e15_1, w15_0, w15_1] [c0, c1, some (.ref n), some (.tup [.ref kd, .lst fns]), c4, c5, c6, c7, c8, c9, c10, c11] S) Z := by
  have hz : (1000 : Nat) ≤ sizeLine := by decide
  have hF := p.fns
  have fl := hF.l
  obtain ⟨kinds, hk, hK, kl⟩ := p.ks
  wtm_at "wp"
  rw [e15_0]
  refine w_lc (fun xs q acc U => acc.length = q ∧ Nms acc ∧ U = S) ?_
  wtm_at "wp"
  refine ⟨kinds, by simp [seqO, hk], by omega, ⟨rfl, fun a h => (by cases h), rfl⟩, ?_, ?_⟩
  · rintro q x acc U hq ⟨q1, q2, rfl⟩
    obtain ⟨l, r, rfl⟩ := (hK x (List.mem_of_getElem? hq)).nm
    refine ⟨fun p hp => by rw [List.mem_singleton.mp hp]; exact hk, _, rfl, c_nil ⟨fun _ => ?_, fun c => (by cases c)⟩⟩
    dsimp only [wipeT, List.map, List.set, List.foldl]
    wtm_at "wp"
    refine ⟨.str l, by simp [idxO, seqO, atI, ixN], by simp; omega, fun a ha => ?_, rfl⟩
    rcases List.mem_append.mp ha with ha | ha
    · exact q2 a ha
    · exact ⟨l, List.mem_singleton.mp ha⟩
  rintro ws U ⟨w1, w2, rfl⟩
  refine ⟨fun p hp => by rw [List.mem_singleton.mp hp]; exact hk, ?_⟩
  wtm_at "wp"
  rw [e15_1]
  refine w_lc (fun xs q acc V => acc.length = q ∧ Nms acc ∧ V = U) ?_
  wtm_at "wp"
  refine ⟨by omega, ⟨rfl, fun a h => (by cases h), rfl⟩, ?_, ?_⟩
  · rintro q x acc V hq ⟨q1, q2, rfl⟩
    obtain ⟨l, r, rfl⟩ := hF.named x (List.mem_of_getElem? hq)
    refine ⟨gd_nil _, _, rfl, c_nil ⟨fun _ => ?_, fun c => (by cases c)⟩⟩
    dsimp only [wipeT, List.map, List.set, List.foldl]
    wtm_at "wp"
    refine ⟨.str l, by simp [idxO, seqO, atI, ixN], by simp; omega, fun a ha => ?_, rfl⟩
    rcases List.mem_append.mp ha with ha | ha
    · exact q2 a ha
    · exact ⟨l, List.mem_singleton.mp ha⟩
  rintro ns V ⟨n1, n2, rfl⟩
  refine ⟨gd_nil _, ?_⟩
  wtm_at "wp"
  rw [w15_0]
  refine s_loop (fun xs q τ U => U = V ∧ ∃ c8 c9 c10, τ = [c0, c1, some (.ref n), some (.tup [.ref kd, .lst fns]), some (.lst ws), c5, some (.lst ns), c7, c8, c9, c10, c11]) ?_
  wtm_at "wp"
  refine p_bin ⟨.lst (ws ++ ns), V, by simp [binO, der, mkL]; omega, ?_⟩
  wtm_at "wp"
  refine p_bin ⟨.lst (ws ++ ns ++ [.str [122, 122, 122, 122, 122, 122, 122, 122], .str [97]]), V, by simp [binO, der, mkL]; omega, ?_⟩
  have all : Nms (ws ++ ns ++ [.str [122, 122, 122, 122, 122, 122, 122, 122], .str [97]]) := fun a ha => by
    simp only [List.mem_append, List.mem_cons, List.not_mem_nil, or_false] at ha
    rcases ha with (ha | ha) | rfl | rfl
    · exact w2 a ha
    · exact n2 a ha
    · exact ⟨_, rfl⟩
    · exact ⟨_, rfl⟩
  generalize (ws ++ ns ++ [.str [122, 122, 122, 122, 122, 122, 122, 122], .str [97]]) = names at all ⊢
  refine ⟨_, rfl, ⟨rfl, _, _, _, rfl⟩, ?_, ?_⟩
  · rintro q x τ U hq ⟨rfl, c8, c9, c10, rfl⟩
    obtain ⟨nm, rfl⟩ := all x (List.mem_of_getElem? hq)
    refine ⟨gd_nil _, _, rfl, ?_⟩
    dsimp only [List.set]
    exact turn0 (k := 9) hk hK kl hF fun c9 c10 => ⟨rfl, _, _, _, rfl⟩
  rintro τ U ⟨rfl, c8, c9, c10, rfl⟩
  refine ⟨gd_nil _, ?_⟩
  try dsimp only [nxt]
  wtm_at "wp"
  rw [w15_1]
  refine s_loop (fun xs q τ U => ∃ c7 c11, τ = [c0, c1, some (.ref n), some (.tup [.ref kd, .lst fns]), some (.lst ws), c5, some (.lst ns), c7, c8, c9, c10, c11]) ?_
  wtm_at "wp"
  refine ⟨⟨_, _, rfl⟩, ?_, ?_⟩
  · rintro q x τ U hq ⟨c7, c11, rfl⟩
    obtain ⟨fs', F, l, el, hv⟩ := hF.f q x hq
    refine ⟨gd_nil _, _, rfl, ?_⟩
    dsimp only [List.set]
    exact turn1 (k := 8) F hF el hv fun c11 S' => ⟨_, _, rfl⟩
  · rintro τ U ⟨c7, c11, rfl⟩
    refine ⟨gd_nil _, ?_⟩
    try dsimp only [nxt]
    refine s_nil ?_
    exact h _ _ _ _ _ _ _ _
theorem law_run (ns : List Int) (hn : ns.length ≤ 63) : okk (runF G (I G ds 10) f15 [.scr (ns.map .int)] []) fun a _ => a = .bl true := by
  refine run_ok rfl ?_
  show oks (denSs G (I G ds 10) b15 [some (.scr (ns.map .int)), none, none, none, none, none, none, none, none, none, none, none] []) _
  rw [b15]
  wtm_at "wp"
  rw [w15_2]
  refine s_loop (fun zs i τ S4 => ∃ d1 d2 d3 d4 d5 d6 d7 d8 d9 d10 d11, τ = [some (.scr (ns.map .int)), d1, d2, d3, d4, d5, d6, d7, d8, d9, d10, d11]) ?_
  refine okk.of (rng_script G (I G ds 10) ns 20 (by omega) [none, none, none, none, none, none, none, none, none, none, none] []) ⟨⟨_, _, _, _, _, _, _, _, _, _, _, rfl⟩, ?_, ?_⟩
  · rintro i x τ S hx ⟨d1, d2, d3, d4, d5, d6, d7, d8, d9, d10, d11, rfl⟩
    obtain ⟨hi, rfl⟩ := rngA_at hx
    refine ⟨gd_nil _, _, rfl, ?_⟩
    rw [u15_2]
    dsimp only [List.set]
    wtm_at "wp"
    refine i_pool (k := 9) (by omega) fun n S1 p1 => ?_
    wtm_at "wp"
    refine i_program (k := 4) p1 fun kd fs fns S2 p2 p3 o3 => ?_
    refine ⟨_, rfl, ?_⟩
    dsimp only [List.set]
    refine prog_turn p2 fun c4 c6 c7 c8 c9 c10 c11 S' => ?_
    exact ⟨_, _, _, _, _, _, _, _, _, _, _, rfl⟩
  · rintro τ S ⟨d1, d2, d3, d4, d5, d6, d7, d8, d9, d10, d11, rfl⟩
    refine ⟨gd_nil _, ?_⟩
    try dsimp only [nxt]
    wtm_at "wp"
    rfl
theorem law_holds (ns : List Int) (hn : ns.length ≤ 63) : ∃ S, runF G (I G ds 10) f15 [.scr (ns.map .int)] [] = .ok (.bl true) S := by
  have h := law_run ns hn
  unfold okk at h
  obtain ⟨a, S, e, rfl⟩ := h
  exact ⟨S, e⟩
end K04
namespace K04
open PySem PySem.Spec PyProof.Rows L2 Lt
theorem nOk : ∀ (d : Nat) (x : Str), G.dnames[d]? = some (some x) → ∃ dd, fn[d]? = some dd ∧ dd.at_ = (x, none) := by
  intro d x h
  match d, h with
  | 0, h => cases h; exact ⟨_, rfl, rfl⟩
  | 1, h => cases h; exact ⟨_, rfl, rfl⟩
  | 2, h => cases h; exact ⟨_, rfl, rfl⟩
  | 3, h => cases h; exact ⟨_, rfl, rfl⟩
  | 4, h => cases h; exact ⟨_, rfl, rfl⟩
  | 5, h => cases h; exact ⟨_, rfl, rfl⟩
  | 6, h => cases h; exact ⟨_, rfl, rfl⟩
  | 7, h => cases h; exact ⟨_, rfl, rfl⟩
  | 8, h => cases h; exact ⟨_, rfl, rfl⟩
  | 9, h => cases h; exact ⟨_, rfl, rfl⟩
  | 10, h => cases h; exact ⟨_, rfl, rfl⟩
  | 11, h => cases h; exact ⟨_, rfl, rfl⟩
  | 12, h => cases h; exact ⟨_, rfl, rfl⟩
  | 13, h => cases h; exact ⟨_, rfl, rfl⟩
  | 14, h => cases h; exact ⟨_, rfl, rfl⟩
  | 15, h => cases h; exact ⟨_, rfl, rfl⟩
  | _ + 16, h => simp [G, dnames] at h
theorem facts {P : Program} {w : World} {K : PySem.W.Frag} {h hp : Heap} {mg : Str → Option Value} {f : Addr} (X : K.In h) (Gn : h.Ns mainGlobals mg) (hfa : mg ("law" : Str) = some (.ref f)) (c : He.SaysX fa fn (tsOf tabs) [] (exOf tabs) w hp K) :
    ∃ fd : FuncData, (∀ (s : Shared) (v : Value), BindsTo s fd ⟨[v], []⟩ [("script", v)]) ∧ ∀ base : Heap, K.In base → base.Ns mainGlobals mg → FnOk P w K mg base CX0 44 f fd ["script"] (spLaw K) := by
  obtain ⟨fd, F⟩ := c.t.d.def_ 15 (d := q15) rfl
  have F0 := f0_of X Gn c.t.d nOk (by decide +kernel) rfl (tabs_ok (G := G) X Gn c (fun t ht => by
    have e : t.1 = "FORMS" := by
      have ht : t ∈ tabs := ht
      simp only [tabs, List.mem_singleton] at ht
      rw [ht]
    rw [e]
    exact List.mem_append_right _ List.mem_cons_self))
  have e := hfa.symm.trans (F0.dn 15 "law" rfl).1
  cases e
  have b := FunD.bindsA (ps := ["script"]) F fun _ _ _ _ _ _ us hl => match us, hl with | [_], _ => rfl
  exact ⟨fd, fun s v => b s [v] rfl, fun base _ _ => law_ok (levels F0 c.t.d ok kw 10) o15 F rfl law_holds⟩
end K04
open PySem PySem.W PySem.Calls PyProof.Rows
theorem PySem.Challenge.cw_unmadethings_k04_told_of_programs_holds : PySem.Challenge.rw_unmadethings_k04_told_of_programs.Holds := by
  w_on; o_law
  refine HandSHeadRun.head_any (r := OpenLaw.row PySem.Challenge.rw_unmadethings_k04_told_of_programs) (q := view (OpenLaw.row PySem.Challenge.rw_unmadethings_k04_told_of_programs).prog [18]) (H := K04.hk) (ob := K04.ob) (M := 4000) (loose := K04.loose) (d := HandSHeadRun.topDef (OpenLaw.row PySem.Challenge.rw_unmadethings_k04_told_of_programs).prog 18) (kwd := []) K04.ob_eq
    (by kernel_rfl) (fun s => by kernel_rfl) K04.run (by kernel_rfl) (by kernel_rfl) (by kernel_rfl) (by rfl) (by first | assumption | decide +kernel) (by decide +kernel) ⟨rfl, rfl, rfl, rfl, rfl, by decide +kernel⟩ ?hw ?hc
  case hw => w_witness2
  case hc =>
    refine L2.walk_ofE (l := PySem.Challenge.rw_unmadethings_k04_told_of_programs) (n := 63) (k := 44) (x := "script") (CX := L2.CX0) rfl (by decide) (by kernel_rfl) ⟨rfl, by decide, by decide⟩ ?F (fun _ _ _ _ z => z)
    intro w mg fa h Y G hmg0
    obtain ⟨K, KX, c⟩ := Y
    have hmg : mg ("law" : PySem.Str) = some (.ref fa) := by
      have e : (HandSHeadRun.topDef (OpenLaw.row PySem.Challenge.rw_unmadethings_k04_told_of_programs).prog 18).name = ("law" : PySem.Str) := by kernel_rfl
      rw [← e]
      exact hmg0
    obtain ⟨fd, hb, hF⟩ := K04.facts (P := (PySem.Challenge.rw_unmadethings_k04_told_of_programs).prog) (w := w) KX G hmg c
    exact ⟨K, fd, Lt.spLaw K, KX, hb, fun H a ns hl _ hS => ⟨a, ns, rfl, hl, hS, fun _ => rfl⟩, hF⟩
