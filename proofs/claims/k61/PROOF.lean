import PyProof.Rows.All
import Wide.All
import OpenK.AllK
import Wide.FinOn
import KE.KStateDown
import HandS.ForMost
import HandS.Exc
import HandS.TryOnly
import HandS.TryMany
import HandS.ExcOwn
import HandS.WordsExc
import HandS.Defaults
import HandS.Head0
import HandS.Head1
import HandS.Head2
import HandS.HeadEnd
import HandS.HeadHook1
import HandS.HeadHook2
import HandS.CallSlots
import HandS.TupAny
import HandS.IsInst
import KE.DataMinMax
import KE.GoesEnum
import KE.KDictLaws
import HandS.Finally
import HandS.More
import HandS.Iter
import HandS.WordsDict
import HandS.DictComp
import HandS.TupMul
import HandS.Text
import HandS.StrMore
import HandS.SortInts
import HandS.Style
import KE.KExcIs
import HandS.Flt
import KE.KEqDict
import PyProof.Rows.SetFrom
import HandS.Strs
import HandS.SetFor
import HandS.DeepEq
import HandS.ListEq
import PyProof.NeKinds
import KE.KIntText
import PySem.Challenge.RW_commonform_k61_refused_once
set_option Elab.async false
set_option linter.all false
set_option maxRecDepth 100000
set_option maxHeartbeats 0
namespace DV
open PySem PySem.Spec PyProof.Rows L2
abbrev St := L2.St
inductive D where
  | non | bl (b : Bool) | int (i : Int) | str (s : Str) | tup (ds : List D) | loc (l : Nat) | ro (ns : List Int) | exn (c : Str)
inductive AO where
  | lst (ds : List D) | dct (kvs : List (Key × D)) | fdc (kvs : List (Key × D)) | dcT (kvs : List (List Key × D)) | ins (C : Str) (fs : List (Str × D))
abbrev Hs := List AO
abbrev Sl := List (Option D)
inductive R (α : Type) where
  | ok (a : α) (h : Hs) | exc (c : Str) (h : Hs) | bad
def R.bind {α β : Type} (r : R α) (k : α → Hs → R β) : R β := match r with
  | .ok a h => k a h
  | .exc c h => .exc c h
  | .bad => .bad
inductive RS where
  | nx (ds : Sl) (h : Hs) | rt (d : D) (h : Hs) | bk (ds : Sl) (h : Hs) | ct (ds : Sl) (h : Hs) | exc (c : Str) (ds : Sl) (h : Hs) | bad
def lift {α : Type} (r : R α) (ds : Sl) (k : α → Hs → RS) : RS := match r with
  | .ok a h => k a h
  | .exc c h => .exc c ds h
  | .bad => .bad
abbrev EM := Sl → Hs → R D
abbrev AM := Sl → Hs → R (List D)
abbrev TM := Sl → Hs → R Bool
abbrev SM := Sl → Hs → RS
@[simp] theorem R.bind_ok {α β : Type} (a : α) (h : Hs) (k : α → Hs → R β) : (R.ok a h).bind k = k a h := rfl
@[simp] theorem R.bind_exc {α β : Type} (c : Str) (h : Hs) (k : α → Hs → R β) : (R.exc c h).bind k = .exc c h := rfl
@[simp] theorem R.bind_bad {α β : Type} (k : α → Hs → R β) : (R.bad).bind k = .bad := rfl
@[simp] theorem lift_ok {α : Type} (a : α) (h : Hs) (ds : Sl) (k : α → Hs → RS) : lift (R.ok a h) ds k = k a h := rfl
@[simp] theorem lift_exc {α : Type} (c : Str) (h : Hs) (ds : Sl) (k : α → Hs → RS) : lift (R.exc c h) ds k = .exc c ds h := rfl
@[simp] theorem lift_bad {α : Type} (ds : Sl) (k : α → Hs → RS) : lift (R.bad) ds k = .bad := rfl
/-- the script: known, or written -/
def SqR (K : PySem.W.Frag) (H : Hp) (a : Addr) (xs : List V) : Prop :=
  (∃ o, H a = some (.frz o (.lst xs))) ∨ ∃ (o : Obj) (its : Array Value) (n : Nat), K.lookup a = some o ∧ o.cls = .type "list" ∧ o.dict = none ∧ o.data = .seq its n ∧ its.size ≤ sizeLine ∧ Vals xs its.toList
theorem SqR.sq {K : PySem.W.Frag} {H : Hp} {a : Addr} {xs : List V} (h : SqR K H a xs) : SqL K H a xs := by
  rcases h with h | h
  · exact .inl (.inr h)
  · exact .inr h
/-- a caught exception's object -/
def exO (K : PySem.W.Frag) (c : Str) (a : Addr) : HO := .ext fun h => ∃ (oe : Obj) (vs : Array Value), h.get? a = some oe ∧ oe.cls = .ref (He.ga K c) ∧ oe.dict = none ∧ oe.data = .fields vs
variable (K : PySem.W.Frag)
mutual
def RepV (m : List Addr) (H : Hp) : D → V → Prop
  | .non, v => v = .non
  | .bl b, v => v = .bl b
  | .int i, v => v = .int i
  | .str s, v => v = .str s
  | .tup ds, v => ∃ a xs, v = .ref a ∧ H a = some (.tup xs) ∧ RepL m H ds xs
  | .loc l, v => ∃ a, m[l]? = some a ∧ v = .ref a
  | .ro ns, v => ∃ a, v = .ref a ∧ SqR K H a (ns.map V.int)
  | .exn c, v => ∃ a, v = .ref a ∧ H a = some (exO K c a)
def RepL (m : List Addr) (H : Hp) : List D → List V → Prop
  | [], xs => xs = []
  | d :: ds, xs => ∃ x r, xs = x :: r ∧ RepV m H d x ∧ RepL m H ds r
end
variable {K}
/-- what a value leans on goes on -/
structure Grw (m : List Addr) (H : Hp) (m' : List Addr) (H' : Hp) : Prop where
  pre : ∃ r, m' = m ++ r
  tup : ∀ a xs, H a = some (.tup xs) → H' a = some (.tup xs)
  frz : ∀ a o xs, H a = some (.frz o (.lst xs)) → H' a = some (.frz o (.lst xs))
  ext : ∀ a φ, H a = some (.ext φ) → H' a = some (.ext φ)
/-- what goes on: the numbers keep their addresses, the tuples stay, what is locked stays so -/
structure Grow (m : List Addr) (H : Hp) (m' : List Addr) (H' : Hp) : Prop where
  pre : ∃ r, m' = m ++ r
  tup : ∀ a xs, H a = some (.tup xs) → H' a = some (.tup xs)
  frz : ∀ a o u, H a = some (.frz o u) → H' a = some (.frz o u)
  ext : ∀ a φ, H a = some (.ext φ) → H' a = some (.ext φ)
theorem Grow.w {m m' : List Addr} {H H' : Hp} (g : Grow m H m' H') : Grw m H m' H' := ⟨g.pre, g.tup, fun a o _ h => g.frz a o _ h, g.ext⟩
theorem Grow.refl (m : List Addr) (H : Hp) : Grow m H m H := ⟨⟨[], by simp⟩, fun _ _ h => h, fun _ _ _ h => h, fun _ _ h => h⟩
theorem Grow.trans {m m1 m2 : List Addr} {H H1 H2 : Hp} (a : Grow m H m1 H1) (b : Grow m1 H1 m2 H2) : Grow m H m2 H2 := by
  obtain ⟨⟨r, rfl⟩, t, f, x⟩ := a
  obtain ⟨⟨r', rfl⟩, t', f', x'⟩ := b
  exact ⟨⟨r ++ r', by simp⟩, fun x xs h => t' x xs (t x xs h), fun x o xs h => f' x o xs (f x o xs h), fun y φ h => x' y φ (x y φ h)⟩
mutual
theorem RepV.mono0 {m m' : List Addr} {H H' : Hp} (g : Grw m H m' H') : ∀ {d : D} {v : V}, RepV K m H d v → RepV K m' H' d v
  | .non, _, h => h
  | .bl _, _, h => h
  | .int _, _, h => h
  | .str _, _, h => h
  | .tup ds, v, h => by
    unfold RepV at h ⊢
    obtain ⟨a, xs, e, ha, hl⟩ := h
    exact ⟨a, xs, e, g.tup _ _ ha, RepL.mono0 g hl⟩
  | .loc l, v, h => by
    unfold RepV at h ⊢
    obtain ⟨a, ha, e⟩ := h
    obtain ⟨⟨r, rfl⟩, _, _, _⟩ := g
    obtain ⟨hl, _⟩ := List.getElem?_eq_some_iff.mp ha
    exact ⟨a, by rw [List.getElem?_append_left hl]; exact ha, e⟩
  | .exn c, v, h => by
    unfold RepV at h ⊢
    obtain ⟨a, e, q⟩ := h
    exact ⟨a, e, g.ext _ _ q⟩
  | .ro ns, v, h => by
    unfold RepV at h ⊢
    obtain ⟨a, e, q⟩ := h
    refine ⟨a, e, ?_⟩
    rcases q with ⟨o, q⟩ | q
    · exact .inl ⟨o, g.frz _ _ _ q⟩
    · exact .inr q
theorem RepL.mono0 {m m' : List Addr} {H H' : Hp} (g : Grw m H m' H') : ∀ {ds : List D} {xs : List V}, RepL K m H ds xs → RepL K m' H' ds xs
  | [], _, h => h
  | d :: ds, xs, h => by
    unfold RepL at h ⊢
    obtain ⟨x, r, e, h1, h2⟩ := h
    exact ⟨x, r, e, RepV.mono0 g h1, RepL.mono0 g h2⟩
end
theorem RepV.mono {m m' : List Addr} {H H' : Hp} (g : Grow m H m' H') {d : D} {v : V} (h : RepV K m H d v) : RepV K m' H' d v := h.mono0 g.w
theorem RepL.mono {m m' : List Addr} {H H' : Hp} (g : Grow m H m' H') {ds : List D} {xs : List V} (h : RepL K m H ds xs) : RepL K m' H' ds xs := h.mono0 g.w
section
variable {m : List Addr} {H : Hp}
theorem RepL.nil : RepL K m H [] [] := by unfold RepL; rfl
theorem RepL.cons {d : D} {x : V} {ds : List D} {xs : List V} (h : RepV K m H d x) (t : RepL K m H ds xs) : RepL K m H (d :: ds) (x :: xs) := by unfold RepL; exact ⟨x, xs, rfl, h, t⟩
theorem RepL.length : ∀ {ds : List D} {xs : List V}, RepL K m H ds xs → xs.length = ds.length
  | [], xs, h => by unfold RepL at h; subst h; rfl
  | d :: ds, xs, h => by
    unfold RepL at h
    obtain ⟨x, r, rfl, _, h2⟩ := h
    simp [RepL.length h2]
theorem RepL.get : ∀ {ds : List D} {xs : List V} {i : Nat} {d : D}, RepL K m H ds xs → ds[i]? = some d → ∃ x, xs[i]? = some x ∧ RepV K m H d x
  | [], _, _, _, _, e => by simp at e
  | d :: ds, xs, i, d', h, e => by
    unfold RepL at h
    obtain ⟨x, r, rfl, h1, h2⟩ := h
    cases i with
    | zero => simp at e; subst e; exact ⟨x, rfl, h1⟩
    | succ i =>
      obtain ⟨y, hy, hr⟩ := RepL.get (i := i) h2 (by simpa using e)
      exact ⟨y, by simpa using hy, hr⟩
theorem RepL.append : ∀ {ds es : List D} {xs ys : List V}, RepL K m H ds xs → RepL K m H es ys → RepL K m H (ds ++ es) (xs ++ ys)
  | [], _, xs, _, h, t => by unfold RepL at h; subst h; exact t
  | d :: ds, es, xs, ys, h, t => by
    unfold RepL at h
    obtain ⟨x, r, rfl, h1, h2⟩ := h
    exact .cons h1 (RepL.append h2 t)
theorem RepL.set : ∀ {ds : List D} {xs : List V} (i : Nat) {d : D} {x : V}, RepL K m H ds xs → RepV K m H d x → RepL K m H (ds.set i d) (xs.set i x)
  | [], xs, i, _, _, h, _ => by unfold RepL at h; subst h; exact RepL.nil
  | d :: ds, xs, i, e, y, h, t => by
    unfold RepL at h
    obtain ⟨x, r, rfl, h1, h2⟩ := h
    cases i with
    | zero => exact .cons t h2
    | succ i => exact .cons h1 (RepL.set i h2 t)
theorem RepL.take : ∀ {ds : List D} {xs : List V} (n : Nat), RepL K m H ds xs → RepL K m H (ds.take n) (xs.take n)
  | [], xs, n, h => by unfold RepL at h; subst h; cases n <;> exact RepL.nil
  | d :: ds, xs, n, h => by
    unfold RepL at h
    obtain ⟨x, r, rfl, h1, h2⟩ := h
    cases n with
    | zero => exact RepL.nil
    | succ n => exact .cons h1 (RepL.take n h2)
theorem RepL.drop : ∀ {ds : List D} {xs : List V} (n : Nat), RepL K m H ds xs → RepL K m H (ds.drop n) (xs.drop n)
  | [], xs, n, h => by unfold RepL at h; subst h; cases n <;> exact RepL.nil
  | d :: ds, xs, n, h => by
    have h' := h
    unfold RepL at h
    obtain ⟨x, r, rfl, h1, h2⟩ := h
    cases n with
    | zero => exact h'
    | succ n => exact RepL.drop n h2
theorem RepL.nil_iff {ds : List D} {xs : List V} (h : RepL K m H ds xs) : xs = [] ↔ ds = [] := by
  rw [← List.length_eq_zero_iff, ← List.length_eq_zero_iff, h.length]
end
variable (K)
/-- the slots -/
def RepS (m : List Addr) (H : Hp) : Sl → St → Prop
  | [], [] => True
  | od :: ds, ov :: vs => (∀ d, od = some d → ∃ v, ov = some v ∧ RepV K m H d v) ∧ RepS m H ds vs
  | _, _ => False
variable {K}
theorem RepS.mono0 {m m' : List Addr} {H H' : Hp} (g : Grw m H m' H') : ∀ {ds : Sl} {σ : St}, RepS K m H ds σ → RepS K m' H' ds σ
  | [], [], _ => trivial
  | _ :: _, _ :: _, ⟨a, b⟩ => ⟨fun d e => let ⟨v, e1, r⟩ := a d e; ⟨v, e1, r.mono0 g⟩, RepS.mono0 g b⟩
  | [], _ :: _, h => h.elim
  | _ :: _, [], h => h.elim
theorem RepS.mono {m m' : List Addr} {H H' : Hp} (g : Grow m H m' H') {ds : Sl} {σ : St} (h : RepS K m H ds σ) : RepS K m' H' ds σ := h.mono0 g.w
theorem RepS.get {m : List Addr} {H : Hp} : ∀ {ds : Sl} {σ : St} {i : Nat} {d : D}, RepS K m H ds σ → ds[i]? = some (some d) → ∃ v, σ[i]? = some (some v) ∧ RepV K m H d v
  | [], _, _, _, _, e => by simp at e
  | _ :: _, [], _, _, h, _ => h.elim
  | od :: ds, ov :: vs, 0, d, ⟨a, _⟩, e => by
    simp at e
    obtain ⟨v, e1, r⟩ := a d e
    exact ⟨v, by simp [e1], r⟩
  | od :: ds, ov :: vs, i + 1, d, ⟨_, b⟩, e => by
    obtain ⟨v, e1, r⟩ := RepS.get (i := i) b (by simpa using e)
    exact ⟨v, by simpa using e1, r⟩
theorem RepS.set {m : List Addr} {H : Hp} {od : Option D} {ov : Option V} (h : ∀ d, od = some d → ∃ v, ov = some v ∧ RepV K m H d v) : ∀ {ds : Sl} {σ : St} (i : Nat), RepS K m H ds σ → RepS K m H (ds.set i od) (σ.set i ov)
  | [], [], _, _ => trivial
  | [], _ :: _, _, h => h.elim
  | _ :: _, [], _, h => h.elim
  | _ :: _, _ :: _, 0, ⟨_, b⟩ => ⟨h, b⟩
  | _ :: _, _ :: _, i + 1, ⟨a, b⟩ => ⟨a, RepS.set h i b⟩
theorem RepS.put {m : List Addr} {H : Hp} {d : D} {v : V} {ds : Sl} {σ : St} (i : Nat) (r : RepS K m H ds σ) (h : RepV K m H d v) : RepS K m H (ds.set i (some d)) (σ.set i (some v)) :=
  r.set (fun _ e => by cases e; exact ⟨v, rfl, h⟩) i
theorem RepS.forget {m : List Addr} {H : Hp} {ds : Sl} {σ : St} (i : Nat) (r : RepS K m H ds σ) (ov : Option V) : RepS K m H (ds.set i none) (σ.set i ov) :=
  r.set (fun _ e => by cases e) i
theorem RepS.length {m : List Addr} {H : Hp} : ∀ {ds : Sl} {σ : St}, RepS K m H ds σ → ds.length = σ.length
  | [], [], _ => rfl
  | [], _ :: _, h => h.elim
  | _ :: _, [], h => h.elim
  | _ :: _, _ :: _, ⟨_, b⟩ => by simp [RepS.length b]
variable (K) in
/-- the attributes of an instance -/
def RepF (m : List Addr) (H : Hp) (fs : List (Str × D)) (xs : List (Str × V)) : Prop := fs.map (·.1) = xs.map (·.1) ∧ RepL K m H (fs.map (·.2)) (xs.map (·.2))
/-- keys by value -/
def keyD : D → Option Key
  | .int i => some (.inl i)
  | .str s => some (.inr s)
  | _ => none
variable (K) in
def RepO (m : List Addr) (H : Hp) (a : Addr) : AO → Prop
  | .lst ds => ∃ xs, H a = some (.lst xs) ∧ RepL K m H ds xs
  | .dct kvs => ∃ ks : List (Key × V), H a = some (.dK ks) ∧ kvs.map (·.1) = ks.map (·.1) ∧ RepL K m H (kvs.map (·.2)) (ks.map (·.2))
  | .fdc kvs => ∃ (o : Obj) (ks : List (Key × V)), H a = some (.frz o (.dK ks)) ∧ kvs.map (·.1) = ks.map (·.1) ∧ RepL K m H (kvs.map (·.2)) (ks.map (·.2))
  | .dcT kvs => ∃ ks : List (List Key × V), H a = some (.dT ks) ∧ kvs.map (·.1) = ks.map (·.1) ∧ RepL K m H (kvs.map (·.2)) (ks.map (·.2))
  | .ins C fs => ∃ dx xs, H a = some (.ins (He.ga K C) dx xs) ∧ RepF K m H fs xs
variable (K) in
structure RepH (m : List Addr) (H : Hp) (h : Hs) : Prop where
  len : m.length = h.length
  nd : m.Nodup
  at_ : ∀ (i : Nat) (a : Addr) (o : AO), m[i]? = some a → h[i]? = some o → RepO K m H a o
theorem RepO.some {m : List Addr} {H : Hp} {a : Addr} {o : AO} (r : RepO K m H a o) : H a ≠ none := by
  cases o with
  | lst ds => obtain ⟨xs, e, _⟩ := r; rw [e]; exact fun z => nomatch z
  | dct kvs => obtain ⟨xs, e, _⟩ := r; rw [e]; exact fun z => nomatch z
  | fdc kvs => obtain ⟨o, xs, e, _⟩ := r; rw [e]; exact fun z => nomatch z
  | dcT kvs => obtain ⟨xs, e, _⟩ := r; rw [e]; exact fun z => nomatch z
  | ins C fs => obtain ⟨dx, xs, e, _⟩ := r; rw [e]; exact fun z => nomatch z
structure Cfg where
  K : PySem.W.Frag
  W : WX
def OutE (g : Cfg) (m : List Addr) (H : Hp) (σ : St) (Q : VK) : R D → Prop
  | .ok d h' => ∀ v m' H', Grow m H m' H' → RepV g.K m' H' d v → RepH g.K m' H' h' → Q v H'
  | .exc c h' => ∀ m' H', Grow m H m' H' → RepH g.K m' H' h' → g.W (.ref (He.ga g.K c)) none σ H'
  | .bad => False
def OutA (g : Cfg) (m : List Addr) (H : Hp) (σ : St) (Q : List V → Hp → Prop) : R (List D) → Prop
  | .ok ds h' => ∀ vs m' H', Grow m H m' H' → RepL g.K m' H' ds vs → RepH g.K m' H' h' → Q vs H'
  | .exc c h' => ∀ m' H', Grow m H m' H' → RepH g.K m' H' h' → g.W (.ref (He.ga g.K c)) none σ H'
  | .bad => False
def OutT (g : Cfg) (m : List Addr) (H : Hp) (σ : St) (Q : Bool → Hp → Prop) : R Bool → Prop
  | .ok b h' => ∀ m' H', Grow m H m' H' → RepH g.K m' H' h' → Q b H'
  | .exc c h' => ∀ m' H', Grow m H m' H' → RepH g.K m' H' h' → g.W (.ref (He.ga g.K c)) none σ H'
  | .bad => False
def OutS (g : Cfg) (m : List Addr) (H : Hp) (N : Ends) : RS → Prop
  | .nx ds h' => ∀ σ' m' H', Grow m H m' H' → RepS g.K m' H' ds σ' → RepH g.K m' H' h' → N.nx σ' H'
  | .rt d h' => ∀ v m' H', Grow m H m' H' → RepV g.K m' H' d v → RepH g.K m' H' h' → N.rt v H'
  | .bk ds h' => ∀ σ' m' H', Grow m H m' H' → RepS g.K m' H' ds σ' → RepH g.K m' H' h' → N.bk σ' H'
  | .ct ds h' => ∀ σ' m' H', Grow m H m' H' → RepS g.K m' H' ds σ' → RepH g.K m' H' h' → N.ct σ' H'
  | .exc c ds h' => ∀ σ' m' H', Grow m H m' H' → RepS g.K m' H' ds σ' → RepH g.K m' H' h' → g.W (.ref (He.ga g.K c)) none σ' H'
  | .bad => False
def tM (g : Cfg) (M : EM) : TE := fun σ H Q => ∃ m ds h, RepS g.K m H ds σ ∧ RepH g.K m H h ∧ OutE g m H σ Q (M ds h)
def tA (g : Cfg) (M : AM) : TA := fun σ H Q => ∃ m ds h, RepS g.K m H ds σ ∧ RepH g.K m H h ∧ OutA g m H σ Q (M ds h)
def tT (g : Cfg) (M : TM) : TT := fun σ H Q => ∃ m ds h, RepS g.K m H ds σ ∧ RepH g.K m H h ∧ OutT g m H σ Q (M ds h)
def tS (g : Cfg) (M : SM) : TS := fun N σ H => ∃ m ds h, RepS g.K m H ds σ ∧ RepH g.K m H h ∧ OutS g m H N (M ds h)
section
variable {g : Cfg} {m m' : List Addr} {H H' : Hp} {σ : St}
theorem OutE.mono {Q : VK} {r : R D} (o : OutE g m H σ Q r) (w : Grow m H m' H') : OutE g m' H' σ Q r := by
  cases r with
  | ok d h => exact fun v m2 H2 w2 => o v m2 H2 (w.trans w2)
  | exc c h => exact fun m2 H2 w2 => o m2 H2 (w.trans w2)
  | bad => exact o
theorem OutA.mono {Q : List V → Hp → Prop} {r : R (List D)} (o : OutA g m H σ Q r) (w : Grow m H m' H') : OutA g m' H' σ Q r := by
  cases r with
  | ok d h => exact fun v m2 H2 w2 => o v m2 H2 (w.trans w2)
  | exc c h => exact fun m2 H2 w2 => o m2 H2 (w.trans w2)
  | bad => exact o
theorem OutT.mono {Q : Bool → Hp → Prop} {r : R Bool} (o : OutT g m H σ Q r) (w : Grow m H m' H') : OutT g m' H' σ Q r := by
  cases r with
  | ok d h => exact fun m2 H2 w2 => o m2 H2 (w.trans w2)
  | exc c h => exact fun m2 H2 w2 => o m2 H2 (w.trans w2)
  | bad => exact o
theorem OutS.mono {N : Ends} {r : RS} (o : OutS g m H N r) (w : Grow m H m' H') : OutS g m' H' N r := by
  cases r with
  | nx ds h => exact fun σ2 m2 H2 w2 => o σ2 m2 H2 (w.trans w2)
  | rt d h => exact fun v m2 H2 w2 => o v m2 H2 (w.trans w2)
  | bk ds h => exact fun σ2 m2 H2 w2 => o σ2 m2 H2 (w.trans w2)
  | ct ds h => exact fun σ2 m2 H2 w2 => o σ2 m2 H2 (w.trans w2)
  | exc c ds h => exact fun σ2 m2 H2 w2 => o σ2 m2 H2 (w.trans w2)
  | bad => exact o
/-- an expression's value taken on -/
theorem OutE.toE {Q Q' : VK} {r : R D} {k : D → Hs → R D} (o : OutE g m H σ Q (r.bind k)) (f : ∀ d h' v m' H', Grow m H m' H' → RepV g.K m' H' d v → RepH g.K m' H' h' → OutE g m' H' σ Q (k d h') → Q' v H') : OutE g m H σ Q' r := by
  cases r with
  | ok d h => exact fun v m' H' w rv rh => f d h v m' H' w rv rh (OutE.mono o w)
  | exc c h => exact o
  | bad => exact o
theorem OutE.toA {Q : List V → Hp → Prop} {Q' : VK} {r : R D} {k : D → Hs → R (List D)} (o : OutA g m H σ Q (r.bind k)) (f : ∀ d h' v m' H', Grow m H m' H' → RepV g.K m' H' d v → RepH g.K m' H' h' → OutA g m' H' σ Q (k d h') → Q' v H') : OutE g m H σ Q' r := by
  cases r with
  | ok d h => exact fun v m' H' w rv rh => f d h v m' H' w rv rh (OutA.mono o w)
  | exc c h => exact o
  | bad => exact o
theorem OutE.toT {Q : Bool → Hp → Prop} {Q' : VK} {r : R D} {k : D → Hs → R Bool} (o : OutT g m H σ Q (r.bind k)) (f : ∀ d h' v m' H', Grow m H m' H' → RepV g.K m' H' d v → RepH g.K m' H' h' → OutT g m' H' σ Q (k d h') → Q' v H') : OutE g m H σ Q' r := by
  cases r with
  | ok d h => exact fun v m' H' w rv rh => f d h v m' H' w rv rh (OutT.mono o w)
  | exc c h => exact o
  | bad => exact o
theorem OutE.toS {N : Ends} {Q' : VK} {r : R D} {ds : Sl} {k : D → Hs → RS} (hs : RepS g.K m H ds σ) (o : OutS g m H N (lift r ds k)) (f : ∀ d h' v m' H', Grow m H m' H' → RepV g.K m' H' d v → RepH g.K m' H' h' → OutS g m' H' N (k d h') → Q' v H') : OutE g m H σ Q' r := by
  cases r with
  | ok d h => exact fun v m' H' w rv rh => f d h v m' H' w rv rh (OutS.mono o w)
  | exc c h => exact fun m' H' w rh => o σ m' H' w (hs.mono w) rh
  | bad => exact o
theorem OutA.toE {Q : VK} {Q' : List V → Hp → Prop} {r : R (List D)} {k : List D → Hs → R D} (o : OutE g m H σ Q (r.bind k)) (f : ∀ d h' v m' H', Grow m H m' H' → RepL g.K m' H' d v → RepH g.K m' H' h' → OutE g m' H' σ Q (k d h') → Q' v H') : OutA g m H σ Q' r := by
  cases r with
  | ok d h => exact fun v m' H' w rv rh => f d h v m' H' w rv rh (OutE.mono o w)
  | exc c h => exact o
  | bad => exact o
theorem OutA.toA {Q : List V → Hp → Prop} {Q' : List V → Hp → Prop} {r : R (List D)} {k : List D → Hs → R (List D)} (o : OutA g m H σ Q (r.bind k)) (f : ∀ d h' v m' H', Grow m H m' H' → RepL g.K m' H' d v → RepH g.K m' H' h' → OutA g m' H' σ Q (k d h') → Q' v H') : OutA g m H σ Q' r := by
  cases r with
  | ok d h => exact fun v m' H' w rv rh => f d h v m' H' w rv rh (OutA.mono o w)
  | exc c h => exact o
  | bad => exact o
theorem OutT.toT {Q : Bool → Hp → Prop} {Q' : Bool → Hp → Prop} {r : R Bool} {k : Bool → Hs → R Bool} (o : OutT g m H σ Q (r.bind k)) (f : ∀ b h' m' H', Grow m H m' H' → RepH g.K m' H' h' → OutT g m' H' σ Q (k b h') → Q' b H') : OutT g m H σ Q' r := by
  cases r with
  | ok d h => exact fun m' H' w rh => f d h m' H' w rh (OutT.mono o w)
  | exc c h => exact o
  | bad => exact o
theorem OutT.toS {N : Ends} {Q' : Bool → Hp → Prop} {r : R Bool} {ds : Sl} {k : Bool → Hs → RS} (hs : RepS g.K m H ds σ) (o : OutS g m H N (lift r ds k)) (f : ∀ b h' m' H', Grow m H m' H' → RepH g.K m' H' h' → OutS g m' H' N (k b h') → Q' b H') : OutT g m H σ Q' r := by
  cases r with
  | ok d h => exact fun m' H' w rh => f d h m' H' w rh (OutS.mono o w)
  | exc c h => exact fun m' H' w rh => o σ m' H' w (hs.mono w) rh
  | bad => exact o
end
end DV
namespace DV
open PySem PySem.Spec PyProof.Rows L2
section
variable {K : PySem.W.Frag} {m m' : List Addr} {H H' : Hp} {h : Hs} {p a : Addr} {o u : HO} {ao : AO}
theorem RepH.fresh (r : RepH K m H h) (n : H p = none) : p ∉ m := fun hm => by
  obtain ⟨i, hi⟩ := List.mem_iff_getElem?.mp hm
  obtain ⟨hl, _⟩ := List.getElem?_eq_some_iff.mp hi
  have hl' : i < h.length := by rw [← r.len]; exact hl
  exact (r.at_ i p _ hi (List.getElem?_eq_getElem hl')).some n
theorem RepO.keep0 (r : RepO K m H a ao) (g : Grw m H m' H') (e : H' a = H a) : RepO K m' H' a ao := by
  cases ao with
  | lst ds => obtain ⟨xs, q, l⟩ := r; exact ⟨xs, e.trans q, l.mono0 g⟩
  | dct kvs => obtain ⟨xs, q, k, l⟩ := r; exact ⟨xs, e.trans q, k, l.mono0 g⟩
  | fdc kvs => obtain ⟨o, xs, q, k, l⟩ := r; exact ⟨o, xs, e.trans q, k, l.mono0 g⟩
  | dcT kvs => obtain ⟨xs, q, k, l⟩ := r; exact ⟨xs, e.trans q, k, l.mono0 g⟩
  | ins C fs => obtain ⟨dx, xs, q, k, l⟩ := r; exact ⟨dx, xs, e.trans q, k, l.mono0 g⟩
theorem RepO.keep (r : RepO K m H a ao) (g : Grow m H m' H') (e : H' a = H a) : RepO K m' H' a ao := r.keep0 g.w e
theorem Grow.put (n : H p = none) : Grow m H m (upd H p o) :=
  ⟨⟨[], by simp⟩, fun b xs e => by rw [upd_ne (ne_of_none e n)]; exact e, fun b o xs e => by rw [upd_ne (ne_of_none e n)]; exact e, fun b o e => by rw [upd_ne (ne_of_none e n)]; exact e⟩
theorem Grow.app (n : H p = none) : Grow m H (m ++ [p]) (upd H p o) := ⟨⟨[p], rfl⟩, (Grow.put (m := m) n).tup, (Grow.put (m := m) n).frz, (Grow.put (m := m) n).ext⟩
theorem RepH.put (r : RepH K m H h) (n : H p = none) : RepH K m (upd H p o) h :=
  ⟨r.len, r.nd, fun i b ob hi hb => (r.at_ i b ob hi hb).keep (.put n) (upd_ne fun z => r.fresh n (by rw [← z]; exact List.mem_of_getElem? hi))⟩
theorem RepH.new (r : RepH K m H h) (n : H p = none) (new : RepO K (m ++ [p]) (L2.upd H p o) p ao) : RepH K (m ++ [p]) (L2.upd H p o) (h ++ [ao]) := by
  have fr := r.fresh n
  refine ⟨by simp [r.len], ?_, fun i b ob hi hb => ?_⟩
  · exact List.nodup_append.mpr ⟨r.nd, by simp, fun x hx y hy z => fr (by simp at hy; rw [← hy, ← z]; exact hx)⟩
  · by_cases hl : i < m.length
    · rw [List.getElem?_append_left hl] at hi
      rw [List.getElem?_append_left (by rw [← r.len]; exact hl)] at hb
      exact (r.at_ i b ob hi hb).keep (.app n) (upd_ne fun z => fr (by rw [← z]; exact List.mem_of_getElem? hi))
    · have hz : i = m.length := by
        obtain ⟨q, _⟩ := List.getElem?_eq_some_iff.mp hi
        simp at q; omega
      subst hz
      simp at hi
      rw [r.len] at hb
      simp at hb
      subst hi hb
      exact new
/-- an object written -/
theorem Grow.write (e : H a = some u) (n1 : ∀ xs, u ≠ .tup xs) (n2 : ∀ o v, u ≠ .frz o v) (n3 : ∀ φ, u ≠ .ext φ) : Grow m H m (L2.upd H a o) :=
  ⟨⟨[], by simp⟩, fun b xs q => by rw [upd_ne (fun z => n1 xs (by rw [z, e] at q; exact Option.some.inj q))]; exact q,
    fun b o xs q => by rw [upd_ne (fun z => n2 o xs (by rw [z, e] at q; exact Option.some.inj q))]; exact q,
    fun b φ q => by rw [upd_ne (fun z => n3 φ (by rw [z, e] at q; exact Option.some.inj q))]; exact q⟩
theorem RepH.write {l : Nat} (r : RepH K m H h) (hl : m[l]? = some a) (e : H a = some u) (n1 : ∀ xs, u ≠ .tup xs) (n2 : ∀ o v, u ≠ .frz o v) (n3 : ∀ φ, u ≠ .ext φ) (new : RepO K m (L2.upd H a o) a ao) : RepH K m (L2.upd H a o) (h.set l ao) := by
  refine ⟨by simp [r.len], r.nd, fun i b ob hi hb => ?_⟩
  by_cases z : i = l
  · subst z
    rw [hl] at hi; cases hi
    obtain ⟨q, hq⟩ := List.getElem?_eq_some_iff.mp hb
    simp at q hq
    subst hq
    exact new
  · rw [List.getElem?_set_ne (Ne.symm z)] at hb
    refine (r.at_ i b ob hi hb).keep (.write e n1 n2 n3) (upd_ne fun w => z ?_)
    subst w
    obtain ⟨q1, e1⟩ := List.getElem?_eq_some_iff.mp hi
    obtain ⟨q2, e2⟩ := List.getElem?_eq_some_iff.mp hl
    exact (List.getElem_inj r.nd).mp (e1.trans e2.symm)
theorem RepH.lst {l : Nat} {ds : List D} (r : RepH K m H h) (hl : m[l]? = some a) (e : h[l]? = some (.lst ds)) : ∃ xs, H a = some (.lst xs) ∧ RepL K m H ds xs := r.at_ l a _ hl e
end
abbrev Res := Option (D × Hs)
abbrev VF2 := D → D → Hs → Res
def R.ofO : Res → R D
  | some p => .ok p.1 p.2
  | none => .bad
@[simp] theorem R.ofO_some (d : D) (h : Hs) : R.ofO (some (d, h)) = .ok d h := rfl
@[simp] theorem R.ofO_none : R.ofO none = .bad := rfl
def OutV (K : PySem.W.Frag) (m : List Addr) (H : Hp) (Q : VK) : Res → Prop
  | some p => ∀ v m' H', Grow m H m' H' → RepV K m' H' p.1 v → RepH K m' H' p.2 → Q v H'
  | none => False
def rV (K : PySem.W.Frag) (F : VF2) : R2 := fun x y H Q => ∃ m h dx dy, RepV K m H dx x ∧ RepV K m H dy y ∧ RepH K m H h ∧ OutV K m H Q (F dx dy h)
theorem OutV.of {g : Cfg} {m : List Addr} {H : Hp} {σ : St} {Q : VK} {r : Res} (o : OutE g m H σ Q (.ofO r)) : OutV g.K m H Q r := by
  cases r with
  | some p => exact o
  | none => exact o
/-- a value told, the heap as it is -/
theorem OutV.keep {K : PySem.W.Frag} {m : List Addr} {H : Hp} {h : Hs} {Q : VK} {d : D} {v : V} (o : OutV K m H Q (some (d, h))) (r : RepV K m H d v) (rh : RepH K m H h) : Q v H := o v m H (.refl _ _) r rh
theorem PE.weak {X : Cx} {e : Expr} {t t' : TE} (p : PE X e t) (w : ∀ σ H Q, t' σ H Q → t σ H Q) : PE X e t' := ⟨fun pns s σ H Q I h => p.run pns s σ H Q I (w σ H Q h)⟩
theorem PT.weak {X : Cx} {e : Expr} {t t' : TT} (p : PT X e t) (w : ∀ σ H Q, t' σ H Q → t σ H Q) : PT X e t' := ⟨fun pns s σ H Q I h => p.run pns s σ H Q I (w σ H Q h)⟩
theorem PW.weak {X : Cx} {e : Expr} {t t' : TT} (p : PW X e t) (w : ∀ σ H Q, t' σ H Q → t σ H Q) : PW X e t' := ⟨fun wh pns s σ H Q I h => p.run wh pns s σ H Q I (w σ H Q h)⟩
theorem PA.weak {X : Cx} {e : List Expr} {t t' : TA} (p : PA X e t) (w : ∀ σ H Q, t' σ H Q → t σ H Q) : PA X e t' := ⟨fun pos pns s σ H Q I h => p.run pos pns s σ H Q I (w σ H Q h)⟩
theorem PS.weak {X : Cx} {e : Stmt} {t t' : TS} (p : PS X e t) (w : ∀ N σ H, t' N σ H → t N σ H) : PS X e t' := ⟨fun pns s σ H Q I h => p.run pns s σ H Q I (w Q σ H h)⟩
theorem PSs.weak {X : Cx} {e : List Stmt} {t t' : TS} (p : PSs X e t) (w : ∀ N σ H, t' N σ H → t N σ H) : PSs X e t' := ⟨fun pns s σ H Q I h => p.run pns s σ H Q I (w Q σ H h)⟩
def cM (d : D) : EM := fun _ h => .ok d h
def vM (i : Nat) : EM := fun ds h => match ds[i]? with
  | some (some d) => .ok d h
  | _ => .bad
def binM (F : VF2) (A B : EM) : EM := fun ds h => (A ds h).bind fun x h => (B ds h).bind fun y h => .ofO (F x y h)
def unM (F : D → Hs → Res) (A : EM) : EM := fun ds h => (A ds h).bind fun x h => .ofO (F x h)
def nilA : AM := fun _ h => .ok [] h
def consA (A : EM) (B : AM) : AM := fun ds h => (A ds h).bind fun x h => (B ds h).bind fun xs h => .ok (x :: xs) h
abbrev LIM : Nat := 16777216
def tupF (xs : List D) (h : Hs) : Res := if xs.length ≤ LIM then some (.tup xs, h) else none
def lstF (xs : List D) (h : Hs) : Res := if xs.length ≤ LIM then some (.loc h.length, h ++ [.lst xs]) else none
def argM (F : List D → Hs → Res) (A : AM) : EM := fun ds h => (A ds h).bind fun xs h => .ofO (F xs h)
/-- a value as a test: a truth -/
def tbM (A : EM) : TM := fun ds h => (A ds h).bind fun d h => match d with
  | .bl b => .ok b h
  | _ => .bad
def truD : D → Hs → Option Bool
  | .non, _ => some false
  | .bl b, _ => some b
  | .int i, _ => some (i != 0)
  | .str s, _ => if s.length ≤ LIM then some ((s.length : Int) != 0) else none
  | .tup ds, _ => some (!ds.isEmpty)
  | .loc l, h => match h[l]? with
    | some (.lst ds) => some (!ds.isEmpty)
    | _ => none
  | _, _ => none
def truM (A : EM) : TM := fun ds h => (A ds h).bind fun d h => match truD d h with
  | some b => .ok b h
  | none => .bad
def andM (A B : TM) : TM := fun ds h => (A ds h).bind fun b h => if b = true then B ds h else .ok false h
def orM (A B : TM) : TM := fun ds h => (A ds h).bind fun b h => if b = true then .ok true h else B ds h
def notM (A : TM) : TM := fun ds h => (A ds h).bind fun b h => .ok (!b) h
def andV (A B : EM) : EM := fun ds h => (A ds h).bind fun d h => match d with
  | .bl b => if b = true then B ds h else .ok (.bl false) h
  | _ => .bad
def orV (A B : EM) : EM := fun ds h => (A ds h).bind fun d h => match d with
  | .bl b => if b = true then .ok (.bl true) h else B ds h
  | _ => .bad
def notV (A : EM) : EM := fun ds h => (A ds h).bind fun d h => match d with
  | .bl b => .ok (.bl (!b)) h
  | _ => .bad
def chainM (F G : VF2) (A B C : EM) : EM := fun ds h => (A ds h).bind fun x h => (B ds h).bind fun y h => (R.ofO (F x y h)).bind fun z h => match z with
  | .bl b => if b = true then (C ds h).bind fun w h => .ofO (G y w h) else .ok (.bl false) h
  | _ => .bad
def ifE (T : TM) (A B : EM) : EM := fun ds h => (T ds h).bind fun b h => if b = true then A ds h else B ds h
section
variable {X : Cx} {g : Cfg} {e a b c : Expr} {es : List Expr} {A B C : EM} {pos : Pos} {F G : VF2}
theorem em_const {v : V} {d : D} (p : PE X e (tC v)) (r : ∀ m H, RepV g.K m H d v) : PE X e (tM g (cM d)) := PE.weak p fun σ H Q ⟨m, ds, h, hs, rh, o⟩ => o v m H (.refl _ _) (r m H) rh
theorem em_int {i : Int} {j pos} : PE X (.Constant (.int i) j pos) (tM g (cM (.int i))) := em_const pe_int fun m H => by unfold RepV; rfl
theorem em_str {i : Str} {j pos} : PE X (.Constant (.str i) j pos) (tM g (cM (.str i))) := em_const pe_str fun m H => by unfold RepV; rfl
theorem em_bl {i : Bool} {j pos} : PE X (.Constant (.bool i) j pos) (tM g (cM (.bl i))) := em_const pe_bl fun m H => by unfold RepV; rfl
theorem em_non {j pos} : PE X (.Constant .none j pos) (tM g (cM .non)) := em_const pe_non fun m H => by unfold RepV; rfl
theorem em_gint {x : Str} {i : Int} {pos : Pos} (hg : Gl X x) (hm : ∃ t, X.mg x = some (.int i t)) (hd : (x == ("__debug__" : Str)) = false := by decide) : PE X (.Name x pos) (tM g (cM (.int i))) := by
  obtain ⟨t, hm⟩ := hm
  exact em_const (pe_glob (v := .int i) hg hm ⟨t, rfl⟩ hd) fun m H => by unfold RepV; rfl
theorem em_gstr {x : Str} {i : Str} {pos : Pos} (hg : Gl X x) (hm : ∃ t, X.mg x = some (.str i t)) (hd : (x == ("__debug__" : Str)) = false := by decide) : PE X (.Name x pos) (tM g (cM (.str i))) := by
  obtain ⟨t, hm⟩ := hm
  exact em_const (pe_glob (v := .str i) hg hm ⟨t, rfl⟩ hd) fun m H => by unfold RepV; rfl
theorem em_v {i : Nat} (p : PE X e (tVar i)) : PE X e (tM g (vM i)) := PE.weak p fun σ H Q ⟨m, ds, h, hs, rh, o⟩ => by
  unfold vM at o
  split at o
  · rename_i d hd
    obtain ⟨v, e1, r⟩ := hs.get hd
    exact ⟨v, e1, o v m H (.refl _ _) r rh⟩
  · exact o.elim
theorem bin_read {σ : St} {H : Hp} {Q : VK} (q : tM g (binM F A B) σ H Q) : tOp (rV g.K F) (tM g A) (tM g B) σ H Q := by
  obtain ⟨m, ds, h, hs, rh, o⟩ := q
  refine ⟨m, ds, h, hs, rh, OutE.toE o fun d1 h1 v1 m1 H1 g1 r1 rh1 o1 => ?_⟩
  refine ⟨m1, ds, h1, hs.mono g1, rh1, OutE.toE o1 fun d2 h2 v2 m2 H2 g2 r2 rh2 o2 => ?_⟩
  exact ⟨m2, h2, d1, d2, r1.mono g2, r2, rh2, .of o2⟩
theorem em_bin {op : Operator} (ho : OpR X (binaryOp op) (rV g.K F)) (ha : PE X a (tM g A)) (hb : PE X b (tM g B)) : PE X (.BinOp a op b pos) (tM g (binM F A B)) := PE.weak (pe_op ho ha hb) fun _ _ _ => bin_read
theorem em_cmp {op : CmpOp} (ho : OpR X (compareOp op) (rV g.K F)) (ha : PE X a (tM g A)) (hb : PE X b (tM g B)) (hm : behindInMarks op b = false) : PE X (.Compare a [op] [b] pos) (tM g (binM F A B)) := PE.weak (pe_cmpR ho ha hb hm) fun _ _ _ => bin_read
theorem em_ix (ho : IxR X (rV g.K F)) (ha : PE X a (tM g A)) (hb : PE X b (tM g B)) (hs : PlainIx b) : PE X (.Subscript a b pos) (tM g (binM F A B)) := PE.weak (pe_ix ho ha hb hs) fun _ _ _ => bin_read
theorem tb_read {σ : St} {H : Hp} {Q : Bool → Hp → Prop} (q : tT g (tbM A) σ H Q) : tM g A σ H fun x H' => ∃ k, x = .bl k ∧ Q k H' := by
  obtain ⟨m, ds, h, hs, rh, o⟩ := q
  refine ⟨m, ds, h, hs, rh, OutE.toT o fun d h' v m' H' w rv rh' o' => ?_⟩
  cases d with
  | bl b => exact ⟨b, by unfold RepV at rv; exact rv, o' m' H' (.refl _ _) rh'⟩
  | _ => exact (show False from o').elim
/-- comparisons as tests -/
theorem tm_cmp {op : CmpOp} (ho : OpR X (compareOp op) (rV g.K F)) (ha : PE X a (tM g A)) (hb : PE X b (tM g B)) (hm : behindInMarks op b = false) : PT X (.Compare a [op] [b] pos) (tT g (tbM (binM F A B))) :=
  PT.weak (pt_cmpR ho ha hb hm) fun σ H Q q => bin_read (tb_read q)
theorem chain_read {σ : St} {H : Hp} {Q : VK} (q : tM g (chainM F G A B C) σ H Q) : tChain (rV g.K F) (rV g.K G) (tM g A) (tM g B) (tM g C) σ H Q := by
  obtain ⟨m, ds, h, hs, rh, o⟩ := q
  refine ⟨m, ds, h, hs, rh, OutE.toE o fun d1 h1 v1 m1 H1 g1 r1 rh1 o1 => ?_⟩
  refine ⟨m1, ds, h1, hs.mono g1, rh1, OutE.toE o1 fun d2 h2 v2 m2 H2 g2 r2 rh2 o2 => ?_⟩
  refine ⟨m2, h2, d1, d2, r1.mono g2, r2, rh2, OutV.of (OutE.toE o2 fun d3 h3 v3 m3 H3 g3 r3 rh3 o3 => ?_)⟩
  cases d3 with
  | bl k =>
    refine ⟨k, by unfold RepV at r3; exact r3, ?_⟩
    have o3 : OutE g m3 H3 σ Q (if k = true then (C ds h3).bind fun w h => .ofO (G d2 w h) else .ok (.bl false) h3) := o3
    cases k with
    | true =>
      rw [if_pos rfl] at o3 ⊢
      refine ⟨m3, ds, h3, (hs.mono g1).mono (g2.trans g3), rh3, OutE.toE o3 fun d4 h4 v4 m4 H4 g4 r4 rh4 o4 => ?_⟩
      exact ⟨m4, h4, d2, d4, r2.mono (g3.trans g4), r4, rh4, .of o4⟩
    | false =>
      rw [if_neg Bool.false_ne_true] at o3 ⊢
      exact o3 _ m3 H3 (.refl _ _) (by unfold RepV; rfl) rh3
  | _ => exact (show False from o3).elim
theorem em_chain {op op' : CmpOp} (ho : OpR X (compareOp op) (rV g.K F)) (ho' : OpR X (compareOp op') (rV g.K G)) (ha : PE X a (tM g A)) (hb : PE X b (tM g B)) (hc : PE X c (tM g C))
    (hm : lastMarks [op, op'] [b, c] = false := by with_unfolding_all rfl) : PE X (.Compare a [op, op'] [b, c] pos) (tM g (chainM F G A B C)) := PE.weak (pe_chain ho ho' ha hb hc hm) fun _ _ _ => chain_read
theorem tm_chain {op op' : CmpOp} (ho : OpR X (compareOp op) (rV g.K F)) (ho' : OpR X (compareOp op') (rV g.K G)) (ha : PE X a (tM g A)) (hb : PE X b (tM g B)) (hc : PE X c (tM g C))
    (hm : lastMarks [op, op'] [b, c] = false := by with_unfolding_all rfl) : PT X (.Compare a [op, op'] [b, c] pos) (tT g (tbM (chainM F G A B C))) := PT.weak (pt_chain ho ho' ha hb hc hm) fun _ _ _ q => chain_read (tb_read q)
/-- any value as a test -/
theorem tm_tru (ha : PE X a (tM g A)) (hK : X.K = g.K) (he : ∀ whole, isTrue a X.env whole = (do let v ← whole; standAt a.pos; holding [v] (truthy v)) := by intro _; rfl) : PT X a (tT g (truM A)) := by
  refine PT.weak (pt_truth ha he) fun σ H Q ⟨m, ds, h, hs, rh, o⟩ => ⟨m, ds, h, hs, rh, OutE.toT o fun d h' v m' H' w rv rh' o' => ?_⟩
  have fin : ∀ {b : Bool}, OutT g m' H' σ Q (.ok b h') → Q b H' := fun q => q m' H' (.refl _ _) rh'
  have ls : sizeLine = 16777216 := sizeLine_eq
  cases d with
  | non => unfold RepV at rv; subst rv; exact ⟨false, rfl, fin o'⟩
  | bl b => unfold RepV at rv; subst rv; exact ⟨b, rfl, fin o'⟩
  | int i => unfold RepV at rv; subst rv; exact ⟨_, rfl, fin o'⟩
  | str s =>
    unfold RepV at rv; subst rv
    by_cases hz : s.length ≤ LIM
    · refine ⟨_, ⟨by rw [ls]; exact hz, rfl⟩, fin ?_⟩
      have e : truD (.str s) h' = some ((s.length : Int) != 0) := if_pos hz
      simpa only [e] using o'
    · have e : truD (.str s) h' = none := if_neg hz
      simp only [e] at o'
      exact o'.elim
  | tup xs =>
    unfold RepV at rv
    obtain ⟨p, vs, rfl, hp, rl⟩ := rv
    refine ⟨!vs.isEmpty, .inr (.inl ⟨vs, SqT.of hp, rfl⟩), ?_⟩
    have e : vs.isEmpty = xs.isEmpty := by
      rw [Bool.eq_iff_iff, List.isEmpty_iff, List.isEmpty_iff]; exact rl.nil_iff
    rw [e]
    exact fin o'
  | loc l =>
    unfold RepV at rv
    obtain ⟨p, hp, rfl⟩ := rv
    cases q : h'[l]? with
    | none => simp only [truD, q] at o'; exact o'.elim
    | some ao =>
      cases ao with
      | lst xs =>
        obtain ⟨vs, hv, rl⟩ := rh'.lst hp q
        refine ⟨!vs.isEmpty, .inl ⟨vs, SqL.of hv, rfl⟩, ?_⟩
        have e : vs.isEmpty = xs.isEmpty := by
          rw [Bool.eq_iff_iff, List.isEmpty_iff, List.isEmpty_iff]; exact rl.nil_iff
        rw [e]
        simp only [truD, q] at o'
        exact fin o'
      | _ => simp only [truD, q] at o'; exact o'.elim
  | exn c => exact (show False from o').elim
  | ro ns => exact (show False from o').elim
theorem tm_and1 {T : TM} (ha : PT X a (tT g T)) : PW X (.BoolOp .And [a] pos) (tT g T) := pw_and1 ha
theorem tm_or1 {T : TM} (ha : PT X a (tT g T)) : PW X (.BoolOp .Or [a] pos) (tT g T) := pw_or1 ha
theorem tm_and {T U : TM} {rest : List Expr} (ha : PT X a (tT g T)) (hb : PW X (.BoolOp .And (b :: rest) pos) (tT g U)) : PW X (.BoolOp .And (a :: b :: rest) pos) (tT g (andM T U)) := by
  refine PW.weak (pw_and ha hb) fun σ H Q ⟨m, ds, h, hs, rh, o⟩ => ⟨m, ds, h, hs, rh, OutT.toT o fun k h' m' H' w rh' o' => ?_⟩
  cases k with
  | true => rw [if_pos rfl] at o' ⊢; exact ⟨m', ds, h', hs.mono w, rh', o'⟩
  | false => rw [if_neg Bool.false_ne_true] at o' ⊢; exact o' m' H' (.refl _ _) rh'
theorem tm_or {T U : TM} {rest : List Expr} (ha : PT X a (tT g T)) (hb : PW X (.BoolOp .Or (b :: rest) pos) (tT g U)) : PW X (.BoolOp .Or (a :: b :: rest) pos) (tT g (orM T U)) := by
  refine PW.weak (pw_or ha hb) fun σ H Q ⟨m, ds, h, hs, rh, o⟩ => ⟨m, ds, h, hs, rh, OutT.toT o fun k h' m' H' w rh' o' => ?_⟩
  cases k with
  | true => rw [if_pos rfl] at o' ⊢; exact o' m' H' (.refl _ _) rh'
  | false => rw [if_neg Bool.false_ne_true] at o' ⊢; exact ⟨m', ds, h', hs.mono w, rh', o'⟩
theorem tm_not {T : TM} (ha : PT X a (tT g T)) : PT X (.UnaryOp .Not a pos) (tT g (notM T)) := by
  refine PT.weak (pt_not ha) fun σ H Q ⟨m, ds, h, hs, rh, o⟩ => ⟨m, ds, h, hs, rh, OutT.toT o fun k h' m' H' w rh' o' => ?_⟩
  exact o' m' H' (.refl _ _) rh'
theorem em_one {op} (ha : PE X a (tM g A)) : PE X (.BoolOp op [a] pos) (tM g A) := pe_one ha
theorem em_and {rest : List Expr} (ha : PE X a (tM g A)) (hb : PE X (.BoolOp .And (b :: rest) pos) (tM g B)) : PE X (.BoolOp .And (a :: b :: rest) pos) (tM g (andV A B)) := by
  refine PE.weak (pe_and ha hb) fun σ H Q ⟨m, ds, h, hs, rh, o⟩ => ⟨m, ds, h, hs, rh, OutE.toE o fun d h' v m' H' w rv rh' o' => ?_⟩
  cases d with
  | bl k =>
    refine ⟨k, by unfold RepV at rv; exact rv, ?_⟩
    have o' : OutE g m' H' σ Q (if k = true then B ds h' else .ok (.bl false) h') := o'
    cases k with
    | true => rw [if_pos rfl] at o' ⊢; exact ⟨m', ds, h', hs.mono w, rh', o'⟩
    | false => rw [if_neg Bool.false_ne_true] at o' ⊢; exact o' _ m' H' (.refl _ _) (by unfold RepV; rfl) rh'
  | _ => exact (show False from o').elim
theorem am_nil : PA X [] (tA g nilA) := PA.weak pa_nil fun σ H Q ⟨m, ds, h, hs, rh, o⟩ => o [] m H (.refl _ _) .nil rh
theorem am_cons {As : AM} (ha : PE X e (tM g A)) (hr : PA X es (tA g As)) (hs : starEach (e :: es) X.env = (false, eval e X.env) :: starEach es X.env := by rfl) : PA X (e :: es) (tA g (consA A As)) := by
  refine PA.weak (pa_cons ha hr hs) fun σ H Q ⟨m, ds, h, hs, rh, o⟩ => ⟨m, ds, h, hs, rh, OutE.toA o fun d h' v m' H' w rv rh' o' => ?_⟩
  refine ⟨m', ds, h', hs.mono w, rh', OutA.toA o' fun xs h2 vs m2 H2 w2 rl rh2 o2 => ?_⟩
  exact o2 _ m2 H2 (.refl _ _) (.cons (rv.mono w2) rl) rh2
theorem em_tup {As : AM} {x1} (h : PA X es (tA g As)) : PE X (.Tuple es x1 pos) (tM g (argM tupF As)) := by
  refine PE.weak (pe_tup h) fun σ H Q ⟨m, ds, h, hs, rh, o⟩ => ⟨m, ds, h, hs, rh, OutA.toE o fun xs h' vs m' H' w rl rh' o' => ?_⟩
  have ls : sizeLine = 16777216 := sizeLine_eq
  by_cases hz : xs.length ≤ LIM
  · have e : tupF xs h' = some (.tup xs, h') := if_pos hz
    rw [e] at o'
    refine ⟨by rw [rl.length, ls]; exact hz, fun p hp => o' _ m' _ (.put hp) ?_ (rh'.put hp)⟩
    unfold RepV
    exact ⟨p, vs, rfl, upd_same, rl.mono (.put hp)⟩
  · have e : tupF xs h' = none := if_neg hz
    rw [e] at o'
    exact o'.elim
/-- a new list tracked -/
theorem new_lst {m : List Addr} {H : Hp} {h : Hs} {xs : List D} {vs : List V} {p : Addr} (rl : RepL g.K m H xs vs) (rh : RepH g.K m H h) (hp : H p = none) :
    RepV g.K (m ++ [p]) (upd H p (.lst vs)) (.loc h.length) (.ref p) ∧ RepH g.K (m ++ [p]) (upd H p (.lst vs)) (h ++ [.lst xs]) := by
  refine ⟨?_, rh.new hp ⟨vs, upd_same, rl.mono (.app hp)⟩⟩
  unfold RepV
  exact ⟨p, by rw [← rh.len]; simp, rfl⟩
theorem em_lst {As : AM} (h : PA X es (tA g As)) : PE X (.List es pos) (tM g (argM lstF As)) := by
  refine PE.weak (pe_lst h) fun σ H Q ⟨m, ds, h, hs, rh, o⟩ => ⟨m, ds, h, hs, rh, OutA.toE o fun xs h' vs m' H' w rl rh' o' => ?_⟩
  have ls : sizeLine = 16777216 := sizeLine_eq
  by_cases hz : xs.length ≤ LIM
  · have e : lstF xs h' = some (.loc h'.length, h' ++ [.lst xs]) := if_pos hz
    rw [e] at o'
    refine ⟨by rw [rl.length, ls]; exact hz, fun p hp => ?_⟩
    obtain ⟨q1, q2⟩ := new_lst rl rh' hp
    exact o' _ _ _ (.app hp) q1 q2
  · have e : lstF xs h' = none := if_neg hz
    rw [e] at o'
    exact o'.elim
def rC (K : PySem.W.Frag) (F : List D → Hs → Res) : List V → Hp → VK → Prop := fun vs H Q => ∃ m h ds, RepL K m H ds vs ∧ RepH K m H h ∧ OutV K m H Q (F ds h)
theorem call_read {Fc : List D → Hs → Res} {As : AM} {σ : St} {H : Hp} {Q : VK} (q : tM g (argM Fc As) σ H Q) : tCB (rC g.K Fc) (tA g As) σ H Q := by
  obtain ⟨m, ds, h, hs, rh, o⟩ := q
  exact ⟨m, ds, h, hs, rh, OutA.toE o fun xs h' vs m' H' w rl rh' o' => ⟨m', h', xs, rl, rh', .of o'⟩⟩
theorem em_callB {id : String} {Fc : List D → Hs → Res} {As : AM} {x : Str} {p : Pos} (hc : CallR X (.builtin id) (rC g.K Fc)) (hg : Gl X x) (hm : X.mg x = none) (hv : bootBuiltins x = some (.builtin id)) (ha : PA X (e :: es) (tA g As)) (hn : x ≠ "__name__" := by decide) (hdb : (x == ("__debug__" : Str)) = false := by decide)
    (he : starEach (e :: es) X.env = (false, eval e X.env) :: starEach es X.env := by rfl) (hpl : (backTo pos (starEach es X.env)).any (·.1) = false := by rfl) : PE X (.Call (.Name x p) (e :: es) [] pos) (tM g (argM Fc As)) :=
  PE.weak (pe_callB hc hg hm hv ha hn hdb he hpl) fun _ _ _ => call_read
theorem em_callTy {T : String} {Fc : List D → Hs → Res} {As : AM} {x : Str} {p : Pos} (hc : CallR X (.type T) (rC g.K Fc)) (hg : Gl X x) (hm : X.mg x = none) (hv : bootBuiltins x = some (.type T)) (ha : PA X (e :: es) (tA g As)) (hn : x ≠ "__name__" := by decide) (hdb : (x == ("__debug__" : Str)) = false := by decide)
    (he : starEach (e :: es) X.env = (false, eval e X.env) :: starEach es X.env := by rfl) (hpl : (backTo pos (starEach es X.env)).any (·.1) = false := by rfl) : PE X (.Call (.Name x p) (e :: es) [] pos) (tM g (argM Fc As)) :=
  PE.weak (pe_callTy hc hg hm hv ha hn hdb he hpl) fun _ _ _ => call_read
end
end DV
namespace DV
open PySem PySem.Spec PyProof.Rows L2
def passM : SM := fun ds h => .nx ds h
def seqM (A B : SM) : SM := fun ds h => match A ds h with
  | .nx ds h => B ds h
  | r => r
def setM (i : Nat) (A : EM) : SM := fun ds h => lift (A ds h) ds fun d h => .nx (ds.set i (some d)) h
def exprM (A : EM) : SM := fun ds h => lift (A ds h) ds fun _ h => .nx ds h
def retM (A : EM) : SM := fun ds h => lift (A ds h) ds fun d h => .rt d h
def retN : SM := fun _ h => .rt .non h
def ifM (T : TM) (A B : SM) : SM := fun ds h => lift (T ds h) ds fun b h => if b = true then A ds h else B ds h
def raiseM (c : Str) : SM := fun ds h => .exc c ds h
def whileM (T : TM) (B : SM) : Nat → SM
  | 0 => fun _ _ => .bad
  | n + 1 => fun ds h => lift (T ds h) ds fun b h => if b = true then (match B ds h with
    | .nx ds h => whileM T B n ds h
    | .ct ds h => whileM T B n ds h
    | .bk ds h => .nx ds h
    | r => r) else .nx ds h
/-- targets -/
abbrev GM := D → Sl → Hs → RS
def nameG (i : Nat) : GM := fun d ds h => .nx (ds.set i (some d)) h
def nilG : List D → Sl → Hs → RS := fun xs ds h => match xs with
  | [] => .nx ds h
  | _ => .bad
def consG (T : GM) (U : List D → Sl → Hs → RS) : List D → Sl → Hs → RS := fun xs ds h => match xs with
  | x :: r => (match T x ds h with
    | .nx ds h => U r ds h
    | _ => .bad)
  | [] => .bad
def tupG (n : Nat) (U : List D → Sl → Hs → RS) : GM := fun d ds h => match d with
  | .tup xs => if xs.length = n then U xs ds h else .bad
  | _ => .bad
def asgM (A : EM) (T : GM) : SM := fun ds h => lift (A ds h) ds fun d h => T d ds h
/-- loops over known items, under a guard -/
abbrev IM := Sl → Hs → R (List D × (Hs → Prop))
open Classical in
noncomputable def loopM (gd : Hs → Prop) (T : GM) (B : SM) : List D → SM
  | [] => fun ds h => if gd h then .nx ds h else .bad
  | d :: r => fun ds h => if gd h then (match T d ds h with
    | .nx ds h => (match B ds h with
      | .nx ds h => loopM gd T B r ds h
      | .ct ds h => loopM gd T B r ds h
      | .bk ds h => .nx ds h
      | q => q)
    | _ => .bad) else .bad
noncomputable def forM (I : IM) (T : GM) (B : SM) : SM := fun ds h => lift (I ds h) ds fun p h => loopM p.2 T B p.1 ds h
def tG (g : Cfg) (T : GM) : TG := fun v σ H Q => ∃ m d ds h, RepV g.K m H d v ∧ RepS g.K m H ds σ ∧ RepH g.K m H h ∧ OutS g m H { nx := Q, rt := fun _ _ => False } (match T d ds h with | .nx ds h => .nx ds h | _ => .bad)
def tGs (g : Cfg) (U : List D → Sl → Hs → RS) : TGs := fun vs σ H Q => ∃ m xs ds h, RepL g.K m H xs vs ∧ RepS g.K m H ds σ ∧ RepH g.K m H h ∧ OutS g m H { nx := Q, rt := fun _ _ => False } (match U xs ds h with | .nx ds h => .nx ds h | _ => .bad)
theorem PG.weak {X : Cx} {e : Expr} {t t' : TG} (p : PG X e t) (w : ∀ v σ H Q, t' v σ H Q → t v σ H Q) : PG X e t' := ⟨fun pns s σ H v u Q I r h => p.run pns s σ H v u Q I r (w v σ H Q h)⟩
theorem PGs.weak {X : Cx} {e : List Expr} {t t' : TGs} (p : PGs X e t) (w : ∀ v σ H Q, t' v σ H Q → t v σ H Q) : PGs X e t' := ⟨fun pns s σ H v u Q I r h => p.run pns s σ H v u Q I r (w v σ H Q h)⟩
theorem PI.weak {X : Cx} {tg e : Expr} {t t' : TI} (p : PI X tg e t) (w : ∀ σ H R, t' σ H R → t σ H R) : PI X tg e t' := ⟨fun pns s σ H R I h => p.run pns s σ H R I (w σ H R h)⟩
section
variable {X : Cx} {g : Cfg} {e a b c tg iter : Expr} {es : List Expr} {A B C : EM} {pos : Pos} {F G : VF2} {S U : SM} {T : TM} {st : Stmt} {sts body : List Stmt}
theorem sms_nil : PSs X [] (tS g passM) := PSs.weak pss_nil fun N σ H ⟨m, ds, h, hs, rh, o⟩ => o σ m H (.refl _ _) hs rh
theorem sms_one (h1 : PS X st (tS g S)) : PSs X [st] (tS g S) := pss_one h1
theorem sms_cons (h1 : PS X st (tS g S)) (h2 : PSs X sts (tS g U)) : PSs X (st :: sts) (tS g (seqM S U)) := by
  refine PSs.weak (pss_cons h1 h2) fun N σ H ⟨m, ds, h, hs, rh, o⟩ => ⟨m, ds, h, hs, rh, ?_⟩
  unfold seqM at o
  cases q : S ds h with
  | nx ds1 h1 =>
    rw [q] at o
    exact fun σ1 m1 H1 g1 r1 rh1 => ⟨m1, ds1, h1, r1, rh1, OutS.mono o g1⟩
  | rt d h1 => rw [q] at o; exact o
  | bk ds1 h1 => rw [q] at o; exact o
  | ct ds1 h1 => rw [q] at o; exact o
  | exc c ds1 h1 => rw [q] at o; exact o
  | bad => rw [q] at o; exact o
theorem sm_expr (he : PE X e (tM g A)) (hs : swapsWith e none pos.line X.env = pure false := by rfl) : PS X (.Expr e pos) (tS g (exprM A)) :=
  PS.weak (ps_expr he hs) fun N σ H ⟨m, ds, h, hs, rh, o⟩ => ⟨m, ds, h, hs, rh, OutE.toS hs o fun d h1 v m1 H1 g1 r1 rh1 o1 => o1 σ m1 H1 (.refl _ _) (hs.mono g1) rh1⟩
theorem sm_ret (he : PE X e (tM g A)) : PS X (.Return (some e) pos) (tS g (retM A)) :=
  PS.weak (ps_ret he) fun N σ H ⟨m, ds, h, hs, rh, o⟩ => ⟨m, ds, h, hs, rh, OutE.toS hs o fun d h1 v m1 H1 g1 r1 rh1 o1 => o1 v m1 H1 (.refl _ _) r1 rh1⟩
theorem sm_if {tb fb : List Stmt} (hc : PT X c (tT g T)) (ha : PSs X tb (tS g S)) (hb : PSs X fb (tS g U)) : PS X (.If c tb fb pos) (tS g (ifM T S U)) := by
  refine PS.weak (ps_if hc ha hb) fun N σ H ⟨m, ds, h, hs, rh, o⟩ => ⟨m, ds, h, hs, rh, OutT.toS hs o fun k h1 m1 H1 g1 rh1 o1 => ?_⟩
  cases k with
  | true => rw [if_pos rfl] at o1 ⊢; exact ⟨m1, ds, h1, hs.mono g1, rh1, o1⟩
  | false => rw [if_neg Bool.false_ne_true] at o1 ⊢; exact ⟨m1, ds, h1, hs.mono g1, rh1, o1⟩
theorem gm_name {i : Nat} (h : PG X tg (gName i)) : PG X tg (tG g (nameG i)) :=
  PG.weak h fun v σ H Q ⟨m, d, ds, h, rv, hs, rh, o⟩ => o (σ.set i (some v)) m H (.refl _ _) (hs.put i rv) rh
theorem gms_nil : PGs X [] (tGs g nilG) := PGs.weak pgs_nil fun vs σ H Q ⟨m, xs, ds, h, rl, hs, rh, o⟩ => by
  cases xs with
  | nil => unfold RepL at rl; exact ⟨rl, o σ m H (.refl _ _) hs rh⟩
  | cons x r => exact (show False from o).elim
theorem gms_cons {T1 : GM} {U1 : List D → Sl → Hs → RS} (h1 : PG X e (tG g T1)) (h2 : PGs X es (tGs g U1))
    (hs : (assignEach (e :: es) X.env).map (·.2) = assign e X.env :: (assignEach es X.env).map (·.2) := by rfl) : PGs X (e :: es) (tGs g (consG T1 U1)) := by
  refine PGs.weak (pgs_cons h1 h2 hs) fun vs σ H Q ⟨m, xs, ds, h, rl, hs, rh, o⟩ => ?_
  cases xs with
  | nil => exact (show False from o).elim
  | cons x r =>
    unfold RepL at rl
    obtain ⟨v, vr, rfl, r1, r2⟩ := rl
    refine ⟨v, vr, rfl, m, x, ds, h, r1, hs, rh, ?_⟩
    have o : OutS g m H { nx := Q, rt := fun _ _ => False } (match (match T1 x ds h with | .nx ds h => U1 r ds h | _ => .bad) with | .nx ds h => .nx ds h | _ => .bad) := o
    cases q : T1 x ds h with
    | nx ds1 h1 =>
      rw [q] at o
      exact fun σ1 m1 H1 g1 s1 rh1 => ⟨m1, r, ds1, h1, r2.mono g1, s1, rh1, OutS.mono o g1⟩
    | _ => rw [q] at o; exact (show False from o).elim
theorem gm_tup {k n : Nat} {U1 : List D → Sl → Hs → RS} (hc : X.calm = true) (h : PGs X es (tGs g U1)) (hK : X.K = g.K)
    (hn : (assignEach es X.env).length = n := by rfl) (hst : (assignEach es X.env).findIdx? (·.1) = none := by rfl) : PG X (.Tuple es k pos) (tG g (tupG n U1)) := by
  refine PG.weak (pg_tup hc h hn hst) fun v σ H Q ⟨m, d, ds, h, rv, hs, rh, o⟩ => ?_
  cases d with
  | tup xs =>
    unfold RepV at rv
    obtain ⟨p, vs, rfl, hp, rl⟩ := rv
    have o : OutS g m H { nx := Q, rt := fun _ _ => False } (match (if xs.length = n then U1 xs ds h else .bad) with | .nx ds h => .nx ds h | _ => .bad) := o
    by_cases hl : xs.length = n
    · rw [if_pos hl] at o
      exact ⟨p, vs, rfl, SqT.of hp, by rw [rl.length]; exact hl, m, xs, ds, h, rl, hs, rh, o⟩
    · rw [if_neg hl] at o; exact o.elim
  | _ => exact (show False from o).elim
/-- only a next or nothing comes of a target -/
def okG (T : GM) : GM := fun d ds h => match T d ds h with
  | .nx ds h => .nx ds h
  | _ => .bad
theorem sm_set {i : Nat} {x : Str} {pos' : Pos} (hN : X.N.Nodup) (hi : X.N[i]? = some x) (hx : Loc X.env.scope x) (he : PE X e (tM g A)) (hs : swapsWith e (some (.Name x pos')) pos.line X.env = pure false := by rfl) (hf : X.fn x = true ∨ X.env.scope.names.lookup x = some .local := by first | exact .inl rfl | exact .inr rfl | assumption) :
    PS X (.Assign [.Name x pos'] e pos) (tS g (setM i A)) :=
  PS.weak (ps_set hN hi hx he hs hf) fun N σ H ⟨m, ds, h, hs, rh, o⟩ => ⟨m, ds, h, hs, rh, OutE.toS hs o fun d h1 v m1 H1 g1 r1 rh1 o1 => o1 _ m1 H1 (.refl _ _) ((hs.mono g1).put i r1) rh1⟩
theorem sm_asg {T1 : GM} (he : PE X e (tM g A)) (hg : PG X tg (tG g T1)) (hs : swapsWithSole [tg] e pos.line X.env = pure false := by rfl) (hw : swappedStores [tg] e X.env = pure none := by rfl)
    (h1 : (assignEach [tg] X.env).map (·.2) = [assign tg X.env] := by rfl) : PS X (.Assign [tg] e pos) (tS g (asgM A (okG T1))) := by
  refine PS.weak (ps_asg he hg hs hw h1) fun N σ H ⟨m, ds, h, hs, rh, o⟩ => ⟨m, ds, h, hs, rh, OutE.toS hs o fun d h1 v m1 H1 g1 r1 rh1 o1 => ⟨m1, d, ds, h1, r1, hs.mono g1, rh1, ?_⟩⟩
  have o1 : OutS g m1 H1 N (match T1 d ds h1 with | .nx ds h => .nx ds h | _ => .bad) := o1
  cases q : T1 d ds h1 with
  | nx ds1 h1 => rw [q] at o1; exact o1
  | _ => rw [q] at o1; exact (show False from o1).elim
theorem sm_while (n : Nat) (hp : PassesOwn (model X.prog X.w) X.A X.env X.xe) (hc : PT X c (tT g T)) (hb : PSs X body (tS g S)) : PS X (.While c body [] pos) (tS g (whileM T S n)) := by
  refine PS.weak (ps_while hp hc hb) fun N σ H ⟨m, ds, h, hs, rh, o⟩ => ?_
  refine ⟨fun k σ H => ∃ m ds h, RepS g.K m H ds σ ∧ RepH g.K m H h ∧ OutS g m H N (whileM T S k ds h), ⟨n, m, ds, h, hs, rh, o⟩, ?_⟩
  rintro k σ H ⟨m, ds, h, hs, rh, o⟩
  cases k with
  | zero => exact (show False from o).elim
  | succ k =>
    refine ⟨m, ds, h, hs, rh, OutT.toS hs o fun b h1 m1 H1 g1 rh1 o1 => ?_⟩
    cases b with
    | true =>
      rw [if_pos rfl] at o1 ⊢
      refine ⟨fun σ H => ∃ m ds h, RepS g.K m H ds σ ∧ RepH g.K m H h ∧ OutS g m H N (whileM T S k ds h), fun σ' H' q => ⟨k, Nat.lt_succ_self k, q⟩, m1, ds, h1, hs.mono g1, rh1, ?_⟩
      cases q : S ds h1 with
      | nx ds2 h2 => rw [q] at o1; exact fun σ2 m2 H2 g2 s2 rh2 => ⟨m2, ds2, h2, s2, rh2, OutS.mono o1 g2⟩
      | ct ds2 h2 => rw [q] at o1; exact fun σ2 m2 H2 g2 s2 rh2 => ⟨m2, ds2, h2, s2, rh2, OutS.mono o1 g2⟩
      | bk ds2 h2 => rw [q] at o1; exact o1
      | rt d h2 => rw [q] at o1; exact o1
      | exc c ds2 h2 => rw [q] at o1; exact o1
      | bad => rw [q] at o1; exact o1
    | false => rw [if_neg Bool.false_ne_true] at o1 ⊢; exact o1 _ m1 H1 (.refl _ _) (hs.mono g1) rh1
end
/-- the iterator J yields these, as long as the guard holds -/
def IsIt (K : PySem.W.Frag) (J : It) (its : List D) (gd : Hs → Prop) (m0 : List Addr) (H0 : Hp) : Prop :=
  ∀ i m H h, Grow m0 H0 m H → RepH K m H h → gd h → (∀ d, its[i]? = some d → J.go i H ∧ ∀ x H', J.yld i H x H' → Grow m H m H' ∧ RepV K m H' d x ∧ RepH K m H' h) ∧ (its.length ≤ i → J.stop i H)
def OutI (g : Cfg) (m : List Addr) (H : Hp) (σ : St) (Q : It → Hp → Prop) : R (List D × (Hs → Prop)) → Prop
  | .ok p h' => ∀ J m' H', Grow m H m' H' → RepH g.K m' H' h' → IsIt g.K J p.1 p.2 m' H' → Q J H'
  | .exc c h' => ∀ m' H', Grow m H m' H' → RepH g.K m' H' h' → g.W (.ref (He.ga g.K c)) none σ H'
  | .bad => False
def tI (g : Cfg) (M : IM) : TI := fun σ H Q => ∃ m ds h, RepS g.K m H ds σ ∧ RepH g.K m H h ∧ OutI g m H σ Q (M ds h)
section
variable {X : Cx} {g : Cfg} {tg iter : Expr} {body : List Stmt} {pos : Pos} {S : SM} {T : GM} {I : IM}
theorem sm_for (hp : PassesOwn (model X.prog X.w) X.A X.env X.xe) (hc : X.calm = true) (hi : PI X tg iter (tI g I)) (hg : PG X tg (tG g T)) (hb : PSs X body (tS g S))
    (hs : ∀ x, foldedSetIterable iter X.env x = pure x := by intro _; rfl) : PS X (.For tg iter body [] pos) (tS g (forM I T S)) := by
  refine PS.weak (ps_for hp hc hi hg hb hs) fun N σ H ⟨m, ds, h, hs, rh, o⟩ => ⟨m, ds, h, hs, rh, ?_⟩
  unfold forM at o
  cases q : I ds h with
  | exc c h1 => rw [q] at o; exact fun m' H' w rh' => o σ m' H' w (hs.mono w) rh'
  | bad => rw [q] at o; exact o
  | ok p h1 =>
    obtain ⟨its, gd⟩ := p
    rw [q, lift_ok] at o
    intro J m1 H1 g1 rh1 it
    refine ⟨fun i k σ H => k = its.length - i ∧ i ≤ its.length ∧ ∃ m ds h, Grow m1 H1 m H ∧ RepS g.K m H ds σ ∧ RepH g.K m H h ∧ OutS g m H N (loopM gd T S (its.drop i) ds h),
      ⟨_, rfl, Nat.zero_le _, m1, ds, h1, .refl _ _, hs.mono g1, rh1, OutS.mono o g1⟩, ?_⟩
    rintro i k σ2 H2 ⟨rfl, hi, m2, ds2, h2, g2, s2, rh2, o2⟩
    by_cases hlt : i < its.length
    · have hd : its.drop i = its[i] :: its.drop (i + 1) := List.drop_eq_getElem_cons hlt
      rw [hd] at o2
      unfold loopM at o2
      by_cases hgd : gd h2
      · rw [if_pos hgd] at o2
        obtain ⟨f1, _⟩ := it i m2 H2 h2 g2 rh2 hgd
        obtain ⟨go, yl⟩ := f1 its[i] (List.getElem?_eq_getElem hlt)
        refine .inr ⟨go, fun σ H => ∃ m ds h, Grow m1 H1 m H ∧ RepS g.K m H ds σ ∧ RepH g.K m H h ∧ OutS g m H N (loopM gd T S (its.drop (i + 1)) ds h), fun σ' H' ⟨m', ds', h', w⟩ => ⟨its.length - (i + 1), by omega, rfl, hlt, m', ds', h', w⟩, fun x H3 y => ?_⟩
        obtain ⟨g3, r3, rh3⟩ := yl x H3 y
        refine ⟨m2, its[i], ds2, h2, r3, s2.mono g3, rh3, ?_⟩
        cases w : T its[i] ds2 h2 with
        | nx ds4 h4 =>
          rw [w] at o2
          intro σ4 m4 H4 g4 s4 rh4
          refine ⟨m4, ds4, h4, s4, rh4, ?_⟩
          have o2 : OutS g m2 H2 N (match S ds4 h4 with
            | .nx ds h => loopM gd T S (its.drop (i + 1)) ds h
            | .ct ds h => loopM gd T S (its.drop (i + 1)) ds h
            | .bk ds h => .nx ds h
            | q => q) := o2
          have o4 := OutS.mono o2 (g3.trans g4)
          have gg := g2.trans (g3.trans g4)
          cases w2 : S ds4 h4 with
          | nx ds5 h5 => rw [w2] at o4; exact fun σ5 m5 H5 g5 s5 rh5 => ⟨m5, ds5, h5, gg.trans g5, s5, rh5, OutS.mono o4 g5⟩
          | ct ds5 h5 => rw [w2] at o4; exact fun σ5 m5 H5 g5 s5 rh5 => ⟨m5, ds5, h5, gg.trans g5, s5, rh5, OutS.mono o4 g5⟩
          | bk ds5 h5 => rw [w2] at o4; exact o4
          | rt d h5 => rw [w2] at o4; exact o4
          | exc c ds5 h5 => rw [w2] at o4; exact o4
          | bad => rw [w2] at o4; exact o4
        | _ => rw [w] at o2; exact (show False from o2).elim
      · rw [if_neg hgd] at o2; exact o2.elim
    · have e : i = its.length := by omega
      subst e
      rw [List.drop_length] at o2
      unfold loopM at o2
      by_cases hgd : gd h2
      · rw [if_pos hgd] at o2
        exact .inl ⟨(it _ m2 H2 h2 g2 rh2 hgd).2 (Nat.le_refl _), o2 σ2 m2 H2 (.refl _ _) s2 rh2⟩
      · rw [if_neg hgd] at o2; exact o2.elim
end
/-- the items of a value and the guard: a list must stay as it is -/
noncomputable def itsF (d : D) (h : Hs) : Option (List D × (Hs → Prop)) := match d with
  | .tup ds => some (ds, fun _ => True)
  | .ro ns => some (ns.map D.int, fun _ => True)
  | .str s => some (s.cps.toList.map fun c => .str ⟨#[c]⟩, fun _ => True)
  | .loc l => match h[l]? with
    | some (.lst ds) => some (ds, fun h => h[l]? = some (.lst ds))
    | _ => none
  | _ => none
noncomputable def valI (A : EM) : IM := fun ds h => (A ds h).bind fun d h => match itsF d h with
  | some p => .ok p h
  | none => .bad
/-- a test that no evaluation looks into -/
noncomputable def cB (p : Prop) : Bool := @decide p (Classical.propDecidable p)
theorem cB_iff {p : Prop} : cB p = true ↔ p := by unfold cB; exact @decide_eq_true_iff p (Classical.propDecidable p)
theorem cB_of {p : Prop} (h : p) : cB p = true := cB_iff.mpr h
/-- a range's ends fit -/
noncomputable def inR (j : Int) : Bool := cB (-(2 ^ 62) ≤ j ∧ j < 2 ^ 62)
noncomputable def rng1 : List D → Option (List D)
  | [.int j] => if inR j = true then some ((List.range j.toNat).map fun (i : Nat) => .int (i : Int)) else none
  | _ => none
noncomputable def rng2 : List D → Option (List D)
  | [.int i, .int j] => if inR i = true ∧ inR j = true then some ((List.range (j - i).toNat).map fun (k : Nat) => .int (i + (k : Int))) else none
  | _ => none
theorem rng1_inv {xs its : List D} (h : rng1 xs = some its) : ∃ j : Int, xs = [.int j] ∧ (-(2 ^ 62) ≤ j ∧ j < 2 ^ 62) ∧ its = (List.range j.toNat).map fun (i : Nat) => .int (i : Int) := by
  unfold rng1 at h
  split at h
  · rename_i j
    split at h
    · rename_i hj; exact ⟨j, rfl, cB_iff.mp hj, (Option.some.inj h).symm⟩
    · cases h
  · cases h
def rngI (F : List D → Option (List D)) (A : AM) : IM := fun ds h => (A ds h).bind fun xs h => match F xs with
  | some its => .ok (its, fun _ => True) h
  | none => .bad
section
variable {X : Cx} {g : Cfg} {tg e a b : Expr} {A : EM} {pos : Pos}
/-- any of list, tuple, text, by its value -/
theorem pi_any {l : Expr} {tl : TE} (hl : PE X l tl) : PI X tg l (fun σ H R => tl σ H fun x H1 => (∃ a, x = .ref a ∧ (∃ xs, SqL X.K H1 a xs) ∧ R (Itl X.K a) H1) ∨ (∃ a, x = .ref a ∧ (∃ xs, SqT X.K H1 a xs) ∧ R (Itt X.K a) H1) ∨ ∃ z, x = .str z ∧ R (Its z) H1) := by
  refine ⟨fun pns s σ H R I h => ?_⟩
  refine thn (hl.run pns s σ H _ I h) fun v s1 ⟨x, H1, I1, r1, q1⟩ => ?_
  rcases q1 with ⟨a, e, ⟨xs, hq⟩, q⟩ | ⟨a, e, ⟨xs, hq⟩, q⟩ | ⟨z, e, q⟩
  · subst e
    cases r1
    obtain ⟨its, rv, p, hz⟩ := I1.list hq
    refine wpAny_pyIter_list p.isList ?_
    refine ⟨s1.heap.objs.size, [s1.heap.objs.size], _, _, H1, rfl, I1.kept (t' := s1.toks) fun b o e => Heap.get?_push_of_some _ e, turn_list a _, ⟨_, Heap.get?_push_size _ rfl, rfl, rfl⟩, fun b hb => ?_, q⟩
    have e : b = s1.heap.objs.size := by simpa using hb
    subst e
    exact I1.fpOk (Nat.le_refl _) (I1.hok.fresh (Nat.le_refl _))
  · subst e
    cases r1
    obtain ⟨its, rv, p, hz⟩ := I1.tuple hq
    refine wpAny_pyIter_tuple (show s1.heap.IsTuple a its.toArray from p) ?_
    refine ⟨s1.heap.objs.size, [s1.heap.objs.size], _, _, H1, rfl, I1.kept (t' := s1.toks) fun b o e => Heap.get?_push_of_some _ e, turn_tuple a _, ⟨_, Heap.get?_push_size _ rfl, rfl, rfl⟩, fun b hb => ?_, q⟩
    have e : b = s1.heap.objs.size := by simpa using hb
    subst e
    exact I1.fpOk (Nat.le_refl _) (I1.hok.fresh (Nat.le_refl _))
  · subst e
    obtain ⟨t, rfl⟩ := r1
    cases ha : z.cps.all (· < 128)
    · exact wpAny_pyIter_wide ha (pi_one (tk := s1.toks) I1 _ (turn_str _ z t "str_iterator" (.inr rfl)) ⟨_, Heap.get?_push_size _ rfl, rfl, rfl⟩ q)
    · exact wpAny_pyIter_ascii ha (pi_one (tk := s1.toks) I1 _ (turn_str _ z t "str_ascii_iterator" (.inl rfl)) ⟨_, Heap.get?_push_size _ rfl, rfl, rfl⟩ q)
theorem isIt_tup {K : PySem.W.Frag} {p : Addr} {vs : List V} {ds : List D} {m : List Addr} {H : Hp} (hp : H p = some (.tup vs)) (rl : RepL K m H ds vs) : IsIt K (Itt K p) ds (fun _ => True) m H := by
  intro i m' H' h' g' rh' _
  have hp' := g'.tup _ _ hp
  refine ⟨fun d hd => ?_, fun hi => ⟨vs, SqT.of hp', by rw [rl.length]; exact hi⟩⟩
  obtain ⟨x, hx, rx⟩ := rl.get hd
  refine ⟨⟨vs, x, SqT.of hp', hx⟩, fun y H2 ⟨e, q⟩ => ?_⟩
  subst e
  have := q vs (SqT.of hp')
  rw [hx] at this; cases this
  exact ⟨.refl _ _, rx.mono g', rh'⟩
theorem isIt_lst {K : PySem.W.Frag} {p : Addr} {l : Nat} {ds : List D} {m : List Addr} {H : Hp} (hp : m[l]? = some p) : IsIt K (Itl K p) ds (fun h => h[l]? = some (.lst ds)) m H := by
  intro i m' H' h' g' rh' hg
  obtain ⟨⟨r, rfl⟩, _, _, _⟩ := g'
  obtain ⟨hlt, _⟩ := List.getElem?_eq_some_iff.mp hp
  have hp' : (m ++ r)[l]? = some p := by rw [List.getElem?_append_left hlt]; exact hp
  obtain ⟨vs, hv, rl⟩ := rh'.lst hp' hg
  refine ⟨fun d hd => ?_, fun hi => ⟨vs, SqL.of hv, by rw [rl.length]; exact hi⟩⟩
  obtain ⟨x, hx, rx⟩ := rl.get hd
  refine ⟨⟨vs, x, SqL.of hv, hx⟩, fun y H2 ⟨e, q⟩ => ?_⟩
  subst e
  have := q vs (SqL.of hv)
  rw [hx] at this; cases this
  exact ⟨.refl _ _, rx, rh'⟩
theorem SqR.mono {K : PySem.W.Frag} {H H' : Hp} {m m' : List Addr} {p : Addr} {xs : List V} (g : Grow m H m' H') (q : SqR K H p xs) : SqR K H' p xs := by
  rcases q with ⟨o, q⟩ | q
  · exact .inl ⟨o, g.frz _ _ _ q⟩
  · exact .inr q
theorem isIt_ro {K : PySem.W.Frag} {p : Addr} {ns : List Int} {m : List Addr} {H : Hp} (hp : SqR K H p (ns.map V.int)) : IsIt K (Itl K p) (ns.map D.int) (fun _ => True) m H := by
  intro i m' H' h' g' rh' _
  have hq := (hp.mono g').sq
  refine ⟨fun d hd => ?_, fun hi => ⟨_, hq, by simpa using hi⟩⟩
  rw [List.getElem?_map] at hd
  cases e : ns[i]? with
  | none => rw [e] at hd; cases hd
  | some n =>
    rw [e] at hd
    cases hd
    have hx : (ns.map V.int)[i]? = some (.int n) := by rw [List.getElem?_map, e]; rfl
    refine ⟨⟨_, .int n, hq, hx⟩, fun y H2 ⟨e, q⟩ => ?_⟩
    subst e
    have := q _ hq
    rw [hx] at this; cases this
    exact ⟨.refl _ _, by unfold RepV; rfl, rh'⟩
theorem isIt_str {K : PySem.W.Frag} {z : Str} {m : List Addr} {H : Hp} : IsIt K (Its z) (z.cps.toList.map fun c => .str ⟨#[c]⟩) (fun _ => True) m H := by
  intro i m' H' h' g' rh' _
  refine ⟨fun d hd => ?_, fun hi => (show z.cps.size ≤ i by simpa using hi)⟩
  rw [List.getElem?_map, Array.getElem?_toList] at hd
  cases e : z.cps[i]? with
  | none => rw [e] at hd; cases hd
  | some n =>
    rw [e] at hd
    cases hd
    refine ⟨?_, fun y H2 ⟨e2, c, hc, q⟩ => ?_⟩
    · have : i < z.cps.size := (Array.getElem?_eq_some_iff.mp e).1
      exact this
    · subst e2 q
      rw [e] at hc; cases hc
      exact ⟨.refl _ _, by unfold RepV; rfl, rh'⟩
theorem isIt_rng {K : PySem.W.Frag} {lo : Int} {n : Nat} {m : List Addr} {H : Hp} : IsIt K (Itr lo n) ((List.range n).map fun (k : Nat) => .int (lo + (k : Int))) (fun _ => True) m H := by
  intro i m' H' h' g' rh' _
  refine ⟨fun d hd => ?_, fun hi => (show n ≤ i by simpa using hi)⟩
  rw [List.getElem?_map] at hd
  by_cases hl : i < n
  · rw [List.getElem?_range hl] at hd
    cases hd
    exact ⟨hl, fun y H2 ⟨e2, q⟩ => by subst e2 q; exact ⟨.refl _ _, by unfold RepV; rfl, rh'⟩⟩
  · rw [List.getElem?_eq_none (by simpa using hl)] at hd; cases hd
theorem OutE.toI {g : Cfg} {m : List Addr} {H : Hp} {σ : St} {Q : It → Hp → Prop} {Q' : VK} {r : R D} {k : D → Hs → R (List D × (Hs → Prop))} (o : OutI g m H σ Q (r.bind k)) (f : ∀ d h' v m' H', Grow m H m' H' → RepV g.K m' H' d v → RepH g.K m' H' h' → OutI g m' H' σ Q (k d h') → Q' v H') : OutE g m H σ Q' r := by
  cases r with
  | ok d h =>
    refine fun v m' H' w rv rh => f d h v m' H' w rv rh ?_
    rw [R.bind_ok] at o
    cases q : k d h with
    | ok p h2 => rw [q] at o; exact fun J m2 H2 w2 => o J m2 H2 (w.trans w2)
    | exc c h2 => rw [q] at o; exact fun m2 H2 w2 => o m2 H2 (w.trans w2)
    | bad => rw [q] at o; exact o
  | exc c h => exact o
  | bad => exact o
theorem OutA.toI {g : Cfg} {m : List Addr} {H : Hp} {σ : St} {Q : It → Hp → Prop} {Q' : List V → Hp → Prop} {r : R (List D)} {k : List D → Hs → R (List D × (Hs → Prop))} (o : OutI g m H σ Q (r.bind k)) (f : ∀ d h' v m' H', Grow m H m' H' → RepL g.K m' H' d v → RepH g.K m' H' h' → OutI g m' H' σ Q (k d h') → Q' v H') : OutA g m H σ Q' r := by
  cases r with
  | ok d h =>
    refine fun v m' H' w rv rh => f d h v m' H' w rv rh ?_
    rw [R.bind_ok] at o
    cases q : k d h with
    | ok p h2 => rw [q] at o; exact fun J m2 H2 w2 => o J m2 H2 (w.trans w2)
    | exc c h2 => rw [q] at o; exact fun m2 H2 w2 => o m2 H2 (w.trans w2)
    | bad => rw [q] at o; exact o
  | exc c h => exact o
  | bad => exact o
theorem im_val (hK : X.K = g.K) (he : PE X e (tM g A)) : PI X tg e (tI g (valI A)) := by
  refine PI.weak (pi_any he) fun σ H R ⟨m, ds, h, hs, rh, o⟩ => ⟨m, ds, h, hs, rh, OutE.toI o fun d h1 v m1 H1 g1 r1 rh1 o1 => ?_⟩
  rw [hK]
  cases d with
  | tup xs =>
    unfold RepV at r1
    obtain ⟨p, vs, rfl, hp, rl⟩ := r1
    exact .inr (.inl ⟨p, rfl, ⟨vs, SqT.of hp⟩, o1 _ m1 H1 (.refl _ _) rh1 (isIt_tup hp rl)⟩)
  | ro ns =>
    unfold RepV at r1
    obtain ⟨p, rfl, hp⟩ := r1
    exact .inl ⟨p, rfl, ⟨_, hp.sq⟩, o1 _ m1 H1 (.refl _ _) rh1 (isIt_ro hp)⟩
  | str z =>
    unfold RepV at r1
    exact .inr (.inr ⟨z, r1, o1 _ m1 H1 (.refl _ _) rh1 isIt_str⟩)
  | loc l =>
    unfold RepV at r1
    obtain ⟨p, hp, rfl⟩ := r1
    cases q : h1[l]? with
    | none => simp only [itsF, q] at o1; exact o1.elim
    | some ao =>
      cases ao with
      | lst xs =>
        obtain ⟨vs, hv, rl⟩ := rh1.lst hp q
        simp only [itsF, q] at o1
        exact .inl ⟨p, rfl, ⟨vs, SqL.of hv⟩, o1 _ m1 H1 (.refl _ _) rh1 (isIt_lst hp)⟩
      | _ => simp only [itsF, q] at o1; exact o1.elim
  | _ => exact (show False from o1).elim
theorem repL1 {K : PySem.W.Frag} {m : List Addr} {H : Hp} {d : D} {vs : List V} (r : RepL K m H [d] vs) : ∃ v, vs = [v] ∧ RepV K m H d v := by
  unfold RepL at r
  obtain ⟨x, r, rfl, h1, h2⟩ := r
  unfold RepL at h2
  exact ⟨x, by rw [h2], h1⟩
theorem repL2 {K : PySem.W.Frag} {m : List Addr} {H : Hp} {d e : D} {vs : List V} (r : RepL K m H [d, e] vs) : ∃ v u, vs = [v, u] ∧ RepV K m H d v ∧ RepV K m H e u := by
  unfold RepL at r
  obtain ⟨x, r, rfl, h1, h2⟩ := r
  obtain ⟨u, rfl, h3⟩ := repL1 h2
  exact ⟨x, u, rfl, h1, h3⟩
theorem im_rng1 {As : AM} {p : Pos} (hg : Gl X "range") (hm : X.mg "range" = none) (ha : PA X [a] (tA g As)) (hs : starEach [a] X.env = [(false, eval a X.env)] := by rfl) : PI X tg (.Call (.Name "range" p) [a] [] pos) (tI g (rngI rng1 As)) := by
  refine PI.weak (pi_range1 hg hm ha hs) fun σ H R ⟨m, ds, h, hs, rh, o⟩ => ⟨m, ds, h, hs, rh, OutA.toI o fun xs h1 vs m1 H1 g1 rl rh1 o1 => ?_⟩
  cases q : rng1 xs with
  | none => simp only [q] at o1; exact o1.elim
  | some its =>
    simp only [q] at o1
    obtain ⟨j, rfl, hj, rfl⟩ := rng1_inv q
    obtain ⟨v, rfl, r1⟩ := repL1 rl
    unfold RepV at r1
    subst r1
    refine ⟨j, rfl, hj.1, hj.2, o1 _ m1 H1 (.refl _ _) rh1 ?_⟩
    have := isIt_rng (K := g.K) (lo := 0) (n := j.toNat) (m := m1) (H := H1)
    simpa only [Int.zero_add] using this
end
end DV
namespace DV
open PySem PySem.Spec PyProof.Rows L2
def wipeD (ds : Sl) : List Nat → Sl
  | [] => ds
  | v :: vs => (wipeD ds vs).set v none
theorem RepS.wipe {K : PySem.W.Frag} {m : List Addr} {H : Hp} {ds : Sl} {σ : St} (r : RepS K m H ds σ) : ∀ vs : List Nat, RepS K m H (wipeD ds vs) (wipe σ vs)
  | [] => r
  | v :: vs => (RepS.wipe r vs).forget v none
/-- no exception -/
def R.noX {α : Type} : R α → R α
  | .ok a h => .ok a h
  | _ => .bad
@[simp] theorem R.noX_ok {α : Type} (a : α) (h : Hs) : (R.ok a h).noX = .ok a h := rfl
open Classical in
/-- l: the new list's number -/
noncomputable def lcLoop (gd : Hs → Prop) (l : Nat) (T : GM) (C : TM) (A : EM) (ds : Sl) : List D → Hs → R D
  | [], h => if gd h then .ok (.loc l) h else .bad
  | d :: r, h => if gd h then (match T d ds h with
    | .nx ds1 h1 => (C ds1 h1).noX.bind fun b h2 => if b = true then (A ds1 h2).noX.bind fun y h3 => (match h3[l]? with
        | some (.lst acc) => if acc.length < LIM then lcLoop gd l T C A ds r (h3.set l (.lst (acc ++ [y]))) else .bad
        | _ => .bad) else lcLoop gd l T C A ds r h2
    | _ => .bad) else .bad
/-- [A for T in I if C], own: the slots of its own names -/
noncomputable def lcM (own : List Nat) (I : IM) (T : GM) (C : TM) (A : EM) : EM := fun ds h => (I ds h).bind fun p h => lcLoop p.2 h.length T C A (wipeD ds own) p.1 (h ++ [.lst []])
def yesM : TM := fun _ h => .ok true h
theorem OutI.toE {g : Cfg} {m : List Addr} {H : Hp} {σ : St} {Q : VK} {Q' : It → Hp → Prop} {r : R (List D × (Hs → Prop))} {k : (List D × (Hs → Prop)) → Hs → R D} (o : OutE g m H σ Q (r.bind k))
    (f : ∀ p h' J m' H', Grow m H m' H' → RepH g.K m' H' h' → IsIt g.K J p.1 p.2 m' H' → OutE g m' H' σ Q (k p h') → Q' J H') : OutI g m H σ Q' r := by
  cases r with
  | ok p h => exact fun J m' H' w rh it => f p h J m' H' w rh it (OutE.mono o w)
  | exc c h => exact o
  | bad => exact o
/-- no exception leaves a comprehension's block -/
def noW (K : PySem.W.Frag) : Cfg := ⟨K, fun _ _ _ _ => False⟩
theorem IsIt.mono {K : PySem.W.Frag} {J : It} {its : List D} {gd : Hs → Prop} {m m' : List Addr} {H H' : Hp} (x : IsIt K J its gd m H) (w : Grow m H m' H') : IsIt K J its gd m' H' :=
  fun i m2 H2 h2 g2 => x i m2 H2 h2 (w.trans g2)
/-- a target of own names: its reading t, its maker T -/
structure CT (K : PySem.W.Frag) (own : List Nat) (t : TG) (T : GM) : Prop where
  keep : ∀ d ds h ds' h', T d ds h = .nx ds' h' → h' = h
  run : ∀ (m : List Addr) (d : D) (ds ds' : Sl) (h h' : Hs) (v : V) (σ : St) (H : Hp) (Q : St → Hp → Prop), RepV K m H d v → RepS K m H ds (wipe σ own) → T d ds h = .nx ds' h' →
    (∀ σ', wipe σ' own = wipe σ own → RepS K m H ds' σ' → Q σ' H) → t v (wipe σ own) H fun σ2 H2 => wipe σ2 own = wipe σ own ∧ Q σ2 H2
theorem ct_name (K : PySem.W.Frag) (i : Nat) : CT K [i] (gName i) (nameG i) where
  keep := fun d ds h ds' h' e => by cases e; rfl
  run := by
    intro m d ds ds' h h' v σ H Q rv rs e o
    cases e
    have e : wipe ((wipe σ [i]).set i (some v)) [i] = wipe σ [i] := by
      show (((σ.set i none).set i (some v)).set i none) = σ.set i none
      rw [List.set_set, List.set_set]
    exact ⟨e, o _ e (rs.put i rv)⟩
theorem lc_read {g : Cfg} {own : List Nat} {I : IM} {T : GM} {C : TM} {A : EM} {σ : St} {H : Hp} {Q : VK} (q : tM g (lcM own I T C A) σ H Q)
    {t : TG} (ct : CT g.K own t T) :
    tLc (tI g I) t (tT (noW g.K) C) (tM (noW g.K) A) own σ H Q := by
  obtain ⟨m, ds, h, hs, rh, o⟩ := q
  refine ⟨m, ds, h, hs, rh, OutI.toE o fun p h1 J m1 H1 g1 rh1 it o1 => ?_⟩
  obtain ⟨its, gd⟩ := p
  intro L hL
  -- the new list
  have rh2 : RepH g.K (m1 ++ [L]) (upd H1 L (.lst [])) (h1 ++ [.lst []]) := (new_lst (g := g) (.nil) rh1 hL).2
  have g2 : Grow m1 H1 (m1 ++ [L]) (upd H1 L (.lst [])) := .app hL
  have hl : (m1 ++ [L])[h1.length]? = some L := by rw [← rh1.len]; simp
  have s2 := (hs.mono g1).mono g2
  have it2 := it.mono g2
  have o2 : OutE g (m1 ++ [L]) (upd H1 L (.lst [])) σ Q (lcLoop gd h1.length T C A (wipeD ds own) its (h1 ++ [.lst []])) := OutE.mono o1 g2
  generalize (m1 ++ [L]) = m2 at rh2 g2 hl s2 it2 o2
  generalize (upd H1 L (.lst [])) = H2 at rh2 g2 s2 it2 o2 ⊢
  generalize h1.length = l at hl o2
  generalize (h1 ++ [AO.lst []]) = h2 at rh2 o2
  refine ⟨fun i k H => k = its.length - i ∧ i ≤ its.length ∧ ∃ m h, Grow m2 H2 m H ∧ RepH g.K m H h ∧ OutE g m H σ Q (lcLoop gd l T C A (wipeD ds own) (its.drop i) h), ⟨_, rfl, Nat.zero_le _, m2, h2, .refl _ _, rh2, o2⟩, ?_⟩
  rintro i k H3 ⟨rfl, hi, m3, h3, g3, rh3, o3⟩
  have hl3 : m3[l]? = some L := by
    obtain ⟨⟨r, rfl⟩, _, _, _⟩ := g3
    obtain ⟨q, _⟩ := List.getElem?_eq_some_iff.mp hl
    rw [List.getElem?_append_left q]; exact hl
  by_cases hlt : i < its.length
  · have hd : its.drop i = its[i] :: its.drop (i + 1) := List.drop_eq_getElem_cons hlt
    rw [hd] at o3
    unfold lcLoop at o3
    by_cases hgd : gd h3
    · rw [if_pos hgd] at o3
      obtain ⟨f1, _⟩ := it2 i m3 H3 h3 g3 rh3 hgd
      obtain ⟨go, yl⟩ := f1 its[i] (List.getElem?_eq_getElem hlt)
      refine .inr ⟨go, fun H => ∃ m h, Grow m2 H2 m H ∧ RepH g.K m H h ∧ OutE g m H σ Q (lcLoop gd l T C A (wipeD ds own) (its.drop (i + 1)) h), fun H' ⟨m', h', w⟩ => ⟨its.length - (i + 1), by omega, rfl, hlt, m', h', w⟩, fun x H4 y => ?_⟩
      obtain ⟨g4, r4, rh4⟩ := yl x H4 y
      cases w : T its[i] (wipeD ds own) h3 with
      | nx ds5 h5 =>
        rw [w] at o3
        obtain rfl := ct.keep _ _ _ _ _ w
        refine ct.run m3 its[i] (wipeD ds own) ds5 h5 h5 x σ H4 _ r4 (((s2.mono g3).mono g4).wipe own) w fun σ5 hw5 s5 => ?_
        have o5 := OutE.mono o3 g4
        refine ⟨m3, ds5, h5, s5, rh4, ?_⟩
        have gg := g3.trans g4
        change OutE g m3 H4 σ Q ((C ds5 h5).noX.bind _) at o5
        cases c5 : C ds5 h5 with
        | exc c h6 => rw [c5] at o5; exact o5.elim
        | bad => rw [c5] at o5; exact o5
        | ok b h6 =>
          rw [c5, R.noX_ok, R.bind_ok] at o5
          intro m6 H6 g6 rh6
          cases b with
          | false =>
            rw [if_neg Bool.false_ne_true] at o5 ⊢
            exact ⟨m6, h6, gg.trans g6, rh6, OutE.mono o5 g6⟩
          | true =>
            rw [if_pos rfl] at o5 ⊢
            refine ⟨m6, ds5, h6, s5.mono g6, rh6, ?_⟩
            cases a6 : A ds5 h6 with
            | exc c h7 => rw [a6] at o5; exact o5.elim
            | bad => rw [a6] at o5; exact o5
            | ok yd h7 =>
              rw [a6, R.noX_ok, R.bind_ok] at o5
              intro yv m7 H7 g7 r7 rh7
              have hl7 : m7[l]? = some L := by
                obtain ⟨⟨r, rfl⟩, _, _, _⟩ := g4.trans (g6.trans g7)
                obtain ⟨q, _⟩ := List.getElem?_eq_some_iff.mp hl3
                rw [List.getElem?_append_left q]; exact hl3
              cases e7 : h7[l]? with
              | none => rw [e7] at o5; exact o5.elim
              | some ao =>
                cases ao with
                | lst acc =>
                  rw [e7] at o5
                  change OutE g m3 H4 σ Q (if acc.length < LIM then _ else _) at o5
                  by_cases hz : acc.length < LIM
                  · rw [if_pos hz] at o5
                    obtain ⟨vs, hv, rl⟩ := rh7.lst hl7 e7
                    have w8 : Grow m7 H7 m7 (upd H7 L (.lst (vs ++ [yv]))) := .write hv (fun _ z => nomatch z) (fun _ _ z => nomatch z) (fun _ z => nomatch z)
                    have rh8 : RepH g.K m7 (upd H7 L (.lst (vs ++ [yv]))) (h7.set l (.lst (acc ++ [yd]))) :=
                      rh7.write hl7 hv (fun _ z => nomatch z) (fun _ _ z => nomatch z) (fun _ z => nomatch z) ⟨_, upd_same, (rl.append (.cons r7 .nil)).mono w8⟩
                    refine ⟨vs, hv, ?_, m7, _, (gg.trans (g6.trans g7)).trans w8, rh8, OutE.mono o5 ((g6.trans g7).trans w8)⟩
                    rw [rl.length, sizeLine_eq]; exact hz
                  · rw [if_neg hz] at o5; exact o5.elim
                | _ => rw [e7] at o5; exact (show False from o5).elim
      | _ => rw [w] at o3; exact (show False from o3).elim
    · rw [if_neg hgd] at o3; exact o3.elim
  · have e : i = its.length := by omega
    subst e
    rw [List.drop_length] at o3
    unfold lcLoop at o3
    by_cases hgd : gd h3
    · rw [if_pos hgd] at o3
      exact .inl ⟨(it2 _ m3 H3 h3 g3 rh3 hgd).2 (Nat.le_refl _), o3 _ m3 H3 (.refl _ _) (by unfold RepV; exact ⟨L, hl3, rfl⟩) rh3⟩
    · rw [if_neg hgd] at o3; exact o3.elim
/-- tests of a clause -/
theorem tms_nil {X : Cx} {g : Cfg} : PTs X [] (tT g yesM) := ⟨fun _ _ _ H _ I ⟨m, ds, h, hs, rh, o⟩ => wpAny_tests_nil ⟨H, I, o m H (.refl _ _) rh⟩⟩
section
variable {X : Cx} {g : Cfg} {tg elt iter : Expr} {ifs : List Expr} {scope : Scope} {own : List (Str × Nat)} {pos spos py : Pos} {I : IM} {T : GM} {C : TM} {A : EM} {t : TG}
theorem em_lc (hc : X.calm = true) (hN : X.N.Nodup) (hi : PI X tg iter (tI g I)) (ok : BlkOk X.N X.env.scope scope own) (ct : CT g.K (own.map (·.2)) t T)
    (hg : ∀ (s : Shared) (H : Hp) (C : Addr) (cl : List (Str × Addr)) (fp : List Addr), PG (X.blk s H scope (compEnvC scope cl C X.env) fp) tg t)
    (ht : ∀ (s : Shared) (H : Hp) (Ca : Addr) (cl : List (Str × Addr)) (fp : List Addr), PTs (X.blk s H scope (compEnvC scope cl Ca X.env) fp) ifs (tT (noW g.K) C))
    (he : ∀ (s : Shared) (H : Hp) (C : Addr) (cl : List (Str × Addr)) (fp : List Addr), PE (X.blk s H scope (compEnvC scope cl C X.env) fp) elt (tM (noW g.K) A)) (hs : ∀ x, foldedSetIterable iter X.env x = pure x := by intro _; rfl) :
    PE X (.ListComp elt [⟨tg, iter, ifs, 0⟩] scope pos) (tM g (lcM (own.map (·.2)) I T C A)) := PE.weak (pe_lc hc hN hi ok hg ht he hs) fun σ H Q q => lc_read q ct
end
/-- what a def makes of its arguments and the objects -/
abbrev Fm := List D → Hs → R D
def OutC (K : PySem.W.Frag) (m : List Addr) (H : Hp) (Q : VK) (E : XK) : R D → Prop
  | .ok d h' => ∀ v m' H', Grow m H m' H' → RepV K m' H' d v → RepH K m' H' h' → Q v H'
  | .exc c h' => ∀ m' H', Grow m H m' H' → RepH K m' H' h' → E (.ref (He.ga K c)) none H'
  | .bad => False
def spM (K : PySem.W.Frag) (n : Nat) (φ : Fm) : Sp := fun vs H Q E => vs.length = n ∧ ∃ m ds h, RepL K m H ds vs ∧ RepH K m H h ∧ OutC K m H Q E (φ ds h)
def callM (φ : Fm) (A : AM) : EM := fun ds h => (A ds h).bind fun xs h => φ xs h
theorem callS_read {g : Cfg} {n : Nat} {φ : Fm} {As : AM} {σ : St} {H : Hp} {Q : VK} (ar : ∀ xs h, xs.length ≠ n → φ xs h = .bad) (q : tM g (callM φ As) σ H Q) : tCallS (spM g.K n φ) (WE g.W) (tA g As) σ H Q := by
  obtain ⟨m, ds, h, hs, rh, o⟩ := q
  refine ⟨m, ds, h, hs, rh, OutA.toE o fun xs h' vs m' H' w rl rh' o' => ?_⟩
  by_cases hl : xs.length = n
  · refine ⟨by rw [rl.length]; exact hl, m', xs, h', rl, rh', ?_⟩
    cases e : φ xs h' with
    | ok d h2 => rw [e] at o'; exact o'
    | exc c h2 => rw [e] at o'; exact o'
    | bad => rw [e] at o'; exact o'
  · rw [ar _ _ hl] at o'; exact o'.elim
/-- a def of the top, as its callers see it: at this level it does φ -/
structure FnAt (P : Program) (w : World) (K : PySem.W.Frag) (mg : Str → Option Value) (base : Heap) (k : Nat) (x : Str) (ps : List Str) (φ : Fm) : Prop where
  ex : ∃ f fd, mg x = some (.ref f) ∧ PySem.W.keepIn K (.ref f) = true ∧ Binds K fd ps [] ∧ FnOk P w K mg base (L2.CX P w) k f fd ps (spM K ps.length φ)
  ar : ∀ xs h, xs.length ≠ ps.length → φ xs h = .bad
section
variable {X : Cx} {g : Cfg} {e : Expr} {es : List Expr} {As : AM} {x : Str} {p pos : Pos} {k : Nat} {ps : List Str} {φ : Fm}
theorem em_call (F : FnAt X.prog X.w X.K X.mg X.base k x ps φ) (hK : X.K = g.K) (hr : Room k X.A) (tk : Takes X g.W) (hg : Gl X x) (ha : PA X (e :: es) (tA g As)) (hdb : (x == ("__debug__" : Str)) = false := by decide) (he : starEach (e :: es) X.env = (false, eval e X.env) :: starEach es X.env := by rfl) (hpl : (backTo pos (starEach es X.env)).any (·.1) = false := by rfl) :
    PE X (.Call (.Name x p) (e :: es) [] pos) (tM g (callM φ As)) := by
  obtain ⟨f, fd, hm, hk, hb, G⟩ := F.ex
  rw [hK] at G
  refine PE.weak (pe_callS (E := WE g.W) (by rw [hK]; exact G) hr hg hm hk hb (passAt tk) ha hdb he hpl) fun σ H Q q => callS_read F.ar q
end
end DV
namespace DV
open PySem PySem.Spec PyProof.Rows L2
mutual
def noloc : D → Bool
  | .loc _ => false
  | .tup ds => nolocL ds
  | .non => true
  | .bl _ => true
  | .int _ => true
  | .str _ => true
  | .ro _ => true
  | .exn _ => true
def nolocL : List D → Bool
  | [] => true
  | d :: ds => noloc d && nolocL ds
end
section
variable {K : PySem.W.Frag}
mutual
theorem RepV.free {m m' : List Addr} {H : Hp} : ∀ {d : D} {v : V}, noloc d = true → RepV K m H d v → RepV K m' H d v
  | .non, _, _, h => h
  | .bl _, _, _, h => h
  | .int _, _, _, h => h
  | .str _, _, _, h => h
  | .ro _, _, _, h => h
  | .exn _, _, _, h => h
  | .tup ds, v, n, h => by
    unfold RepV at h ⊢
    obtain ⟨a, xs, e, ha, hl⟩ := h
    exact ⟨a, xs, e, ha, RepL.free (by unfold noloc at n; exact n) hl⟩
  | .loc l, v, n, h => by unfold noloc at n; cases n
theorem RepL.free {m m' : List Addr} {H : Hp} : ∀ {ds : List D} {xs : List V}, nolocL ds = true → RepL K m H ds xs → RepL K m' H ds xs
  | [], _, _, h => h
  | d :: ds, xs, n, h => by
    unfold RepL at h ⊢
    unfold nolocL at n
    obtain ⟨n1, n2⟩ := Bool.and_eq_true_iff.mp n
    obtain ⟨x, r, e, h1, h2⟩ := h
    exact ⟨x, r, e, RepV.free n1 h1, RepL.free n2 h2⟩
end
mutual
/-- what stood for it by fewer numbers still does -/
theorem RepV.shrink {m0 r : List Addr} {H0 H : Hp} : ∀ {d : D} {v0 v : V}, RepV K m0 H0 d v0 → RepV K (m0 ++ r) H d v → RepV K m0 H d v
  | .non, _, _, _, h => h
  | .bl _, _, _, _, h => h
  | .int _, _, _, _, h => h
  | .str _, _, _, _, h => h
  | .ro _, _, _, _, h => h
  | .exn _, _, _, _, h => h
  | .tup ds, v0, v, n, h => by
    unfold RepV at h n ⊢
    obtain ⟨a0, xs0, _, _, hl0⟩ := n
    obtain ⟨a, xs, e, ha, hl⟩ := h
    exact ⟨a, xs, e, ha, RepL.shrink hl0 hl⟩
  | .loc l, v0, v, n, h => by
    unfold RepV at h n ⊢
    obtain ⟨a0, ha0, _⟩ := n
    obtain ⟨a, ha, e⟩ := h
    obtain ⟨hl, _⟩ := List.getElem?_eq_some_iff.mp ha0
    rw [List.getElem?_append_left hl] at ha
    exact ⟨a, ha, e⟩
theorem RepL.shrink {m0 r : List Addr} {H0 H : Hp} : ∀ {ds : List D} {xs0 xs : List V}, RepL K m0 H0 ds xs0 → RepL K (m0 ++ r) H ds xs → RepL K m0 H ds xs
  | [], _, _, _, h => h
  | d :: ds, xs0, xs, n, h => by
    unfold RepL at h n ⊢
    obtain ⟨x0, r0, _, n1, n2⟩ := n
    obtain ⟨x, r, e, h1, h2⟩ := h
    exact ⟨x, r, e, RepV.shrink n1 h1, RepL.shrink n2 h2⟩
end
theorem RepO.shrink {m0 r : List Addr} {H0 H : Hp} {a a0 : Addr} {o : AO} (n : RepO K m0 H0 a0 o) (h : RepO K (m0 ++ r) H a o) : RepO K m0 H a o := by
  cases o with
  | lst ds => obtain ⟨xs0, _, n⟩ := n; obtain ⟨xs, e, h⟩ := h; exact ⟨xs, e, n.shrink h⟩
  | dct kvs => obtain ⟨xs0, _, _, n⟩ := n; obtain ⟨xs, e, k, h⟩ := h; exact ⟨xs, e, k, n.shrink h⟩
  | fdc kvs => obtain ⟨_, xs0, _, _, n⟩ := n; obtain ⟨ob, xs, e, k, h⟩ := h; exact ⟨ob, xs, e, k, n.shrink h⟩
  | dcT kvs => obtain ⟨xs0, _, _, n⟩ := n; obtain ⟨xs, e, k, h⟩ := h; exact ⟨xs, e, k, n.shrink h⟩
  | ins C fs => obtain ⟨_, xs0, _, _, n⟩ := n; obtain ⟨dx, xs, e, k, h⟩ := h; exact ⟨dx, xs, e, k, n.shrink h⟩
/-- an object without numbers in it -/
def nolocO : AO → Bool
  | .lst ds => nolocL ds
  | .dct kvs => nolocL (kvs.map (·.2))
  | .fdc kvs => nolocL (kvs.map (·.2))
  | .dcT kvs => nolocL (kvs.map (·.2))
  | .ins _ fs => nolocL (fs.map (·.2))
theorem RepO.free {m m' : List Addr} {H : Hp} {a : Addr} {o : AO} (n : nolocO o = true) (h : RepO K m H a o) : RepO K m' H a o := by
  cases o with
  | lst ds => obtain ⟨xs, e, h⟩ := h; exact ⟨xs, e, h.free n⟩
  | dct kvs => obtain ⟨xs, e, k, h⟩ := h; exact ⟨xs, e, k, h.free n⟩
  | fdc kvs => obtain ⟨ob, xs, e, k, h⟩ := h; exact ⟨ob, xs, e, k, h.free n⟩
  | dcT kvs => obtain ⟨xs, e, k, h⟩ := h; exact ⟨xs, e, k, h.free n⟩
  | ins C fs => obtain ⟨dx, xs, e, k, h⟩ := h; exact ⟨dx, xs, e, k, h.free n⟩
theorem Grow.cut {m m' : List Addr} {H H' : Hp} (g : Grow m H m' H') : Grow m H m H' := ⟨⟨[], by simp⟩, g.tup, g.frz, g.ext⟩
/-- back to the old objects, each as it was or without numbers -/
theorem RepH.cut {m m' : List Addr} {H H' : Hp} {h h' : Hs} (r0 : RepH K m H h) (r : RepH K m' H' h') (g : Grow m H m' H') (c : ∀ (i : Nat) (o : AO), i < h.length → h'[i]? = some o → h[i]? = some o ∨ nolocO o = true) : RepH K m H' (h'.take h.length) := by
  obtain ⟨⟨q, rfl⟩, _, _⟩ := g
  have l1 := r.len
  have l0 := r0.len
  rw [List.length_append] at l1
  refine ⟨by rw [List.length_take]; omega, (List.nodup_append.mp r.nd).1, fun i a o hi ho => ?_⟩
  obtain ⟨hl, _⟩ := List.getElem?_eq_some_iff.mp hi
  have hlt : i < h.length := by omega
  rw [List.getElem?_take_of_lt hlt] at ho
  have ro := r.at_ i a o (by rw [List.getElem?_append_left hl]; exact hi) ho
  rcases c i o hlt ho with e | e
  · exact (r0.at_ i a o hi e).shrink ro
  · exact ro.free e
end
open Classical in
/-- nothing is changed, a value without objects comes back -/
noncomputable def nPure (φ : Fm) : Fm := fun xs h => match φ xs h with
  | .ok d h' => if noloc d = true ∧ h'.take h.length = h then .ok d h else .bad
  | .exc c h' => if h'.take h.length = h then .exc c h else .bad
  | .bad => .bad
open Classical in
/-- nothing is changed, a new list or dict comes back, without objects in it -/
noncomputable def nNew (φ : Fm) : Fm := fun xs h => match φ xs h with
  | .ok (.loc l) h' => (match h'[l]? with
    | some o => if h.length ≤ l ∧ h'.take h.length = h ∧ nolocO o = true then .ok (.loc h.length) (h ++ [o]) else .bad
    | none => .bad)
  | .exc c h' => if h'.take h.length = h then .exc c h else .bad
  | _ => .bad
open Classical in
/-- old objects may be changed, but to such without objects in them; a value without objects comes back -/
noncomputable def nEff (φ : Fm) : Fm := fun xs h => match φ xs h with
  | .ok d h' => if noloc d = true ∧ (∀ (i : Nat) (o : AO), i < h.length → h'[i]? = some o → h[i]? = some o ∨ nolocO o = true) then .ok d (h'.take h.length) else .bad
  | .exc c h' => if (∀ (i : Nat) (o : AO), i < h.length → h'[i]? = some o → h[i]? = some o ∨ nolocO o = true) then .exc c (h'.take h.length) else .bad
  | .bad => .bad
section
variable {K : PySem.W.Frag} {m : List Addr} {H : Hp} {Q : VK} {E : XK} {φ : Fm} {xs : List D} {h : Hs}
theorem take_same {h h' : Hs} (e : h'.take h.length = h) : ∀ (i : Nat) (o : AO), i < h.length → h'[i]? = some o → h[i]? = some o ∨ nolocO o = true := fun i o hl ho => .inl (by
  rw [← List.getElem?_take_of_lt hl, e] at ho; exact ho)
theorem nPure_ok (rh : RepH K m H h) (o : OutC K m H Q E (nPure φ xs h)) : OutC K m H Q E (φ xs h) := by
  unfold nPure at o
  cases q : φ xs h with
  | ok d h' =>
    rw [q] at o
    simp only at o
    split at o
    · rename_i c
      intro v m' H' g rv rh'
      have := rh.cut rh' g (take_same c.2)
      rw [c.2] at this
      exact o v m H' g.cut (rv.free c.1) this
    · exact o.elim
  | exc c h' =>
    rw [q] at o
    simp only at o
    split at o
    · rename_i e
      intro m' H' g rh'
      have := rh.cut rh' g (take_same e)
      rw [e] at this
      exact o m H' g.cut this
    · exact o.elim
  | bad => rw [q] at o; exact o
theorem nNew_ok (rh : RepH K m H h) (o : OutC K m H Q E (nNew φ xs h)) : OutC K m H Q E (φ xs h) := by
  unfold nNew at o
  cases q : φ xs h with
  | ok d h' =>
    rw [q] at o
    cases d with
    | loc l =>
      cases e : h'[l]? with
      | none => simp only [e] at o; exact o.elim
      | some ob =>
        simp only [e] at o
        split at o
        · rename_i c
          obtain ⟨c1, c2, c3⟩ := c
          intro v m' H' g rv rh'
          unfold RepV at rv
          obtain ⟨a, ha, rfl⟩ := rv
          have r1 := rh.cut rh' g (take_same c2)
          rw [c2] at r1
          have ro : RepO K (m ++ [a]) H' a ob := (rh'.at_ l a ob ha e).free c3
          have hn : a ∉ m := fun hm => by
            obtain ⟨⟨q, rfl⟩, _, _⟩ := g
            obtain ⟨i, hi⟩ := List.mem_iff_getElem?.mp hm
            obtain ⟨hl, e1⟩ := List.getElem?_eq_some_iff.mp hi
            have hi' : (m ++ q)[i]? = some a := by rw [List.getElem?_append_left hl]; exact hi
            obtain ⟨q1, e1⟩ := List.getElem?_eq_some_iff.mp hi'
            obtain ⟨q2, e2⟩ := List.getElem?_eq_some_iff.mp ha
            have := (List.getElem_inj rh'.nd).mp (e1.trans e2.symm)
            have := rh.len
            omega
          refine o (.ref a) (m ++ [a]) H' ⟨⟨[a], rfl⟩, g.tup, g.frz, g.ext⟩ (by unfold RepV; exact ⟨a, by rw [← rh.len]; simp, rfl⟩) ⟨by simp [rh.len], ?_, fun i b ob' hi hb => ?_⟩
          · exact List.nodup_append.mpr ⟨r1.nd, by simp, fun x hx y hy z => hn (by simp at hy; rw [← hy, ← z]; exact hx)⟩
          · by_cases hl : i < m.length
            · rw [List.getElem?_append_left hl] at hi
              rw [List.getElem?_append_left (by rw [← rh.len]; exact hl)] at hb
              exact (r1.at_ i b ob' hi hb).keep ⟨⟨[a], rfl⟩, fun _ _ z => z, fun _ _ _ z => z, fun _ _ z => z⟩ rfl
            · have hz : i = m.length := by
                obtain ⟨q, _⟩ := List.getElem?_eq_some_iff.mp hi
                simp at q; omega
              subst hz
              simp at hi
              rw [rh.len] at hb
              simp at hb
              subst hi hb
              exact ro
        · exact o.elim
    | _ => exact (show False from o).elim
  | exc c h' =>
    rw [q] at o
    simp only at o
    split at o
    · rename_i e
      intro m' H' g rh'
      have := rh.cut rh' g (take_same e)
      rw [e] at this
      exact o m H' g.cut this
    · exact o.elim
  | bad => rw [q] at o; exact o
theorem nEff_ok (rh : RepH K m H h) (o : OutC K m H Q E (nEff φ xs h)) : OutC K m H Q E (φ xs h) := by
  unfold nEff at o
  cases q : φ xs h with
  | ok d h' =>
    rw [q] at o
    simp only at o
    split at o
    · rename_i c
      intro v m' H' g rv rh'
      exact o v m H' g.cut (rv.free c.1) (rh.cut rh' g c.2)
    · exact o.elim
  | exc c h' =>
    rw [q] at o
    simp only at o
    split at o
    · rename_i e
      intro m' H' g rh'
      exact o m H' g.cut (rh.cut rh' g e)
    · exact o.elim
  | bad => rw [q] at o; exact o
end
/-- a kind of end -/
structure Nrm where
  f : Fm → Fm
  ok : ∀ (K : PySem.W.Frag) (m : List Addr) (H : Hp) (Q : VK) (E : XK) (φ : Fm) (xs : List D) (h : Hs), RepH K m H h → OutC K m H Q E (f φ xs h) → OutC K m H Q E (φ xs h)
  ar : ∀ (φ : Fm) (n : Nat), (∀ xs h, xs.length ≠ n → φ xs h = .bad) → ∀ xs h, xs.length ≠ n → f φ xs h = .bad
noncomputable def kPure : Nrm := ⟨nPure, fun _ _ _ _ _ _ _ _ => nPure_ok, fun φ n a xs h l => by unfold nPure; rw [a xs h l]⟩
noncomputable def kNew : Nrm := ⟨nNew, fun _ _ _ _ _ _ _ _ => nNew_ok, fun φ n a xs h l => by unfold nNew; rw [a xs h l]⟩
noncomputable def kEff : Nrm := ⟨nEff, fun _ _ _ _ _ _ _ _ => nEff_ok, fun φ n a xs h l => by unfold nEff; rw [a xs h l]⟩
def kRaw : Nrm := ⟨fun φ => φ, fun _ _ _ _ _ _ _ _ _ o => o, fun _ _ a => a⟩
def startD (nN : Nat) (xs : List D) : Sl := xs.map some ++ List.replicate (nN - xs.length) none
def runM (np nN : Nat) (M : SM) : Fm := fun xs h => if xs.length = np then (match M (startD nN xs) h with
  | .nx _ h => .ok .non h
  | .rt d h => .ok d h
  | .exc c _ h => .exc c h
  | _ => .bad) else .bad
theorem runM_ar (np nN : Nat) (M : SM) : ∀ xs h, xs.length ≠ np → runM np nN M xs h = .bad := fun xs h l => if_neg l
theorem repS_start {K : PySem.W.Frag} {m : List Addr} {H : Hp} {N : List Str} : ∀ {xs : List D} {vs : List V}, RepL K m H xs vs → RepS K m H (startD N.length xs) (start N vs) := by
  intro xs vs r
  have rep : ∀ n : Nat, RepS K m H (List.replicate n none) (List.replicate n none) := fun n => by
    induction n with
    | zero => exact trivial
    | succ n ih => exact ⟨fun d e => (nomatch e), ih⟩
  have gen : ∀ (n : Nat) (xs : List D) (vs : List V), RepL K m H xs vs → RepS K m H (xs.map some ++ List.replicate n none) (vs.map some ++ List.replicate n none) := by
    intro n xs
    induction xs with
    | nil => intro vs r; unfold RepL at r; subst r; exact rep n
    | cons x xs ih =>
      intro vs r
      unfold RepL at r
      obtain ⟨v, vr, rfl, h1, h2⟩ := r
      exact ⟨fun d e => by cases e; exact ⟨v, rfl, h1⟩, ih vr h2⟩
  unfold startD L2.start
  rw [r.length]
  exact gen _ xs vs r
section
variable {P : Program} {w : World} {K : PySem.W.Frag} {mg : Str → Option Value} {base : Heap} {x qual : Str} {params : Arguments} {body : List Stmt} {scope : Scope} {f : Addr} {fd : FuncData}
theorem def_ok {N ps : List Str} {k : Nat} {M : SM} (kd : Nrm) (F : FunD K x qual params body scope [] [] f fd) (S : FnScope N ps scope)
    (hb : ∀ (cdv : Value) (A : Around) (outer : List Env) (s : Shared) (H : Hp) (E : XK) (W : WX), Room k (A.deeper (envOfC qual scope s.heap.objs.size f cdv)) → Takes (cxOf (L2.CX P w) P w K mg base N qual scope f cdv A outer s H E) W →
      PSs (cxOf (L2.CX P w) P w K mg base N qual scope f cdv A outer s H E) body (tS ⟨K, W⟩ M)) : FnOk P w K mg base (L2.CX P w) (k + 1) f fd ps (spM K ps.length (kd.f (runM ps.length N.length M))) := by
  refine F.ok S (fun vs H Q E h => h.1) fun cdv A outer s H vs Q E hr h => ?_
  obtain ⟨hl, m, ds, hs, rl, rh, o⟩ := h
  have o := kd.ok K m H Q E _ ds hs rh o
  refine ⟨_, hb cdv A outer s H E (fun cls d _ H => E cls d H) hr (takes_of rfl rfl rfl rfl), m, startD N.length ds, hs, repS_start rl, rh, ?_⟩
  unfold runM at o
  rw [if_pos (by rw [← rl.length]; exact hl)] at o
  cases q : M (startD N.length ds) hs with
  | nx ds1 h1 => rw [q] at o; exact fun σ' m' H' g r rh' => o .non m' H' g (by unfold RepV; rfl) rh'
  | rt d h1 => rw [q] at o; exact fun v m' H' g r rh' => o v m' H' g r rh'
  | exc c ds1 h1 => rw [q] at o; exact fun σ' m' H' g r rh' => o m' H' g rh'
  | bk ds1 h1 => rw [q] at o; exact o.elim
  | ct ds1 h1 => rw [q] at o; exact o.elim
  | bad => rw [q] at o; exact o.elim
/-- nothing is told at level 0 -/
theorem fnAt_zero {ps : List Str} (F : FunD K x qual params body scope [] [] f fd) (hm : mg x = some (.ref f)) (hb : Binds K fd ps []) : FnAt P w K mg base 0 x ps fun _ _ => .bad :=
  ⟨⟨f, fd, hm, F.kp, hb, ⟨fun vs H Q E h => h.1, fun A outer s H args us vs Q E _ _ _ _ h => by obtain ⟨_, m, ds, hs, _, _, o⟩ := h; exact o.elim⟩⟩, fun _ _ _ => rfl⟩
end
end DV
namespace DV
open PySem PySem.Spec PyProof.Rows L2
def intF (g : Int → Int → Option D) : VF2
  | .int i, .int j, h => (g i j).map fun d => (d, h)
  | _, _, _ => none
theorem intF_inv {g : Int → Int → Option D} {x y : D} {h : Hs} {p : D × Hs} (e : intF g x y h = some p) : ∃ i j d, x = .int i ∧ y = .int j ∧ g i j = some d ∧ p = (d, h) := by
  unfold intF at e
  split at e
  · rename_i i j
    cases q : g i j with
    | none => rw [q] at e; cases e
    | some d => rw [q] at e; exact ⟨i, j, d, rfl, rfl, q, (Option.some.inj e).symm⟩
  · cases e
def ipF (C : Int → Int → Bool) (g : Int → Int → Int) : VF2 := intF fun i j => if C i j = true then some (.int (g i j)) else none
def cmpF (p : Int → Int → Bool) : VF2 := intF fun i j => some (.bl (p i j))
noncomputable def cMul (i j : Int) : Bool := cB ((-18446744073709551616 < i ∧ i < 18446744073709551616) ∨ (-18446744073709551616 < j ∧ j < 18446744073709551616))
noncomputable def cDiv (_ j : Int) : Bool := cB (0 < j ∧ j < 1073741824)
noncomputable def cMod (_ j : Int) : Bool := cB (0 < j)
noncomputable def cPow (i j : Int) : Bool := cB (0 ≤ j ∧ j ≤ 1000000 ∧ i.natAbs < 18446744073709551616)
def subF : VF2 := ipF (fun _ _ => true) fun i j => i - j
noncomputable def fdivF : VF2 := ipF cDiv fun i j => i / j
noncomputable def modF : VF2 := ipF cMod fun i j => i % j
noncomputable def powF : VF2 := ipF cPow fun i j => i ^ j.toNat
def ltF : VF2 := cmpF fun i j => decide (i < j)
def leF : VF2 := cmpF fun i j => decide (i ≤ j)
def gtF : VF2 := cmpF fun i j => decide (j < i)
def geF : VF2 := cmpF fun i j => decide (j ≤ i)
def negF : D → Hs → Res
  | .int i, h => some (.int (-i), h)
  | _, _ => none
section
variable {X : Cx} {K : PySem.W.Frag} {f : Value → Value → Sem Value}
theorem ip_ok {C : Int → Int → Bool} {P : Int → Int → Prop} {g : Int → Int → Int} (op : OpR X f (rI P fun i j => .int (g i j))) (hc : ∀ i j, C i j = true → P i j) : OpR X f (rV K (ipF C g)) := by
  intro pns s σ H x y v u Q I rx ry h
  obtain ⟨m, hs, dx, dy, r1, r2, rh, o⟩ := h
  cases e : ipF C g dx dy hs with
  | none => rw [e] at o; exact o.elim
  | some p =>
    rw [e] at o
    obtain ⟨i, j, d, rfl, rfl, q, rfl⟩ := intF_inv e
    unfold RepV at r1 r2
    subst r1 r2
    split at q
    · rename_i c
      cases q
      exact op pns s σ H _ _ v u Q I rx ry ⟨i, j, rfl, rfl, hc i j c, o _ m H (.refl _ _) (by unfold RepV; rfl) rh⟩
    · cases q
theorem cmp_ok {p : Int → Int → Bool} (op : OpR X f (rI0 fun i j => .bl (p i j))) : OpR X f (rV K (cmpF p)) := by
  intro pns s σ H x y v u Q I rx ry h
  obtain ⟨m, hs, dx, dy, r1, r2, rh, o⟩ := h
  cases e : cmpF p dx dy hs with
  | none => rw [e] at o; exact o.elim
  | some q =>
    rw [e] at o
    obtain ⟨i, j, d, rfl, rfl, q, rfl⟩ := intF_inv e
    unfold RepV at r1 r2
    subst r1 r2
    cases q
    exact op pns s σ H _ _ v u Q I rx ry ⟨i, j, rfl, rfl, o _ m H (.refl _ _) (by unfold RepV; rfl) rh⟩
theorem o_sub : OpR X (binaryOp .Sub) (rV K subF) := ip_ok (P := fun _ _ => True) (fun pns s σ H x y v u Q I rx ry ⟨i, j, e1, e2, _, q⟩ => op_sub pns s σ H x y v u Q I rx ry ⟨i, j, e1, e2, q⟩) fun _ _ _ => trivial
theorem o_fdiv : OpR X (binaryOp .FloorDiv) (rV K fdivF) := ip_ok op_fdiv fun i j h => cB_iff.mp h
theorem o_mod : OpR X (binaryOp .Mod) (rV K modF) := ip_ok op_mod fun i j h => cB_iff.mp h
theorem o_pow : OpR X (binaryOp .Pow) (rV K powF) := ip_ok op_pow fun i j h => cB_iff.mp h
theorem o_lt : OpR X (compareOp .Lt) (rV K ltF) := cmp_ok op_lt
theorem o_le : OpR X (compareOp .LtE) (rV K leF) := cmp_ok op_le
theorem o_gt : OpR X (compareOp .Gt) (rV K gtF) := cmp_ok op_gt
theorem o_ge : OpR X (compareOp .GtE) (rV K geF) := cmp_ok op_ge
end
theorem em_neg {X : Cx} {g : Cfg} {a : Expr} {A : EM} {pos : Pos} (ha : PE X a (tM g A)) : PE X (.UnaryOp .USub a pos) (tM g (unM negF A)) := by
  refine PE.weak (pe_un un_neg ha) fun σ H Q ⟨m, ds, h, hs, rh, o⟩ => ⟨m, ds, h, hs, rh, OutE.toE o fun d h1 v m1 H1 g1 r1 rh1 o1 => ?_⟩
  cases d with
  | int i => unfold RepV at r1; exact ⟨i, r1, o1 _ m1 H1 (.refl _ _) (by unfold RepV; rfl) rh1⟩
  | _ => exact (show False from o1).elim
def addF : VF2
  | .int i, .int j, h => some (.int (i + j), h)
  | .str a, .str b, h => if a.length + b.length ≤ LIM then some (.str (a ++ b), h) else none
  | .tup xs, .tup ys, h => if xs.length + ys.length ≤ LIM then some (.tup (xs ++ ys), h) else none
  | .loc a, .loc b, h => match h[a]?, h[b]? with
    | some (.lst xs), some (.lst ys) => if xs.length + ys.length ≤ LIM then some (.loc h.length, h ++ [.lst (xs ++ ys)]) else none
    | _, _ => none
  | .ro ns, .loc b, h => match h[b]? with
    | some (.lst ys) => if ns.length + ys.length ≤ LIM then some (.loc h.length, h ++ [.lst (ns.map D.int ++ ys)]) else none
    | _ => none
  | _, _, _ => none
section
variable {X : Cx} {K : PySem.W.Frag}
/-- list + list, read at any list -/
theorem op_catL : OpR X (binaryOp .Add) (fun x y H Q => ∃ l b xs zs, x = .ref l ∧ y = .ref b ∧ SqL X.K H l xs ∧ SqL X.K H b zs ∧ xs.length + zs.length ≤ sizeLine ∧ ∀ p, H p = none → Q (.ref p) (upd H p (.lst (xs ++ zs)))) := by
  intro pns s σ H x y v u Q I rx ry h
  obtain ⟨l, b, xs, zs, rfl, rfl, hH, hB, hz, q⟩ := h
  cases rx
  cases ry
  obtain ⟨its, r, pl, z⟩ := I.list hH
  obtain ⟨its2, r2, pl2, z2⟩ := I.list hB
  have hl := r.length
  have hl2 := r2.length
  obtain ⟨⟨cls, dd, data, sl⟩, ho, hc, n, hd⟩ := pl.isList
  obtain ⟨⟨cls2, dd2, data2, sl2⟩, ho2, hc2, n2, hd2⟩ := pl2.isList
  simp only at hc hd hc2 hd2
  subst hc hd hc2 hd2
  have e : its.toArray ++ its2.toArray = (its ++ its2).toArray := by simp
  refine concat_meets ⟨_, ho, rfl⟩ ⟨_, ho2, rfl⟩ noFill_list_add seq_list_add PySem.F.slot_list_add PySem.F.entry_list_add (PySem.F.args_list_add_2 _ _) (list_addW l b its.toArray its2.toArray n n2 dd dd2 sl sl2 (by simp only [List.size_toArray]; omega)) ⟨ho, ho2, ?_⟩
  rw [e]
  exact ⟨.ref _, _, I.lnew (t' := s.toks) (r.append r2) (by rw [List.length_append]; omega), rfl, q _ I.fresh⟩
theorem repL_ints {m : List Addr} {H : Hp} : ∀ ns : List Int, RepL K m H (ns.map D.int) (ns.map V.int)
  | [] => RepL.nil
  | n :: ns => .cons (by unfold RepV; rfl) (repL_ints ns)
/-- a list told, at its number -/
theorem new_lst' {m : List Addr} {H : Hp} {h : Hs} {xs : List D} {vs : List V} {p : Addr} {Q : VK} (rl : RepL K m H xs vs) (rh : RepH K m H h) (hp : H p = none) (o : OutV K m H Q (some (.loc h.length, h ++ [.lst xs]))) : Q (.ref p) (upd H p (.lst vs)) :=
  let ⟨q1, q2⟩ := new_lst (g := ⟨K, fun _ _ _ _ => False⟩) rl rh hp
  o _ _ _ (.app hp) q1 q2
theorem LIM_eq : sizeLine = LIM := sizeLine_eq
theorem o_add : OpR X (binaryOp .Add) (rV X.K addF) := by
  intro pns s σ H x y v u Q I rx ry h
  obtain ⟨m, hs, dx, dy, r1, r2, rh, o⟩ := h
  unfold addF at o
  split at o
  · unfold RepV at r1 r2
    subst r1 r2
    exact op_add pns s σ H _ _ v u Q I rx ry ⟨_, _, rfl, rfl, o _ m H (.refl _ _) (by unfold RepV; rfl) rh⟩
  · unfold RepV at r1 r2
    subst r1 r2
    split at o
    · rename_i hz
      exact op_add_str pns s σ H _ _ v u Q I rx ry ⟨_, _, rfl, rfl, by rw [LIM_eq]; exact hz, o _ m H (.refl _ _) (by unfold RepV; rfl) rh⟩
    · exact o.elim
  · unfold RepV at r1 r2
    obtain ⟨a, vs, rfl, ha, rl⟩ := r1
    obtain ⟨b, ws, rfl, hb, rl2⟩ := r2
    split at o
    · rename_i hz
      refine op_catA pns s σ H _ _ v u Q I rx ry ⟨a, b, vs, ws, rfl, rfl, SqT.of ha, SqT.of hb, by rw [LIM_eq, rl.length, rl2.length]; exact hz, fun e => ?_, fun e1 e => ?_, fun _ _ p hp => ?_⟩
      · have := rl.nil_iff.mp e
        subst this
        exact o _ m H (.refl _ _) (by unfold RepV; exact ⟨b, ws, rfl, hb, rl2⟩) rh
      · have := rl2.nil_iff.mp e
        subst this
        refine o _ m H (.refl _ _) ?_ rh
        show RepV X.K m H (.tup (_ ++ [])) _
        rw [List.append_nil]
        unfold RepV
        exact ⟨a, vs, rfl, ha, rl⟩
      · exact o _ m _ (.put hp) (by unfold RepV; exact ⟨p, _, rfl, upd_same, (rl.append rl2).mono (.put hp)⟩) (rh.put hp)
    · exact o.elim
  · unfold RepV at r1 r2
    obtain ⟨a, ha, rfl⟩ := r1
    obtain ⟨b, hb, rfl⟩ := r2
    split at o
    · rename_i xs ys e1 e2
      obtain ⟨vs, hv, rl⟩ := rh.lst ha e1
      obtain ⟨ws, hw, rl2⟩ := rh.lst hb e2
      split at o
      · rename_i hz
        exact op_catL pns s σ H _ _ v u Q I rx ry ⟨a, b, vs, ws, rfl, rfl, SqL.of hv, SqL.of hw, by rw [LIM_eq, rl.length, rl2.length]; exact hz, fun p hp => new_lst' (rl.append rl2) rh hp o⟩
      · exact o.elim
    · exact o.elim
  · unfold RepV at r1 r2
    obtain ⟨a, rfl, ha⟩ := r1
    obtain ⟨b, hb, rfl⟩ := r2
    split at o
    · rename_i ys e2
      obtain ⟨ws, hw, rl2⟩ := rh.lst hb e2
      split at o
      · rename_i hz
        exact op_catL pns s σ H _ _ v u Q I rx ry ⟨a, b, _, ws, rfl, rfl, ha.sq, SqL.of hw, by rw [LIM_eq, List.length_map, rl2.length]; exact hz, fun p hp => new_lst' ((repL_ints _).append rl2) rh hp o⟩
      · exact o.elim
    · exact o.elim
  · exact o.elim
/-- a text n times -/
def repS (z : Str) (n : Nat) : Str := ⟨((List.replicate n z.cps.toList).flatten).toArray⟩
theorem rep_fold (l : List Nat) : ∀ (k : Nat) (acc : List Nat), (List.replicate k l.toArray).foldl (fun p q => p ++ q) acc.toArray = (acc ++ (List.replicate k l).flatten).toArray
  | 0, acc => by simp
  | k + 1, acc => by
    have ih := rep_fold l k (acc ++ l)
    have e : acc.toArray ++ l.toArray = (acc ++ l).toArray := by simp
    rw [List.replicate_succ, List.foldl_cons, e, ih, List.replicate_succ, List.flatten_cons, List.append_assoc]
theorem rep_len (l : List Nat) (k : Nat) : (List.replicate k l).flatten.length = l.length * k := by
  induction k with
  | zero => simp
  | succ k ih => rw [List.replicate_succ, List.flatten_cons, List.length_append, ih, Nat.mul_succ, Nat.add_comm]
noncomputable def mulF : VF2
  | .int i, .int j, h => if cMul i j = true then some (.int (i * j), h) else none
  | .str z, .int j, h => if cB (-1000000 ≤ j ∧ j ≤ 1000000 ∧ z.length ≤ 1000000 ∧ z.length * j.toNat ≤ LIM) = true then some (.str (repS z j.toNat), h) else none
  | _, _, _ => none
theorem mul_strD {A : Around} {E : Value → Shared → Prop} {P : Program} {w : World} {s : Shared} {z : Str} {j : Int} {t u : Tok} {Q : Value → Shared → Prop} (c1 : -1000000 ≤ j) (c2 : j ≤ 1000000) (c3 : z.length ≤ 1000000) (c4 : z.length * j.toNat ≤ LIM)
    (q : ∀ t' tk, Q (.str (repS z j.toNat) t') { s with toks := tk }) : wpAny (model P w) A (binaryOp .Mult (.str z t) (.int j u)) Q E s := by
  have hz : z.length = z.cps.toList.length := by rw [Array.length_toList]; rfl
  refine PySem.P.mul_str (by rw [decide_eq_false (by omega), decide_eq_false (by omega)]; rfl) (fun h1 h2 h3 => ?_) (fun h1 h2 => ?_) ?_
  · have h5 : (1000000 : Int) ≤ (2 ^ 63 - 1) / j := (Int.le_ediv_iff_mul_le (by omega)).mpr (by omega)
    omega
  · show decide (_ > sizeLine) = false
    rw [LIM_eq]
    exact decide_eq_false (by omega)
  · have e1 : sizeLine = LIM := LIM_eq
    by_cases h1 : j < 1
    · rw [if_pos h1]
      have : j.toNat = 0 := by omega
      rw [this] at q
      exact ⟨by rw [e1]; decide, q _ _⟩
    · rw [if_neg h1]
      by_cases h2 : (j == 1 || z.length == 0) = true
      · rw [if_pos h2]
        have er : repS z j.toNat = z := by
          rcases Bool.or_eq_true_iff.mp h2 with h | h
          · have : j = 1 := eq_of_beq h
            subst this
            show (⟨((List.replicate 1 z.cps.toList).flatten).toArray⟩ : Str) = z
            simp
          · have h : z.length = 0 := eq_of_beq h
            have hl : z.cps.toList = [] := List.eq_nil_of_length_eq_zero (by omega)
            have hn : z.cps = #[] := Array.toList_inj.mp hl
            cases z with
            | mk cps => subst hn; unfold repS; simp
        have := q t s.toks
        rw [er] at this
        exact this
      · rw [if_neg h2]
        have ef : (List.replicate j.toNat z.cps).foldl (fun p q => p ++ q) #[] = ((List.replicate j.toNat z.cps.toList).flatten).toArray := by
          have := rep_fold z.cps.toList j.toNat []
          simpa using this
        refine ⟨?_, ?_⟩
        · rw [e1]
          show Array.size _ ≤ LIM
          rw [ef, List.size_toArray, rep_len, ← hz]
          exact c4
        · have := q s.toks (s.toks + 1)
          unfold repS at this
          rw [← ef] at this
          exact this
theorem o_mul : OpR X (binaryOp .Mult) (rV K mulF) := by
  intro pns s σ H x y v u Q I rx ry h
  obtain ⟨m, hs, dx, dy, r1, r2, rh, o⟩ := h
  unfold mulF at o
  split at o
  · unfold RepV at r1 r2
    subst r1 r2
    split at o
    · rename_i c
      refine op_mul pns s σ H _ _ v u Q I rx ry ⟨_, _, rfl, rfl, ?_, o _ m H (.refl _ _) (by unfold RepV; rfl) rh⟩
      exact cB_iff.mp c
    · exact o.elim
  · unfold RepV at r1 r2
    subst r1 r2
    split at o
    · rename_i c
      have c := cB_iff.mp c
      obtain ⟨t, rfl⟩ := rx
      obtain ⟨t', rfl⟩ := ry
      exact mul_strD c.1 c.2.1 c.2.2.1 c.2.2.2 fun t' tk => ⟨.str _, H, I.tok _, ⟨_, rfl⟩, o _ m H (.refl _ _) (by unfold RepV; rfl) rh⟩
    · exact o.elim
  · exact o.elim
end
mutual
/-- texts, numbers, None, and tuples of them -/
def pyOk : D → Bool
  | .non => true
  | .int _ => true
  | .str s => PyData.strOk s
  | .tup ds => pyOkL ds
  | .bl _ => false
  | .loc _ => false
  | .ro _ => false
  | .exn _ => false
def pyOkL : List D → Bool
  | [] => true
  | d :: ds => pyOk d && pyOkL ds
end
mutual
def depD : D → Nat
  | .tup ds => depL ds + 1
  | .non => 0
  | .int _ => 0
  | .str _ => 0
  | .bl _ => 0
  | .loc _ => 0
  | .ro _ => 0
  | .exn _ => 0
def depL : List D → Nat
  | [] => 0
  | d :: ds => max (depD d) (depL ds)
end
mutual
def toPy : D → PyData
  | .non => .none
  | .int i => .int i
  | .str s => .str s
  | .tup ds => .tuple (toPyL ds)
  | .bl b => .bool b
  | .loc _ => .none
  | .ro _ => .none
  | .exn _ => .none
def toPyL : List D → List PyData
  | [] => []
  | d :: ds => toPy d :: toPyL ds
end
mutual
theorem canLay_of : ∀ {d : D}, pyOk d = true → (toPy d).canLay0 = true
  | .non, _ => rfl
  | .int _, _ => rfl
  | .str s, k => by unfold pyOk at k; exact k
  | .tup ds, k => by unfold pyOk at k; exact canLay_ofL k
  | .bl _, _ => rfl
  | .loc _, _ => rfl
  | .ro _, _ => rfl
  | .exn _, _ => rfl
theorem canLay_ofL : ∀ {ds : List D}, pyOkL ds = true → PyData.canLayAll0 (toPyL ds) = true
  | [], _ => rfl
  | d :: ds, k => by
    unfold pyOkL at k
    obtain ⟨k1, k2⟩ := Bool.and_eq_true_iff.mp k
    show ((toPy d).canLay0 && PyData.canLayAll0 (toPyL ds)) = true
    rw [canLay_of k1, canLay_ofL k2]; rfl
end
mutual
theorem dep_toPy : ∀ d : D, (toPy d).depth = depD d
  | .non => rfl
  | .int _ => rfl
  | .str _ => rfl
  | .tup ds => by
    show PyData.depthAll (toPyL ds) + 1 = depL ds + 1
    rw [dep_toPyL ds]
  | .bl _ => rfl
  | .loc _ => rfl
  | .ro _ => rfl
  | .exn _ => rfl
theorem dep_toPyL : ∀ ds : List D, PyData.depthAll (toPyL ds) = depL ds
  | [] => rfl
  | d :: ds => by
    show max (toPy d).depth (PyData.depthAll (toPyL ds)) = max (depD d) (depL ds)
    rw [dep_toPy d, dep_toPyL ds]
end
mutual
theorem eqv_iff : ∀ {d e : D}, pyOk d = true → pyOk e = true → (PyData.eqv (toPy d) (toPy e) = true ↔ d = e)
  | .non, .non, _, _ => by simp [toPy, PyData.eqv]
  | .int i, .int j, _, _ => by simp [toPy, PyData.eqv]
  | .str i, .str j, _, _ => by simp [toPy, PyData.eqv]
  | .tup ds, .tup es, k1, k2 => by
    unfold pyOk at k1 k2
    have := eqv_iffL k1 k2
    simp only [toPy, PyData.eqv, D.tup.injEq]
    exact this
  | .non, .int _, _, _ => by simp [toPy, PyData.eqv]
  | .non, .str _, _, _ => by simp [toPy, PyData.eqv]
  | .non, .tup _, _, _ => by simp [toPy, PyData.eqv]
  | .int _, .non, _, _ => by simp [toPy, PyData.eqv]
  | .int _, .str _, _, _ => by simp [toPy, PyData.eqv]
  | .int _, .tup _, _, _ => by simp [toPy, PyData.eqv]
  | .str _, .non, _, _ => by simp [toPy, PyData.eqv]
  | .str _, .int _, _, _ => by simp [toPy, PyData.eqv]
  | .str _, .tup _, _, _ => by simp [toPy, PyData.eqv]
  | .tup _, .non, _, _ => by simp [toPy, PyData.eqv]
  | .tup _, .int _, _, _ => by simp [toPy, PyData.eqv]
  | .tup _, .str _, _, _ => by simp [toPy, PyData.eqv]
  | .bl _, _, k, _ => by unfold pyOk at k; cases k
  | .loc _, _, k, _ => by unfold pyOk at k; cases k
  | .ro _, _, k, _ => by unfold pyOk at k; cases k
  | .exn _, _, k, _ => by unfold pyOk at k; cases k
  | _, .bl _, _, k => by unfold pyOk at k; cases k
  | _, .loc _, _, k => by unfold pyOk at k; cases k
  | _, .ro _, _, k => by unfold pyOk at k; cases k
  | _, .exn _, _, k => by unfold pyOk at k; cases k
theorem eqv_iffL : ∀ {ds es : List D}, pyOkL ds = true → pyOkL es = true → (PyData.eqvAll (toPyL ds) (toPyL es) = true ↔ ds = es)
  | [], [], _, _ => by simp [toPyL, PyData.eqvAll]
  | [], _ :: _, _, _ => by simp [toPyL, PyData.eqvAll]
  | _ :: _, [], _, _ => by simp [toPyL, PyData.eqvAll]
  | d :: ds, e :: es, k1, k2 => by
    unfold pyOkL at k1 k2
    obtain ⟨a1, a2⟩ := Bool.and_eq_true_iff.mp k1
    obtain ⟨b1, b2⟩ := Bool.and_eq_true_iff.mp k2
    show (PyData.eqv (toPy d) (toPy e) && PyData.eqvAll (toPyL ds) (toPyL es)) = true ↔ _
    rw [Bool.and_eq_true_iff, eqv_iff a1 b1, eqv_iffL a2 b2, List.cons.injEq]
end
mutual
def pyW (φ : Nat → Option PyData) : D → Option PyData
  | .non => some .none
  | .bl b => some (.bool b)
  | .int i => some (.int i)
  | .str s => some (.str s)
  | .tup ds => (pyWL φ ds).map .tuple
  | .loc l => φ l
  | .ro ns => some (.list (ns.map .int))
  | .exn _ => none
def pyWL (φ : Nat → Option PyData) : List D → Option (List PyData)
  | [] => some []
  | d :: ds => (pyW φ d).bind fun p => (pyWL φ ds).map fun ps => p :: ps
end
def pyLoc : Nat → Hs → Nat → Option PyData
  | 0, _, _ => none
  | n + 1, h, l => match h[l]? with
    | some (.lst ds) => (pyWL (pyLoc n h) ds).map .list
    | _ => none
def pyH (h : Hs) (d : D) : Option PyData := pyW (pyLoc 4 h) d
section
variable {K : PySem.W.Frag} {m : List Addr} {H : Hp}
theorem dp_ints : ∀ ns : List Int, DpAll K H (ns.map V.int) (ns.map .int)
  | [] => .nil
  | n :: ns => .cons (.int n) (dp_ints ns)
mutual
theorem pyW_dp {φ : Nat → Option PyData} (hφ : ∀ l p v, φ l = some p → RepV K m H (.loc l) v → Dp K H v p) : ∀ {d : D} {v : V} {p : PyData}, pyW φ d = some p → RepV K m H d v → Dp K H v p
  | .non, _, _, e, r => by unfold RepV at r; subst r; cases e; exact .non
  | .bl b, _, _, e, r => by unfold RepV at r; subst r; cases e; exact .bl b
  | .int i, _, _, e, r => by unfold RepV at r; subst r; cases e; exact .int i
  | .str s, _, _, e, r => by unfold RepV at r; subst r; cases e; exact .str s
  | .tup ds, _, _, e, r => by
    unfold RepV at r
    obtain ⟨a, xs, rfl, ha, rl⟩ := r
    unfold pyW at e
    cases q : pyWL φ ds with
    | none => rw [q] at e; cases e
    | some ps => rw [q] at e; cases e; exact .tup (SqT.of ha) (pyWL_dp hφ q rl)
  | .loc l, _, _, e, r => hφ _ _ _ (by unfold pyW at e; exact e) r
  | .ro ns, _, _, e, r => by
    unfold RepV at r
    obtain ⟨a, rfl, q⟩ := r
    cases e
    exact .lst q.sq (dp_ints ns)
  | .exn _, _, _, e, _ => by cases e
theorem pyWL_dp {φ : Nat → Option PyData} (hφ : ∀ l p v, φ l = some p → RepV K m H (.loc l) v → Dp K H v p) : ∀ {ds : List D} {vs : List V} {ps : List PyData}, pyWL φ ds = some ps → RepL K m H ds vs → DpAll K H vs ps
  | [], _, _, e, r => by unfold RepL at r; subst r; cases e; exact .nil
  | d :: ds, _, _, e, r => by
    unfold RepL at r
    obtain ⟨x, xs, rfl, r1, r2⟩ := r
    unfold pyWL at e
    cases q1 : pyW φ d with
    | none => rw [q1] at e; cases e
    | some p =>
      cases q2 : pyWL φ ds with
      | none => rw [q1, q2] at e; cases e
      | some ps => rw [q1, q2] at e; cases e; exact .cons (pyW_dp hφ q1 r1) (pyWL_dp hφ q2 r2)
end
theorem pyLoc_dp {h : Hs} (rh : RepH K m H h) : ∀ (n l : Nat) (p : PyData) (v : V), pyLoc n h l = some p → RepV K m H (.loc l) v → Dp K H v p
  | 0, _, _, _, e, _ => by cases e
  | n + 1, l, p, v, e, r => by
    unfold RepV at r
    obtain ⟨a, ha, rfl⟩ := r
    unfold pyLoc at e
    cases q : h[l]? with
    | none => rw [q] at e; cases e
    | some o =>
      rw [q] at e
      cases o with
      | lst ds =>
        simp only at e
        obtain ⟨vs, hv, rl⟩ := rh.lst ha q
        cases q2 : pyWL (pyLoc n h) ds with
        | none => rw [q2] at e; cases e
        | some ps => rw [q2] at e; cases e; exact .lst (SqL.of hv) (pyWL_dp (fun l p v => pyLoc_dp rh n l p v) q2 rl)
      | _ => cases e
theorem pyH_dp {h : Hs} (rh : RepH K m H h) {d : D} {v : V} {p : PyData} (e : pyH h d = some p) (r : RepV K m H d v) : Dp K H v p := pyW_dp (fun l p v => pyLoc_dp rh 4 l p v) e r
end
mutual
theorem pyW_of (φ : Nat → Option PyData) : ∀ {d : D}, pyOk d = true → pyW φ d = some (toPy d)
  | .non, _ => rfl
  | .int _, _ => rfl
  | .str _, _ => rfl
  | .tup ds, k => by
    unfold pyOk at k
    unfold pyW toPy
    rw [pyWL_of φ k]; rfl
  | .bl _, _ => rfl
  | .loc _, k => by unfold pyOk at k; cases k
  | .ro _, k => by unfold pyOk at k; cases k
  | .exn _, k => by unfold pyOk at k; cases k
theorem pyWL_of (φ : Nat → Option PyData) : ∀ {ds : List D}, pyOkL ds = true → pyWL φ ds = some (toPyL ds)
  | [], _ => rfl
  | d :: ds, k => by
    unfold pyOkL at k
    obtain ⟨a, b⟩ := Bool.and_eq_true_iff.mp k
    unfold pyWL toPyL
    rw [pyW_of φ a, pyWL_of φ b]; rfl
end
/-- two lists of different lengths -/
def lenNe (d e : D) (h : Hs) : Bool := match d, e with
  | .loc a, .loc b => (match h[a]?, h[b]? with
    | some (.lst xs), some (.lst ys) => decide (xs.length ≠ ys.length)
    | _, _ => false)
  | _, _ => false
/-- d == e, where it is told -/
noncomputable def eqB (d e : D) (h : Hs) : Option Bool := if lenNe d e h = true then some false else match pyH h d, pyH h e with
  | some p, some q => if p.canLay0 = true ∧ q.canLay0 = true ∧ p.depth ≤ 190 then some (PyData.eqv p q) else none
  | _, _ => none
noncomputable def eqF : VF2 := fun d e h => (eqB d e h).map fun b => (.bl b, h)
noncomputable def neF : VF2 := fun d e h => (eqB d e h).map fun b => (.bl (!b), h)
section
variable {X : Cx}
theorem decide_iff {p : Prop} {b : Bool} (h : b = true ↔ p) : b = @decide p (Classical.propDecidable p) := by
  letI := Classical.propDecidable p
  by_cases hp : p
  · rw [decide_eq_true hp, h.mpr hp]
  · rw [decide_eq_false hp]
    cases b with
    | true => exact absurd (h.mp rfl) hp
    | false => rfl
/-- both comparisons at once -/
theorem eq_core {pns : List (Addr × Obj)} {s : Shared} {σ : St} {H : Hp} {x y : V} {v u : Value} {m : List Addr} {hs : Hs} {dx dy : D} {b : Bool} (hu : X.A.units + 195 < cLine) (I : Inv X pns σ H s) (rx : RelV x v) (ry : RelV y u) (r1 : RepV X.K m H dx x) (r2 : RepV X.K m H dy y)
    (rh : RepH X.K m H hs) (e : eqB dx dy hs = some b) {Q : Value → Shared → Prop} {Q' : Value → Shared → Prop} {E : Value → Shared → Prop} (q : Q (.bool b) s) (q' : Q' (.bool (!b)) s) :
    wpAny (model X.prog X.w) X.A (compareOp .Eq v u) Q E s ∧ wpAny (model X.prog X.w) X.A (compareOp .NotEq v u) Q' E s := by
  unfold eqB at e
  split at e
  · rename_i c
    cases e
    unfold lenNe at c
    split at c
    · rename_i i j
      unfold RepV at r1 r2
      obtain ⟨a, ha, rfl⟩ := r1
      obtain ⟨c2, hc, rfl⟩ := r2
      split at c
      · rename_i xs ys e1 e2
        have hne := of_decide_eq_true c
        obtain ⟨vs, hv, rl⟩ := rh.lst ha e1
        obtain ⟨ws, hw, rl2⟩ := rh.lst hc e2
        cases rx; cases ry
        obtain ⟨its, r, pl, z⟩ := I.list (SqL.of hv)
        obtain ⟨its2, r2, pl2, z2⟩ := I.list (SqL.of hw)
        have hsz : (its.toArray.size != its2.toArray.size) = true := by
          have l1 := rl.length
          have l2 := rl2.length
          have l3 := r.length
          have l4 := r2.length
          simp only [List.size_toArray, bne_iff_ne, ne_eq]
          omega
        exact ⟨SeqAt.eq_list_lengthsAt pl.isList pl2.isList hsz (by omega) q, SeqAt.RcNeAt.lists_lengths pl.isList pl2.isList hsz (by omega) _ _ _ _ q'⟩
      · cases c
    · cases c
  · split at e
    · rename_i p p' e1 e2
      split at e
      · rename_i c
        obtain ⟨c1, c2, c3⟩ := c
        obtain ⟨as, q1⟩ := Dp.reads I _ x v (pyH_dp rh e1 r1) rx
        obtain ⟨bs, q2⟩ := Dp.reads I _ y u (pyH_dp rh e2 r2) ry
        have room : X.A.units + min p.depth p'.depth < cLine := by
          have : min p.depth p'.depth ≤ p.depth := Nat.min_le_left _ _
          omega
        have e3 : PyData.eqv p p' = b := Option.some.inj e
        exact ⟨SeqAt.compareEq_reads q1 q2 c1 c2 room (by rw [e3]; exact q), SeqAt.compareNe_reads q1 q2 c1 c2 room (by rw [e3]; exact q')⟩
      · cases e
    · cases e
theorem o_eq (hu : X.A.units + 195 < cLine) : OpR X (compareOp .Eq) (rV X.K eqF) := by
  intro pns s σ H x y v u Q I rx ry h
  obtain ⟨m, hs, dx, dy, r1, r2, rh, o⟩ := h
  unfold eqF at o
  cases e : eqB dx dy hs with
  | none => rw [e] at o; exact o.elim
  | some b =>
    rw [e] at o
    exact (eq_core (E := X.xe) (Q' := fun _ _ => True) hu I rx ry r1 r2 rh e ⟨.bl b, H, I, rfl, o _ m H (.refl _ _) (by unfold RepV; rfl) rh⟩ trivial).1
theorem o_ne (hu : X.A.units + 195 < cLine) : OpR X (compareOp .NotEq) (rV X.K neF) := by
  intro pns s σ H x y v u Q I rx ry h
  obtain ⟨m, hs, dx, dy, r1, r2, rh, o⟩ := h
  unfold neF at o
  cases e : eqB dx dy hs with
  | none => rw [e] at o; exact o.elim
  | some b =>
    rw [e] at o
    exact (eq_core (E := X.xe) (Q := fun _ _ => True) hu I rx ry r1 r2 rh e trivial ⟨.bl (!b), H, I, rfl, o _ m H (.refl _ _) (by unfold RepV; rfl) rh⟩).2
end
open Classical in
theorem eqB_of {d e : D} {h : Hs} (a : pyOk d = true) (b : pyOk e = true) (z : depD d ≤ 190) : eqB d e h = some (decide (d = e)) := by
  have n : lenNe d e h = false := by
    unfold lenNe
    split
    · unfold pyOk at a; cases a
    · rfl
  have e1 : pyH h d = some (toPy d) := pyW_of _ a
  have e2 : pyH h e = some (toPy e) := pyW_of _ b
  unfold eqB
  rw [n, if_neg Bool.false_ne_true, e1, e2]
  simp only
  rw [if_pos ⟨canLay_of a, canLay_of b, by rw [dep_toPy]; exact z⟩, decide_iff (eqv_iff a b)]
open Classical in
theorem eqB_lst {i j : Nat} {xs ys : List D} {h : Hs} (ei : h[i]? = some (.lst xs)) (ej : h[j]? = some (.lst ys)) (a : pyOkL xs = true) (b : pyOkL ys = true) (z : depL xs ≤ 189) : eqB (.loc i) (.loc j) h = some (decide (xs = ys)) := by
  unfold eqB lenNe
  simp only [ei, ej]
  split
  · rename_i c
    have c := of_decide_eq_true c
    rw [decide_eq_false fun e => c (by rw [e])]
  · have e1 : pyH h (.loc i) = some (.list (toPyL xs)) := by
      unfold pyH pyW pyLoc
      simp only [ei, pyWL_of _ a]; rfl
    have e2 : pyH h (.loc j) = some (.list (toPyL ys)) := by
      unfold pyH pyW pyLoc
      simp only [ej, pyWL_of _ b]; rfl
    rw [e1, e2]
    simp only
    have d1 : (PyData.list (toPyL xs)).depth = depL xs + 1 := by
      show PyData.depthAll (toPyL xs) + 1 = _
      rw [dep_toPyL]
    rw [if_pos ⟨canLay_ofL a, canLay_ofL b, by rw [d1]; omega⟩]
    congr 1
    show PyData.eqvAll (toPyL xs) (toPyL ys) = _
    rw [decide_iff (eqv_iffL a b)]
    congr
theorem eqB_len {i j : Nat} {xs ys : List D} {h : Hs} (ei : h[i]? = some (.lst xs)) (ej : h[j]? = some (.lst ys)) (c : xs.length ≠ ys.length) : eqB (.loc i) (.loc j) h = some false := by
  unfold eqB lenNe
  simp only [ei, ej]
  rw [if_pos (decide_eq_true c)]
end DV
namespace DV
open PySem PySem.Spec PyProof.Rows L2
section
variable {K : PySem.W.Frag} {m : List Addr} {H : Hp}
theorem RepL.at_ {ds : List D} {vs : List V} {i : Int} {d : D} (r : RepL K m H ds vs) (e : atI ds i = some d) : ∃ v, atI vs i = some v ∧ RepV K m H d v := by
  unfold atI at e ⊢
  rw [r.length]
  cases q : ixN ds.length i with
  | none => rw [q] at e; cases e
  | some j =>
    rw [q] at e
    obtain ⟨v, hv, rv⟩ := r.get e
    exact ⟨v, hv, rv⟩
end
def valD {κ : Type} [DecidableEq κ] (kvs : List (κ × D)) (k : κ) : Option D := (kvs.find? fun p => decide (p.1 = k)).map (·.2)
def putD {κ : Type} [DecidableEq κ] (kvs : List (κ × D)) (k : κ) (v : D) : List (κ × D) := if (kvs.any fun p => decide (p.1 = k)) = true then kvs.map (fun p => if p.1 = k then (p.1, v) else p) else kvs ++ [(k, v)]
theorem kV_keyD {K : PySem.W.Frag} {m : List Addr} {H : Hp} {d : D} {v : V} {k : Key} (r : RepV K m H d v) (e : keyD d = some k) : v = kV k := by
  cases d with
  | int i => cases e; unfold RepV at r; exact r
  | str i => cases e; unfold RepV at r; exact r
  | _ => cases e
def keysD : List D → Option (List Key)
  | [] => some []
  | d :: ds => (keyD d).bind fun k => (keysD ds).map fun ks => k :: ks
theorem kV_keysD {K : PySem.W.Frag} {m : List Addr} {H : Hp} : ∀ {ds : List D} {vs : List V} {ks : List Key}, RepL K m H ds vs → keysD ds = some ks → vs = ks.map kV
  | [], vs, ks, r, e => by cases e; unfold RepL at r; exact r
  | d :: ds, vs, ks, r, e => by
    unfold RepL at r
    obtain ⟨x, xs, rfl, h1, h2⟩ := r
    unfold keysD at e
    cases q : keyD d with
    | none => rw [q] at e; cases e
    | some k =>
      cases q2 : keysD ds with
      | none => rw [q, q2] at e; cases e
      | some ks2 =>
        rw [q, q2] at e
        cases e
        rw [kV_keyD h1 q, kV_keysD h2 q2]
        rfl
section
variable {κ : Type} [DecidableEq κ] {K : PySem.W.Frag} {m : List Addr} {H : Hp}
theorem valD_rep (k : κ) : ∀ {kvs : List (κ × D)} {ks : List (κ × V)}, kvs.map (·.1) = ks.map (·.1) → RepL K m H (kvs.map (·.2)) (ks.map (·.2)) →
    (valD kvs k = none ∧ valV ks k = none) ∨ ∃ d v, valD kvs k = some d ∧ valV ks k = some v ∧ RepV K m H d v
  | [], [], _, _ => .inl ⟨rfl, rfl⟩
  | [], _ :: _, e, _ => by cases e
  | _ :: _, [], e, _ => by cases e
  | (k1, d) :: kvs, (k2, v) :: ks, e, r => by
    simp only [List.map_cons, List.cons.injEq] at e
    obtain ⟨e1, e2⟩ := e
    subst e1
    simp only [List.map_cons] at r
    unfold RepL at r
    obtain ⟨x, xs, q, h1, h2⟩ := r
    injection q with q1 q2
    subst q1 q2
    by_cases c : k1 = k
    · subst c
      exact .inr ⟨d, v, by simp [valD], by simp [valV], h1⟩
    · rcases valD_rep k e2 h2 with ⟨a, b⟩ | ⟨d', v', a, b, w⟩
      · exact .inl ⟨by unfold valD at a ⊢; rw [List.find?_cons]; simp [c]; simpa using a, by unfold valV at b ⊢; rw [List.find?_cons]; simp [c]; simpa using b⟩
      · exact .inr ⟨d', v', by unfold valD at a ⊢; rw [List.find?_cons]; simpa [c] using a, by unfold valV at b ⊢; rw [List.find?_cons]; simpa [c] using b, w⟩
theorem any_rep (k : κ) : ∀ {kvs : List (κ × D)} {ks : List (κ × V)}, kvs.map (·.1) = ks.map (·.1) → (kvs.any fun p => decide (p.1 = k)) = ks.any fun p => decide (p.1 = k)
  | [], [], _ => rfl
  | [], _ :: _, e => by cases e
  | _ :: _, [], e => by cases e
  | (k1, d) :: kvs, (k2, v) :: ks, e => by
    simp only [List.map_cons, List.cons.injEq] at e
    obtain ⟨e1, e2⟩ := e
    subst e1
    rw [List.any_cons, List.any_cons, any_rep k e2]
theorem over_rep (k : κ) {d : D} {v : V} (rv : RepV K m H d v) : ∀ {kvs : List (κ × D)} {ks : List (κ × V)}, kvs.map (·.1) = ks.map (·.1) → RepL K m H (kvs.map (·.2)) (ks.map (·.2)) →
    (kvs.map (fun p => if p.1 = k then (p.1, d) else p)).map (·.1) = (ks.map (fun p => if p.1 = k then (p.1, v) else p)).map (·.1) ∧ RepL K m H ((kvs.map (fun p => if p.1 = k then (p.1, d) else p)).map (·.2)) ((ks.map (fun p => if p.1 = k then (p.1, v) else p)).map (·.2))
  | [], [], _, _ => ⟨rfl, RepL.nil⟩
  | [], _ :: _, e, _ => by cases e
  | _ :: _, [], e, _ => by cases e
  | (k1, d1) :: kvs, (k2, v1) :: ks, e, r => by
    simp only [List.map_cons, List.cons.injEq] at e
    obtain ⟨e1, e2⟩ := e
    subst e1
    simp only [List.map_cons] at r
    unfold RepL at r
    obtain ⟨x, xs, q, h1, h2⟩ := r
    injection q with q1 q2
    subst q1 q2
    obtain ⟨a, b⟩ := over_rep k rv e2 h2
    by_cases c : k1 = k
    · simp only [List.map_cons, c, if_true]
      exact ⟨by rw [a], .cons rv b⟩
    · simp only [List.map_cons, c, if_false]
      exact ⟨by rw [a], .cons h1 b⟩
theorem put_rep (k : κ) {d : D} {v : V} (rv : RepV K m H d v) {kvs : List (κ × D)} {ks : List (κ × V)} (e : kvs.map (·.1) = ks.map (·.1)) (r : RepL K m H (kvs.map (·.2)) (ks.map (·.2))) :
    (putD kvs k d).map (·.1) = (putK ks k v).map (·.1) ∧ RepL K m H ((putD kvs k d).map (·.2)) ((putK ks k v).map (·.2)) := by
  unfold putD putK
  rw [any_rep k e]
  split
  · exact over_rep k rv e r
  · refine ⟨by rw [List.map_append, List.map_append, e]; rfl, ?_⟩
    rw [List.map_append, List.map_append]
    exact r.append (.cons rv .nil)
end
theorem map_len {α β γ δ : Type} {f : α → γ} {g : β → γ} {xs : List α} {ys : List β} (e : xs.map f = ys.map g) : xs.length = ys.length := by
  have := congrArg List.length e
  simpa using this
def ixF : VF2
  | .loc l, k, h => match h[l]? with
    | some (.lst ds) => (match k with
      | .int i => (atI ds i).map fun d => (d, h)
      | _ => none)
    | some (.dct kvs) => (keyD k).bind fun k => (valD kvs k).map fun d => (d, h)
    | some (.fdc kvs) => (keyD k).bind fun k => (valD kvs k).map fun d => (d, h)
    | some (.dcT kvs) => (match k with
      | .tup ks => (keysD ks).bind fun k => (valD kvs k).map fun d => (d, h)
      | _ => none)
    | _ => none
  | .ro ns, .int i, h => (atI ns i).map fun n => (.int n, h)
  | .tup ds, .int i, h => (atI ds i).map fun d => (d, h)
  | .str z, .int i, h => if z.length ≤ LIM then (atI z.cps.toList i).map fun c => (.str ⟨#[c]⟩, h) else none
  | _, _, _ => none
theorem atI_map {α β : Type} (f : α → β) (xs : List α) (i : Int) : atI (xs.map f) i = (atI xs i).map f := by
  unfold atI
  rw [List.length_map]
  cases ixN xs.length i with
  | none => rfl
  | some j => simp
section
variable {X : Cx}
theorem o_ix (hu : X.A.units + 1 < cLine) : IxR X (rV X.K ixF) := by
  intro value slice pns s σ H x y v u Q I rx ry h hsl
  obtain ⟨m, hs, dx, dy, r1, r2, rh, o⟩ := h
  unfold ixF at o
  split at o
  · unfold RepV at r1
    obtain ⟨a, ha, rfl⟩ := r1
    have got : ∀ {d : D} {w : V}, OutV X.K m H Q (some (d, hs)) → RepV X.K m H d w → DGet H a y (some w) → wpAny (model X.prog X.w) X.A (subscriptTail value slice v u) (EP X pns σ Q) X.xe s := fun o' rw' g => by
      cases rx
      exact tail_any (dict_typeIs I g) PySem.F.slot_dict_getitem.lookup (d_getItem hu I g ry fun w2 s2 I2 r2' => ⟨_, H, I2, r2', OutV.keep o' rw' rh⟩) hsl
    split at o
    · rename_i ds e1
      obtain ⟨vs, hv, rl⟩ := rh.lst ha e1
      split at o
      · unfold RepV at r2
        subst r2
        cases q : atI ds _ with
        | none => rw [q] at o; exact o.elim
        | some d =>
          rw [q] at o
          obtain ⟨w, hw, rw'⟩ := rl.at_ q
          exact ix_list value slice pns s σ H _ _ v u Q I rx ry ⟨a, vs, _, w, rfl, rfl, SqL.of hv, hw, OutV.keep o rw' rh⟩ hsl
      · exact o.elim
    · rename_i kvs e1
      obtain ⟨ks, hk, kk, rk⟩ := rh.at_ _ a _ ha e1
      cases q : keyD dy with
      | none => rw [q] at o; exact o.elim
      | some k =>
        rw [q, Option.bind_some] at o
        have ey := kV_keyD r2 q
        subst ey
        rcases valD_rep k kk rk with ⟨z, _⟩ | ⟨d, w, z, z2, rw'⟩
        · rw [z] at o; exact o.elim
        · rw [z] at o
          refine got o rw' ?_
          rw [← z2]
          exact DGet.k hk
    · rename_i kvs e1
      obtain ⟨ob, ks, hk, kk, rk⟩ := rh.at_ _ a _ ha e1
      cases q : keyD dy with
      | none => rw [q] at o; exact o.elim
      | some k =>
        rw [q, Option.bind_some] at o
        have ey := kV_keyD r2 q
        subst ey
        rcases valD_rep k kk rk with ⟨z, _⟩ | ⟨d, w, z, z2, rw'⟩
        · rw [z] at o; exact o.elim
        · rw [z] at o
          refine got o rw' ?_
          rw [← z2]
          exact .inl ⟨ks, k, .inr ⟨ob, hk⟩, rfl, rfl⟩
    · rename_i kvs e1
      obtain ⟨ks, hk, kk, rk⟩ := rh.at_ _ a _ ha e1
      split at o
      · rename_i kd
        cases q : keysD kd with
        | none => rw [q] at o; exact o.elim
        | some k =>
          rw [q, Option.bind_some] at o
          unfold RepV at r2
          obtain ⟨b, xs, rfl, hb, rl⟩ := r2
          have ey := kV_keysD rl q
          subst ey
          rcases valD_rep k kk rk with ⟨z, _⟩ | ⟨d, w, z, z2, rw'⟩
          · rw [z] at o; exact o.elim
          · rw [z] at o
            refine got o rw' ?_
            rw [← z2]
            exact DGet.t hk hb
      · exact o.elim
    · exact o.elim
  · unfold RepV at r1 r2
    obtain ⟨a, rfl, ha⟩ := r1
    subst r2
    rename_i ns i
    cases q : atI ns i with
    | none => rw [q] at o; exact o.elim
    | some n =>
      rw [q] at o
      exact ix_list value slice pns s σ H _ _ v u Q I rx ry ⟨a, _, i, .int n, rfl, rfl, ha.sq, by rw [atI_map, q]; rfl, OutV.keep o (by unfold RepV; rfl) rh⟩ hsl
  · unfold RepV at r1 r2
    obtain ⟨a, vs, rfl, ha, rl⟩ := r1
    subst r2
    rename_i ds i
    cases q : atI ds i with
    | none => rw [q] at o; exact o.elim
    | some d =>
      rw [q] at o
      obtain ⟨w, hw, rw'⟩ := rl.at_ q
      exact ix_tup value slice pns s σ H _ _ v u Q I rx ry ⟨a, vs, _, w, rfl, rfl, SqT.of ha, hw, OutV.keep o rw' rh⟩ hsl
  · unfold RepV at r1 r2
    subst r1 r2
    rename_i z i
    split at o
    · rename_i hz
      cases q : atI z.cps.toList i with
      | none => rw [q] at o; exact o.elim
      | some c =>
        rw [q] at o
        exact ix_str value slice pns s σ H _ _ v u Q I rx ry ⟨z, i, c, rfl, rfl, by rw [LIM_eq]; exact hz, q, OutV.keep o (by unfold RepV; rfl) rh⟩ hsl
    · exact o.elim
  · exact o.elim
end
abbrev OM := Sl → Hs → R (Option Int)
def noP : OM := fun _ h => .ok none h
def someP (A : EM) : OM := fun ds h => (A ds h).bind fun d h => match d with
  | .int i => .ok (some i) h
  | _ => .bad
def cutL {α : Type} (xs : List α) (lo hi : Option Int) : List α := (xs.drop (HT.sIx xs.length 0 lo)).take (HT.sIx xs.length xs.length hi - HT.sIx xs.length 0 lo)
def slF (d : D) (lo hi : Option Int) (h : Hs) : Res := match d with
  | .loc l => match h[l]? with
    | some (.lst ds) => some (.loc h.length, h ++ [.lst (cutL ds lo hi)])
    | _ => none
  | .ro ns => some (.loc h.length, h ++ [.lst ((cutL ns lo hi).map D.int)])
  | .tup ds => some (.tup (cutL ds lo hi), h)
  | .str z => if z.length ≤ LIM then some (.str (cutS z lo hi), h) else none
  | _ => none
def slM (A : EM) (lo hi : OM) : EM := fun ds h => (A ds h).bind fun d h => (lo ds h).bind fun l h => (hi ds h).bind fun u h => .ofO (slF d l u h)
def OutP (g : Cfg) (m : List Addr) (H : Hp) (σ : St) (Q : Option Int → Hp → Prop) : R (Option Int) → Prop
  | .ok o h' => ∀ m' H', Grow m H m' H' → RepH g.K m' H' h' → Q o H'
  | .exc c h' => ∀ m' H', Grow m H m' H' → RepH g.K m' H' h' → g.W (.ref (He.ga g.K c)) none σ H'
  | .bad => False
def tP (g : Cfg) (M : OM) : TO := fun σ H Q => ∃ m ds h, RepS g.K m H ds σ ∧ RepH g.K m H h ∧ OutP g m H σ Q (M ds h)
theorem OutP.toE {g : Cfg} {m : List Addr} {H : Hp} {σ : St} {Q : VK} {Q' : Option Int → Hp → Prop} {r : R (Option Int)} {k : Option Int → Hs → R D} (o : OutE g m H σ Q (r.bind k))
    (f : ∀ b h' m' H', Grow m H m' H' → RepH g.K m' H' h' → OutE g m' H' σ Q (k b h') → Q' b H') : OutP g m H σ Q' r := by
  cases r with
  | ok d h => exact fun m' H' w rh => f d h m' H' w rh (OutE.mono o w)
  | exc c h => exact o
  | bad => exact o
theorem PO.weak {X : Cx} {e : Option Expr} {t t' : TO} (p : PO X e t) (w : ∀ σ H Q, t' σ H Q → t σ H Q) : PO X e t' := ⟨fun pns s σ H Q I h => p.run pns s σ H Q I (w σ H Q h)⟩
section
variable {X : Cx} {g : Cfg} {e : Expr} {lo hi : Option Expr} {A : EM} {L U : OM} {pos p2 : Pos}
theorem pm_no : PO X none (tP g noP) := PO.weak po_none fun σ H Q ⟨m, ds, h, hs, rh, o⟩ => o m H (.refl _ _) rh
theorem pm_some (ha : PE X e (tM g A)) : PO X (some e) (tP g (someP A)) := by
  refine PO.weak (po_some ha) fun σ H Q ⟨m, ds, h, hs, rh, o⟩ => ⟨m, ds, h, hs, rh, ?_⟩
  unfold someP at o
  cases q : A ds h with
  | ok d h1 =>
    rw [q, R.bind_ok] at o
    intro v m1 H1 g1 r1 rh1
    cases d with
    | int i => unfold RepV at r1; exact ⟨i, r1, o m1 H1 g1 rh1⟩
    | _ => exact (show False from o).elim
  | exc c h1 => rw [q] at o; exact o
  | bad => rw [q] at o; exact o
theorem cutL_map {α β : Type} (f : α → β) (xs : List α) (lo hi : Option Int) : cutL (xs.map f) lo hi = (cutL xs lo hi).map f := by
  unfold cutL
  rw [List.length_map, List.map_take, List.map_drop]
theorem RepL.cut {K : PySem.W.Frag} {m : List Addr} {H : Hp} {ds : List D} {vs : List V} (r : RepL K m H ds vs) (lo hi : Option Int) : RepL K m H (cutL ds lo hi) (cutV vs lo hi) := by
  unfold cutL cutV
  rw [r.length]
  exact (r.drop _).take _
theorem em_slice (hK : X.K = g.K) (ha : PE X e (tM g A)) (hl : PO X lo (tP g L)) (hu : PO X hi (tP g U)) : PE X (.Subscript e (.Slice lo hi none p2) pos) (tM g (slM A L U)) := by
  have hr : SlR X (fun x lo hi H Q => (rSlL X.K x lo hi H Q ∨ rSlA X.K x lo hi H Q) ∨ rSlS x lo hi H Q) := (sl_list.or sl_tupA).or sl_str
  refine PE.weak (pe_slice hr ha hl hu) fun σ H Q ⟨m, ds, h, hs, rh, o⟩ => ⟨m, ds, h, hs, rh, OutE.toE o fun d h1 v m1 H1 g1 r1 rh1 o1 => ?_⟩
  refine ⟨m1, ds, h1, hs.mono g1, rh1, OutP.toE o1 fun l h2 m2 H2 g2 rh2 o2 => ?_⟩
  refine ⟨m2, ds, h2, (hs.mono g1).mono g2, rh2, OutP.toE o2 fun u h3 m3 H3 g3 rh3 o3 => ?_⟩
  have r3 := r1.mono (g2.trans g3)
  have o3 : OutV g.K m3 H3 Q (slF d l u h3) := .of o3
  rw [hK]
  unfold slF at o3
  split at o3
  · unfold RepV at r3
    obtain ⟨a, hq, rfl⟩ := r3
    split at o3
    · rename_i xs e1
      obtain ⟨vs, hv, rl⟩ := rh3.lst hq e1
      exact .inl (.inl ⟨a, vs, rfl, SqL.of hv, fun p hp => new_lst' (rl.cut _ _) rh3 hp o3⟩)
    · exact o3.elim
  · unfold RepV at r3
    obtain ⟨a, rfl, hq⟩ := r3
    rename_i ns _
    refine .inl (.inl ⟨a, _, rfl, hq.sq, fun p hp => new_lst' ?_ rh3 hp o3⟩)
    have := (repL_ints (K := g.K) (m := m3) (H := H3) ns).cut l u
    rwa [cutL_map] at this
  · unfold RepV at r3
    obtain ⟨a, vs, rfl, hq, rl⟩ := r3
    rename_i xs _
    refine .inl (.inr ⟨a, vs, rfl, SqT.of hq, fun hw => ?_, fun _ p hp => ?_⟩)
    · have e : cutL xs l u = xs := by
        have hl := rl.length
        rw [hl] at hw
        unfold cutL
        rw [hw.1, hw.2, List.drop_zero, Nat.sub_zero, List.take_length]
      rw [e] at o3
      exact o3 _ m3 H3 (.refl _ _) (by unfold RepV; exact ⟨a, vs, rfl, hq, rl⟩) rh3
    · exact o3 _ m3 _ (.put hp) (by unfold RepV; exact ⟨p, _, rfl, upd_same, (rl.cut _ _).mono (.put hp)⟩) (rh3.put hp)
  · unfold RepV at r3
    subst r3
    split at o3
    · rename_i hz
      exact .inr ⟨_, rfl, by rw [LIM_eq]; exact hz, OutV.keep o3 (by unfold RepV; rfl) rh3⟩
    · exact o3.elim
  · exact o3.elim
end
def lenF : List D → Hs → Res
  | [.loc l], h => match h[l]? with
    | some (.lst ds) => some (.int ds.length, h)
    | some (.dct kvs) => some (.int kvs.length, h)
    | some (.fdc kvs) => some (.int kvs.length, h)
    | _ => none
  | [.ro ns], h => some (.int ns.length, h)
  | [.tup ds], h => some (.int ds.length, h)
  | [.str z], h => if z.length ≤ LIM then some (.int z.length, h) else none
  | _, _ => none
def strT : List D → Hs → Res
  | [.int i], h => if i.natAbs.log2 < 1920 then some (.str (toString i), h) else none
  | _, _ => none
def tupT : List D → Hs → Res
  | [.loc l], h => match h[l]? with
    | some (.lst ds) => some (.tup ds, h)
    | _ => none
  | [.tup ds], h => some (.tup ds, h)
  | _, _ => none
def lstT : List D → Hs → Res
  | [.loc l], h => match h[l]? with
    | some (.lst ds) => some (.loc h.length, h ++ [.lst ds])
    | _ => none
  | [.ro ns], h => some (.loc h.length, h ++ [.lst (ns.map D.int)])
  | [.tup ds], h => some (.loc h.length, h ++ [.lst ds])
  | _, _ => none
def intsOf : List D → Option (List Int)
  | [] => some []
  | .int i :: r => (intsOf r).map fun ns => i :: ns
  | _ => none
theorem intsOf_some : ∀ {ds : List D} {ns : List Int}, intsOf ds = some ns → ds = ns.map D.int
  | [], _, e => by cases e; rfl
  | .int i :: r, ns, e => by
    unfold intsOf at e
    cases q : intsOf r with
    | none => rw [q] at e; cases e
    | some ms => rw [q] at e; cases e; rw [List.map_cons, intsOf_some q]
  | .non :: _, _, e => by cases e
  | .bl _ :: _, _, e => by cases e
  | .str _ :: _, _, e => by cases e
  | .tup _ :: _, _, e => by cases e
  | .loc _ :: _, _, e => by cases e
  | .ro _ :: _, _, e => by cases e
  | .exn _ :: _, _, e => by cases e
@[simp] theorem intsOf_map (ns : List Int) : intsOf (ns.map D.int) = some ns := by
  induction ns with
  | nil => rfl
  | cons n ns ih => rw [List.map_cons]; unfold intsOf; rw [ih]; rfl
def sumF : List D → Hs → Res
  | [.loc l], h => match h[l]? with
    | some (.lst ds) => (intsOf ds).map fun ns => (.int ns.sum, h)
    | _ => none
  | _, _ => none
def maxI (x : Int) (xs : List Int) : Int := xs.foldl (fun a y => if a < y then y else a) x
theorem repL_map {K : PySem.W.Frag} {m : List Addr} {H : Hp} : ∀ {ns : List Int} {vs : List V}, RepL K m H (ns.map D.int) vs → vs = ns.map V.int
  | [], vs, r => by unfold RepL at r; exact r
  | n :: ns, vs, r => by
    rw [List.map_cons] at r
    unfold RepL at r
    obtain ⟨x, xs, rfl, h1, h2⟩ := r
    unfold RepV at h1
    rw [h1, repL_map h2]; rfl
section
variable {X : Cx}
theorem c_len : CallR X (.builtin "len") (rC X.K lenF) := by
  intro pns s σ H vs us Q I rl h
  obtain ⟨m, hs, ds, r, rh, o⟩ := h
  unfold lenF at o
  split at o
  · obtain ⟨x, rfl, r1⟩ := repL1 r
    unfold RepV at r1
    obtain ⟨a, ha, rfl⟩ := r1
    split at o
    · rename_i xs e1
      obtain ⟨vs, hv, rl2⟩ := rh.lst ha e1
      exact call_len pns s σ H _ us Q I rl ⟨_, _, rfl, .inl ⟨vs, SqL.of hv, rl2.length.symm⟩, OutV.keep o (by unfold RepV; rfl) rh⟩
    · rename_i kvs e1
      obtain ⟨ks, hk, kk, rk⟩ := rh.at_ _ a _ ha e1
      obtain ⟨u, rfl, ru⟩ := vals1 rl
      cases ru
      refine d_len I (.inl hk) fun t s' I' => ⟨.int ks.length, H, I', ⟨t, rfl⟩, ?_⟩
      have e : ks.length = kvs.length := by have := congrArg List.length kk; simpa using this.symm
      rw [e]
      exact OutV.keep o (by unfold RepV; rfl) rh
    · rename_i kvs e1
      obtain ⟨ob, ks, hk, kk, rk⟩ := rh.at_ _ a _ ha e1
      obtain ⟨u, rfl, ru⟩ := vals1 rl
      cases ru
      refine d_len I (.inr ⟨ob, hk⟩) fun t s' I' => ⟨.int ks.length, H, I', ⟨t, rfl⟩, ?_⟩
      have e : ks.length = kvs.length := by have := congrArg List.length kk; simpa using this.symm
      rw [e]
      exact OutV.keep o (by unfold RepV; rfl) rh
    · exact o.elim
  · obtain ⟨x, rfl, r1⟩ := repL1 r
    unfold RepV at r1
    obtain ⟨a, rfl, ha⟩ := r1
    exact call_len pns s σ H _ us Q I rl ⟨_, _, rfl, .inl ⟨_, ha.sq, (List.length_map _).symm⟩, OutV.keep o (by unfold RepV; rfl) rh⟩
  · obtain ⟨x, rfl, r1⟩ := repL1 r
    unfold RepV at r1
    obtain ⟨a, xs, rfl, ha, rl2⟩ := r1
    exact call_len pns s σ H _ us Q I rl ⟨_, _, rfl, .inr ⟨xs, SqT.of ha, rl2.length.symm⟩, OutV.keep o (by unfold RepV; rfl) rh⟩
  · obtain ⟨x, rfl, r1⟩ := repL1 r
    unfold RepV at r1
    subst r1
    split at o
    · rename_i hz
      exact call_len pns s σ H _ us Q I rl ⟨_, _, rfl, ⟨by rw [LIM_eq]; exact hz, rfl⟩, OutV.keep o (by unfold RepV; rfl) rh⟩
    · exact o.elim
  · exact o.elim
theorem c_str : CallR X (.type "str") (rC X.K strT) := by
  intro pns s σ H vs us Q I rl h
  obtain ⟨m, hs, ds, r, rh, o⟩ := h
  unfold strT at o
  split at o
  · obtain ⟨x, rfl, r1⟩ := repL1 r
    unfold RepV at r1; subst r1
    split at o
    · rename_i hz
      exact call_str_int pns s σ H _ us Q I rl ⟨_, rfl, hz, OutV.keep o (by unfold RepV; rfl) rh⟩
    · exact o.elim
  · exact o.elim
theorem c_tuple : CallR X (.type "tuple") (rC X.K tupT) := by
  intro pns s σ H vs us Q I rl h
  obtain ⟨m, hs, ds, r, rh, o⟩ := h
  unfold tupT at o
  split at o
  · obtain ⟨x, rfl, r1⟩ := repL1 r
    unfold RepV at r1
    obtain ⟨a, ha, rfl⟩ := r1
    split at o
    · rename_i xs e1
      obtain ⟨vs, hv, rl2⟩ := rh.lst ha e1
      refine call_tuple_of pns s σ H _ us Q I rl ⟨a, vs, rfl, .inl ⟨SqL.of hv, fun p hp => ?_⟩⟩
      exact o _ m _ (.put hp) (by unfold RepV; exact ⟨p, _, rfl, upd_same, rl2.mono (.put hp)⟩) (rh.put hp)
    · exact o.elim
  · obtain ⟨x, rfl, r1⟩ := repL1 r
    have r0 := r1
    unfold RepV at r1
    obtain ⟨a, xs, rfl, ha, rl2⟩ := r1
    exact call_tuple_of pns s σ H _ us Q I rl ⟨a, xs, rfl, .inr ⟨SqT.of ha, OutV.keep o r0 rh⟩⟩
  · exact o.elim
theorem c_list : CallR X (.type "list") (rC X.K lstT) := by
  intro pns s σ H vs us Q I rl h
  obtain ⟨m, hs, ds, r, rh, o⟩ := h
  unfold lstT at o
  split at o
  · obtain ⟨x, rfl, r1⟩ := repL1 r
    unfold RepV at r1
    obtain ⟨a, ha, rfl⟩ := r1
    split at o
    · rename_i xs e1
      obtain ⟨vs, hv, rl2⟩ := rh.lst ha e1
      exact call_list_of pns s σ H _ us Q I rl ⟨a, vs, rfl, .inl (SqL.of hv), fun p hp => new_lst' rl2 rh hp o⟩
    · exact o.elim
  · obtain ⟨x, rfl, r1⟩ := repL1 r
    unfold RepV at r1
    obtain ⟨a, rfl, ha⟩ := r1
    exact call_list_of pns s σ H _ us Q I rl ⟨a, _, rfl, .inl ha.sq, fun p hp => new_lst' (repL_ints _) rh hp o⟩
  · obtain ⟨x, rfl, r1⟩ := repL1 r
    unfold RepV at r1
    obtain ⟨a, xs, rfl, ha, rl2⟩ := r1
    exact call_list_of pns s σ H _ us Q I rl ⟨a, xs, rfl, .inr (SqT.of ha), fun p hp => new_lst' rl2 rh hp o⟩
  · exact o.elim
theorem c_sum (hc : X.calm = true) : CallR X (.builtin "sum") (rC X.K sumF) := by
  intro pns s σ H vs us Q I rl h
  obtain ⟨m, hs, ds, r, rh, o⟩ := h
  unfold sumF at o
  split at o
  · obtain ⟨x, rfl, r1⟩ := repL1 r
    unfold RepV at r1
    obtain ⟨a, ha, rfl⟩ := r1
    split at o
    · rename_i xs e1
      obtain ⟨vs, hv, rl2⟩ := rh.lst ha e1
      cases q : intsOf xs with
      | none => rw [q] at o; exact o.elim
      | some ns =>
        rw [q] at o
        rw [intsOf_some q] at rl2
        have := repL_map rl2
        subst this
        exact cr_sum hc pns s σ H _ us Q I rl ⟨a, ns, rfl, SqL.of hv, OutV.keep o (by unfold RepV; rfl) rh⟩
    · exact o.elim
  · exact o.elim
end
end DV
namespace DV
open PySem PySem.Spec PyProof.Rows L2
noncomputable def rng3 : List D → Option (List D)
  | [.int i, .int j, .int k] => if k = -1 ∧ inR i = true ∧ inR j = true then some ((List.range (i - j).toNat).map fun (t : Nat) => .int (i - (t : Int))) else none
  | _ => none
/-- the receiver is of that type when it has been read -/
def mtMc (ck : D → Hs → Bool) (F : D → List D → Hs → Res) (O : EM) (As : AM) : EM := fun ds h => (O ds h).bind fun d h => if ck d h = true then (As ds h).bind fun xs h => .ofO (F d xs h) else .bad
def ckList : D → Hs → Bool
  | .loc l, h => match h[l]? with
    | some (.lst _) => true
    | _ => false
  | .ro _, _ => true
  | _, _ => false
def ckDct : D → Hs → Bool
  | .loc l, h => match h[l]? with
    | some (.dct _) => true
    | _ => false
  | _, _ => false
theorem ckList_ty {K : PySem.W.Frag} {m : List Addr} {H : Hp} {h : Hs} {d : D} {v : V} (r : RepV K m H d v) (rh : RepH K m H h) (c : ckList d h = true) : tyV K "list" v H := by
  unfold ckList at c
  split at c
  · unfold RepV at r
    obtain ⟨a, ha, rfl⟩ := r
    split at c
    · rename_i e
      obtain ⟨vs, hv, _⟩ := rh.lst ha e
      exact .inl ⟨rfl, vs, SqL.of hv⟩
    · cases c
  · unfold RepV at r
    obtain ⟨a, rfl, ha⟩ := r
    exact .inl ⟨rfl, _, ha.sq⟩
  · cases c
theorem ckDct_ty {K : PySem.W.Frag} {m : List Addr} {H : Hp} {h : Hs} {d : D} {v : V} (r : RepV K m H d v) (rh : RepH K m H h) (c : ckDct d h = true) : tyV K "dict" v H := by
  unfold ckDct at c
  split at c
  · unfold RepV at r
    obtain ⟨a, ha, rfl⟩ := r
    split at c
    · rename_i e
      obtain ⟨ks, hk, _⟩ := rh.at_ _ a _ ha e
      exact .inr (.inr (.inl ⟨rfl, .inl ⟨ks, hk⟩⟩))
    · cases c
  · cases c
/-- a method's rule by values -/
def rMt (K : PySem.W.Frag) (F : D → List D → Hs → Res) : V → List V → Hp → VK → Prop := fun x vs H Q => ∃ m h d ds, RepV K m H d x ∧ RepL K m H ds vs ∧ RepH K m H h ∧ OutV K m H Q (F d ds h)
section
variable {X : Cx} {g : Cfg} {o e : Expr} {es : List Expr} {O : EM} {As : AM} {name : Str} {apos cpos : Pos} {T id : String} {F : D → List D → Hs → Res} {ck : D → Hs → Bool}
theorem em_bm (hK : X.K = g.K) (pa : PlainAttrs T) (slot : Slot T name id) (hty : typeOf (.builtin id) = pure (.type "method_descriptor")) (hm : MtR X id (rMt g.K F))
    (hck : ∀ m H h d v, RepV g.K m H d v → RepH g.K m H h → ck d h = true → tyV g.K T v H) (ho : PE X o (tM g O)) (ha : PA X (e :: es) (tA g As))
    (hbase : attributeBase o name X.env (eval o X.env) = eval o X.env := by rfl)
    (hfew : ((backTo cpos (starEach (e :: es) X.env)).all (fun x => !x.1) && (backToKw cpos (keywordEach [] X.env)).all (fun x => x.1.isSome)
      && decide ((e :: es).length + ([] : List Keyword).length + (if ([] : List Keyword).isEmpty then 0 else 1) < 30)) = true := by rfl)
    (hline : (apos.endLine == cpos.line) = true := by rfl) (hs : starEach (e :: es) X.env = (false, eval e X.env) :: starEach es X.env := by rfl) (hplain : (backTo cpos (starEach es X.env)).any (·.1) = false := by rfl) :
    PE X (.Call (.Attribute o name apos) (e :: es) [] cpos) (tM g (mtMc ck F O As)) := by
  refine PE.weak (pe_bm pa slot hty hm ho ha hbase hfew hline hs hplain) fun σ H Q ⟨m, ds, h, hs, rh, o⟩ => ⟨m, ds, h, hs, rh, OutE.toE o fun d h1 v m1 H1 g1 r1 rh1 o1 => ?_⟩
  by_cases c : ck d h1 = true
  · rw [if_pos c] at o1
    refine ⟨by rw [hK]; exact hck m1 H1 h1 d v r1 rh1 c, m1, ds, h1, hs.mono g1, rh1, OutA.toE o1 fun xs h2 vs m2 H2 g2 rl rh2 o2 => ?_⟩
    exact ⟨m2, h2, d, xs, r1.mono g2, rl, rh2, .of o2⟩
  · rw [if_neg c] at o1; exact o1.elim
end
def appendF : D → List D → Hs → Res
  | .loc l, [d], h => match h[l]? with
    | some (.lst ds) => if ds.length < LIM then some (.non, h.set l (.lst (ds ++ [d]))) else none
    | _ => none
  | _, _, _ => none
/-- a list written -/
theorem write_lst {K : PySem.W.Frag} {m : List Addr} {H : Hp} {h : Hs} {l : Nat} {a : Addr} {xs ys : List V} {ds : List D} {Q : VK} {d : D} {v : V} (rh : RepH K m H h) (ha : m[l]? = some a) (hv : H a = some (.lst xs)) (rl : RepL K m H ds ys) (rv : RepV K m H d v)
    (o : OutV K m H Q (some (d, h.set l (.lst ds)))) : Q v (upd H a (.lst ys)) :=
  have w : Grow m H m (upd H a (.lst ys)) := .write hv (fun _ z => nomatch z) (fun _ _ z => nomatch z) (fun _ z => nomatch z)
  o v m _ w (rv.mono w) (rh.write ha hv (fun _ z => nomatch z) (fun _ _ z => nomatch z) (fun _ z => nomatch z) ⟨ys, upd_same, rl.mono w⟩)
section
variable {X : Cx}
theorem k_append : MtR X "list.append" (rMt X.K appendF) := by
  intro pns s σ H x vs v us Q I rx rv h
  obtain ⟨m, hs, d, ds, r1, rl, rh, o⟩ := h
  unfold appendF at o
  split at o
  · unfold RepV at r1
    obtain ⟨a, ha, rfl⟩ := r1
    obtain ⟨y, rfl, r2⟩ := repL1 rl
    split at o
    · rename_i xs e
      obtain ⟨ws, hw, rl2⟩ := rh.lst ha e
      split at o
      · rename_i hz
        exact mt_append pns s σ H _ _ v us Q I rx rv ⟨a, ws, y, rfl, rfl, hw, by rw [LIM_eq, rl2.length]; exact hz, write_lst rh ha hw (rl2.append (.cons r2 .nil)) (by unfold RepV; rfl) o⟩
      · exact o.elim
    · exact o.elim
  · exact o.elim
end
def setIxM (F : D → D → D → Hs → Option Hs) (V O I : EM) : SM := fun ds h => lift (V ds h) ds fun v h => lift (O ds h) ds fun o h => lift (I ds h) ds fun i h => match F o i v h with
  | some h' => .nx ds h'
  | none => .bad
def setLF : D → D → D → Hs → Option Hs
  | .loc l, .int i, v, h => match h[l]? with
    | some (.lst ds) => (ixN ds.length i).map fun j => h.set l (.lst (ds.set j v))
    | _ => none
  | _, _, _, _ => none
def OutN (K : PySem.W.Frag) (m : List Addr) (H : Hp) (Q : Hp → Prop) : Option Hs → Prop
  | some h' => ∀ m' H', Grow m H m' H' → RepH K m' H' h' → Q H'
  | none => False
def rSt (K : PySem.W.Frag) (F : D → D → D → Hs → Option Hs) : TSet := fun o i v H Q => ∃ m h od id vd, RepV K m H od o ∧ RepV K m H id i ∧ RepV K m H vd v ∧ RepH K m H h ∧ OutN K m H Q (F od id vd h)
section
variable {X : Cx} {g : Cfg} {o i e : Expr} {V O I : EM} {pos tpos : Pos} {F : D → D → D → Hs → Option Hs}
theorem sm_setIx (hset : PSet X (rSt g.K F)) (he : PE X e (tM g V)) (ho : PE X o (tM g O)) (hi : PE X i (tM g I))
    (ha : ∀ v, assign (.Subscript o i tpos) X.env v = (do
      let ov ← holding [v] (eval o X.env)
      let iv ← holding [v, ov] (eval i X.env)
      standAt tpos
      holding [v, ov, iv] (setItem ov iv v)
      release [v, ov, iv] []) := by intro _; rfl)
    (hs : swapsWithSole [.Subscript o i tpos] e pos.line X.env = pure false := by rfl) (hw : swappedStores [.Subscript o i tpos] e X.env = pure none := by rfl)
    (h1 : (assignEach [.Subscript o i tpos] X.env).map (·.2) = [assign (.Subscript o i tpos) X.env] := by rfl) : PS X (.Assign [.Subscript o i tpos] e pos) (tS g (setIxM F V O I)) := by
  refine PS.weak (ps_asg he (pg_sub ho hi hset ha) hs hw h1) fun N σ H ⟨m, ds, h, hs, rh, o⟩ => ⟨m, ds, h, hs, rh, OutE.toS hs o fun d1 h1 v1 m1 H1 g1 r1 rh1 o1 => ?_⟩
  refine ⟨m1, ds, h1, hs.mono g1, rh1, OutE.toS (hs.mono g1) o1 fun d2 h2 v2 m2 H2 g2 r2 rh2 o2 => ?_⟩
  refine ⟨m2, ds, h2, (hs.mono g1).mono g2, rh2, OutE.toS ((hs.mono g1).mono g2) o2 fun d3 h3 v3 m3 H3 g3 r3 rh3 o3 => ?_⟩
  refine ⟨m3, h3, d2, d3, d1, r2.mono g3, r3, (r1.mono g2).mono g3, rh3, ?_⟩
  cases q : F d2 d3 d1 h3 with
  | none => rw [q] at o3; exact o3.elim
  | some h4 => rw [q] at o3; exact fun m4 H4 g4 rh4 => o3 σ m4 H4 g4 (((hs.mono g1).mono g2).mono (g3.trans g4)) rh4
theorem s_list : PSet X (rSt X.K setLF) := by
  intro pns s σ H o i v ov iv u Q I ro ri rv h
  obtain ⟨m, hs, od, id, vd, r1, r2, r3, rh, q⟩ := h
  unfold setLF at q
  split at q
  · unfold RepV at r1 r2
    obtain ⟨a, ha, rfl⟩ := r1
    subst r2
    split at q
    · rename_i xs e
      obtain ⟨ws, hw, rl2⟩ := rh.lst ha e
      cases c : ixN xs.length _ with
      | none => rw [c] at q; exact q.elim
      | some j =>
        rw [c] at q
        refine set_list pns s σ H _ _ _ ov iv u Q I ro ri rv ⟨a, ws, _, j, rfl, rfl, hw, by rw [rl2.length]; exact c, ?_⟩
        have w : Grow m H m (upd H a (.lst (ws.set j v))) := .write hw (fun _ z => nomatch z) (fun _ _ z => nomatch z) (fun _ z => nomatch z)
        exact q m _ w (rh.write ha hw (fun _ z => nomatch z) (fun _ _ z => nomatch z) (fun _ z => nomatch z) ⟨_, upd_same, (rl2.set j r3).mono w⟩)
    · exact q.elim
  · exact q.elim
end
def maxdR (d e : D) (h : Hs) : R D := match d, e with
  | .loc l, .int k => match h[l]? with
    | some (.lst xs) => match intsOf xs with
      | some [] => .ok (.int k) h
      | some (n :: ns) => .ok (.int (maxI n ns)) h
      | none => .bad
    | _ => .bad
  | _, _ => .bad
def maxdF (A B : EM) : EM := fun ds h => (A ds h).bind fun d h => (B ds h).bind fun e h => maxdR d e h
theorem dataLt_int (a b : Int) : PySem.W.dataLt (.int a) (.int b) = decide (a < b) := by
  by_cases e : a = b
  · subst e
    rw [decide_eq_false (Int.lt_irrefl _)]
    simp [PySem.W.dataLt, PySem.W.keyToks, PyProof.Rows.lexLt, itemLt]
  · have hne : (Sum.inl a : Int ⊕ List Nat) ≠ .inl b := fun z => e (Sum.inl.inj z)
    simp [PySem.W.dataLt, PySem.W.keyToks, PyProof.Rows.lexLt, itemLt, e, hne]
theorem maxD_int : ∀ (xs : List Int) (x : Int), PySem.W.maxD (.int x) (xs.map PyData.int) = .int (maxI x xs)
  | [], x => rfl
  | y :: xs, x => by
    show PySem.W.maxD (if PySem.W.dataLt (.int x) (.int y) then .int y else .int x) (xs.map PyData.int) = .int (maxI (if x < y then y else x) xs)
    rw [dataLt_int]
    by_cases c : x < y
    · rw [decide_eq_true c, if_pos rfl, if_pos c, maxD_int xs y]
    · rw [decide_eq_false c, if_neg Bool.false_ne_true, if_neg c, maxD_int xs x]
theorem depthAll_ints : ∀ ns : List Int, PyData.depthAll (ns.map PyData.int) = 0
  | [] => rfl
  | n :: ns => by
    show max 0 (PyData.depthAll (ns.map PyData.int)) = 0
    rw [depthAll_ints ns]; rfl
theorem alike_ints (ns : List Int) : PySem.W.AlikeAll (ns.map PyData.int) := by
  refine ⟨fun x hx y hy => ?_, fun x hx => ?_⟩
  · obtain ⟨a, _, rfl⟩ := List.mem_map.mp hx
    obtain ⟨b, _, rfl⟩ := List.mem_map.mp hy
    rfl
  · obtain ⟨a, _, rfl⟩ := List.mem_map.mp hx
    exact fun z => nomatch z
theorem reads_ints {h : Heap} : ∀ {ns : List Int} {us : List Value}, Vals (ns.map V.int) us → ∃ as, ReadsAll h us (ns.map PyData.int) as
  | [], _, r => by cases r; exact ⟨_, .nil⟩
  | n :: ns, _, r => by
    cases r with
    | cons r1 r2 =>
      obtain ⟨t, rfl⟩ := r1
      obtain ⟨as, q⟩ := reads_ints r2
      exact ⟨_, .cons (.int n t) q⟩
section
variable {X : Cx} {g : Cfg} {e d : Expr} {A B : EM} {p pos kpos : Pos}
/-- max(list of ints, default = d) -/
theorem pe_maxd {te td : TE} (hc : X.calm = true) (hu : X.A.units + 1 < cLine) (hg : Gl X "max") (hm : X.mg "max" = none) (ha : PE X e te) (hb : PE X d td) (hs : starEach [e] X.env = [(false, eval e X.env)] := by rfl) :
    PE X (.Call (.Name "max" p) [e] [⟨some "default", d, kpos⟩] pos) (fun σ H Q => te σ H fun x H1 => td σ H1 fun y H2 => ∃ a ns, x = .ref a ∧ SqL X.K H2 a (ns.map V.int) ∧ Q (match ns with | [] => y | n :: ns => .int (maxI n ns)) H2) := by
  refine ⟨fun pns s σ H Q I h => ?_⟩
  refine wpAny_Call_Name_kw (ld_blt (u := .builtin "max") I hg hm (by decide +kernel) ?_ (by decide) (by decide))
  refine PyProof.Rows.callWith_kw ?_ (by rw [hs] <;> rfl) (by rw [hs] <;> rfl) rfl rfl
  have hpa : PA X [e] (fun σ H Q => te σ H fun x H1 => Q [x] H1) := PA.weak (pa_cons ha pa_nil (by rw [hs] <;> rfl)) fun _ _ _ q => q
  have hpk : PK X [⟨some "default", d, kpos⟩] (fun σ H Q => td σ H fun x H1 => Q [x] H1) := ⟨fun pos pns s σ H Q I h => (pk_cons (kpos := kpos) (nm := some "default") hb pk_nil).run pos pns s σ H Q I h⟩
  refine thn (hpa.run pos pns s σ H (fun vs H1 => match vs with
    | [x] => td σ H1 fun y H2 => ∃ a ns, x = .ref a ∧ SqL X.K H2 a (ns.map V.int) ∧ Q (match ns with | [] => y | n :: ns => .int (maxI n ns)) H2
    | _ => False) I h) fun us s1 ⟨vs, H1, I1, r1, q1⟩ => ?_
  match vs, r1, q1 with
  | [x], r1, q1 =>
  obtain ⟨ux, rfl, rx⟩ := vals1 r1
  refine thn (hpk.run pos pns s1 σ H1 (fun vs H2 => match vs with
    | [y] => ∃ a ns, x = .ref a ∧ SqL X.K H2 a (ns.map V.int) ∧ Q (match ns with | [] => y | n :: ns => .int (maxI n ns)) H2
    | _ => False) I1 q1) fun ws s2 ⟨vs, H2, I2, r2, q2⟩ => ?_
  match vs, r2, q2 with
  | [y], r2, q2 =>
  obtain ⟨a, ns, e3, hq, q2⟩ := q2
  subst e3
  cases rx
  obtain ⟨uy, rfl, ry⟩ := vals1 r2
  obtain ⟨its, rv, pl, hz⟩ := I2.list hq
  obtain ⟨as, hr⟩ := reads_ints (h := s2.heap) rv
  refine PySem.W.max_list_default (I2.ok.hd hc) pl.isList hr (alike_ints ns) (by rw [depthAll_ints]; omega) (fun en h' tk k => ?_) fun z zs i v h' tk bs en hv hrd k => ?_
  · have : ns = [] := List.map_eq_nil_iff.mp en
    subst this
    exact ⟨y, H2, I2.kept k, ry, q2⟩
  · cases ns with
    | nil => cases en
    | cons n ns =>
      rw [List.map_cons] at en
      injection en with e1 e2
      subst e1 e2
      rw [maxD_int] at hrd
      cases hrd
      exact ⟨.int (maxI n ns), H2, I2.kept k, ⟨_, rfl⟩, q2⟩
theorem em_maxd (hK : X.K = g.K) (hc : X.calm = true) (hu : X.A.units + 1 < cLine) (hg : Gl X "max") (hm : X.mg "max" = none) (ha : PE X e (tM g A)) (hb : PE X d (tM g B)) (hs : starEach [e] X.env = [(false, eval e X.env)] := by rfl) :
    PE X (.Call (.Name "max" p) [e] [⟨some "default", d, kpos⟩] pos) (tM g (maxdF A B)) := by
  refine PE.weak (pe_maxd hc hu hg hm ha hb hs) fun σ H Q ⟨m, ds, h, hs, rh, o⟩ => ⟨m, ds, h, hs, rh, OutE.toE o fun d1 h1 v1 m1 H1 g1 r1 rh1 o1 => ⟨m1, ds, h1, hs.mono g1, rh1, OutE.toE o1 fun d2 h2 v2 m2 H2 g2 r2 rh2 o2 => ?_⟩⟩
  have r1 := r1.mono g2
  unfold maxdR at o2
  split at o2
  · rename_i l k
    unfold RepV at r1 r2
    obtain ⟨a, ha, rfl⟩ := r1
    split at o2
    · rename_i xs ex
      obtain ⟨vs, hv, rl⟩ := rh2.lst ha ex
      cases q : intsOf xs with
      | none => rw [q] at o2; exact o2.elim
      | some ns =>
        rw [q] at o2
        rw [intsOf_some q] at rl
        have := repL_map rl
        subst this
        refine ⟨a, ns, rfl, by rw [hK]; exact SqL.of hv, ?_⟩
        cases ns with
        | nil => exact o2 _ m2 H2 (.refl _ _) (by unfold RepV; exact r2) rh2
        | cons n ns => exact o2 _ m2 H2 (.refl _ _) (by unfold RepV; rfl) rh2
    · exact o2.elim
  · exact o2.elim
end
end DV
namespace DV
open PySem PySem.Spec PyProof.Rows L2
structure Blt (mg : Str → Option Value) : Prop where
  z_len : mg "len" = none
  z_range : mg "range" = none
  z_int : mg "int" = none
  z_str : mg "str" = none
  z_sum : mg "sum" = none
  z_max : mg "max" = none
  z_min : mg "min" = none
  z_enumerate : mg "enumerate" = none
  z_isinstance : mg "isinstance" = none
  z_tuple : mg "tuple" = none
  z_list : mg "list" = none
  z_dict : mg "dict" = none
  z_sorted : mg "sorted" = none
  z_abs : mg "abs" = none
  z_all : mg "all" = none
  z_set : mg "set" = none
  z_bool : mg "bool" = none
theorem hu1 {k : Nat} {A : Around} (hr : Room k A) : A.units + 1 < cLine := hu_of hr
theorem hu195 {k : Nat} {A : Around} (hr : Room k A) : A.units + 195 < cLine := by have := hr.un; omega
def flatD : D → Bool
  | .non => true
  | .bl _ => true
  | .int _ => true
  | .str _ => true
  | _ => false
def toV : D → V
  | .non => .non
  | .bl b => .bl b
  | .int i => .int i
  | .str s => .str s
  | _ => .non
theorem flat_toV {K : PySem.W.Frag} {m : List Addr} {H : Hp} {d : D} {v : V} (r : RepV K m H d v) (f : flatD d = true) : v = toV d ∧ flatV v = true := by
  cases d with
  | non => unfold RepV at r; subst r; exact ⟨rfl, rfl⟩
  | bl b => unfold RepV at r; subst r; exact ⟨rfl, rfl⟩
  | int b => unfold RepV at r; subst r; exact ⟨rfl, rfl⟩
  | str b => unfold RepV at r; subst r; exact ⟨rfl, rfl⟩
  | tup _ => cases f
  | loc _ => cases f
  | ro _ => cases f
  | exn _ => cases f
theorem flat_toVL {K : PySem.W.Frag} {m : List Addr} {H : Hp} : ∀ {ds : List D} {vs : List V}, RepL K m H ds vs → ds.all flatD = true → vs = ds.map toV ∧ vs.all flatV = true
  | [], vs, r, _ => by unfold RepL at r; subst r; exact ⟨rfl, rfl⟩
  | d :: ds, vs, r, f => by
    unfold RepL at r
    obtain ⟨x, xs, rfl, h1, h2⟩ := r
    rw [List.all_cons, Bool.and_eq_true] at f
    obtain ⟨e1, e2⟩ := flat_toV h1 f.1
    obtain ⟨e3, e4⟩ := flat_toVL h2 f.2
    exact ⟨by rw [e1, e3]; rfl, by rw [List.all_cons, e2, e4]; rfl⟩
def inFlat (x : D) (ds : List D) : Bool := ds.any fun d => eqV (toV d) (toV x)
theorem inV_map (x : D) (ds : List D) : inV (toV x) (ds.map toV) = inFlat x ds := by
  unfold inV inFlat
  rw [List.any_map]; rfl
/-- x in y -/
def inB : D → D → Hs → Option Bool
  | .str i, .str j, _ => match i.cps.toList with
    | [c] => some (decide (c ∈ j.cps.toList))
    | _ => none
  | x, .loc l, h => match h[l]? with
    | some (.lst ds) => if flatD x && ds.all flatD then some (inFlat x ds) else none
    | some (.dct kvs) => (keyD x).map fun k => (valD kvs k).isSome
    | some (.fdc kvs) => (keyD x).map fun k => (valD kvs k).isSome
    | _ => none
  | x, .tup ds, _ => if flatD x && ds.all flatD then some (inFlat x ds) else none
  | _, _, _ => none
def inF : VF2 := fun x y h => (inB x y h).map fun b => (.bl b, h)
def ninF : VF2 := fun x y h => (inB x y h).map fun b => (.bl (!b), h)
section
variable {X : Cx} {K : PySem.W.Frag}
theorem in_core (hu : X.A.units + 1 < cLine) {pns : List (Addr × Obj)} {s : Shared} {σ : St} {H : Hp} {x y : V} {v u : Value} {m : List Addr} {hs : Hs} {dx dy : D} {b : Bool} (I : Inv X pns σ H s) (rx : RelV x v) (ry : RelV y u) (r1 : RepV X.K m H dx x) (r2 : RepV X.K m H dy y)
    (rh : RepH X.K m H hs) (e : inB dx dy hs = some b) {Q : VK} :
    (Q (.bl b) H → wpAny (model X.prog X.w) X.A (compareOp .In v u) (EP X pns σ Q) X.xe s) ∧ (Q (.bl (!b)) H → wpAny (model X.prog X.w) X.A (compareOp .NotIn v u) (EP X pns σ Q) X.xe s) := by
  unfold inB at e
  split at e
  · rename_i i j
    unfold RepV at r1 r2
    subst r1 r2
    split at e
    · rename_i c hc
      cases e
      have hi : i = ⟨#[c]⟩ := by
        cases i with
        | mk a => congr; exact Array.toList_inj.mp (by simpa using hc)
      subst hi
      exact ⟨fun q => op_in_sign pns s σ H _ _ v u Q I rx ry ⟨c, j, rfl, rfl, q⟩, fun q => op_notIn_sign pns s σ H _ _ v u Q I rx ry ⟨c, j, rfl, rfl, q⟩⟩
    · cases e
  · rename_i l
    unfold RepV at r2
    obtain ⟨a, ha, rfl⟩ := r2
    split at e
    · rename_i ds e1
      obtain ⟨vs, hv, rl⟩ := rh.lst ha e1
      split at e
      · rename_i c
        cases e
        obtain ⟨c1, c2⟩ := Bool.and_eq_true_iff.mp c
        obtain ⟨q1, q2⟩ := flat_toV r1 c1
        obtain ⟨q3, q4⟩ := flat_toVL rl c2
        have ei : inV x vs = inFlat dx ds := by rw [q1, q3, inV_map]
        exact ⟨fun q => op_in_seq pns s σ H _ _ v u Q I rx ry ⟨a, vs, rfl, .inl (SqL.of hv), q2, q4, by rw [if_neg Bool.false_ne_true, ei]; exact q⟩, fun q => op_notIn_seq pns s σ H _ _ v u Q I rx ry ⟨a, vs, rfl, .inl (SqL.of hv), q2, q4, by rw [if_pos rfl, ei]; exact q⟩⟩
      · cases e
    · rename_i kvs e1
      obtain ⟨ks, hk, kk, rk⟩ := rh.at_ _ a _ ha e1
      cases q : keyD dx with
      | none => rw [q] at e; cases e
      | some k =>
        rw [q] at e
        cases e
        have hx := kV_keyD r1 q
        subst hx
        have es : (valV ks k).isSome = (valD kvs k).isSome := by
          rcases valD_rep k kk rk with ⟨a, b⟩ | ⟨d, v, a, b, _⟩ <;> rw [a, b] <;> rfl
        have g : DGet H a (kV k) (valV ks k) := DGet.k hk
        cases ry
        exact ⟨fun q => d_in hu I g rx fun s' I' => ⟨.bl (valV ks k).isSome, H, I', rfl, by rw [es]; exact q⟩, fun q => d_notIn hu I g rx fun s' I' => ⟨.bl (!(valV ks k).isSome), H, I', rfl, by rw [es]; exact q⟩⟩
    · rename_i kvs e1
      obtain ⟨ob, ks, hk, kk, rk⟩ := rh.at_ _ a _ ha e1
      cases q : keyD dx with
      | none => rw [q] at e; cases e
      | some k =>
        rw [q] at e
        cases e
        have hx := kV_keyD r1 q
        subst hx
        have es : (valV ks k).isSome = (valD kvs k).isSome := by
          rcases valD_rep k kk rk with ⟨a, b⟩ | ⟨d, v, a, b, _⟩ <;> rw [a, b] <;> rfl
        have g : DGet H a (kV k) (valV ks k) := .inl ⟨ks, k, .inr ⟨ob, hk⟩, rfl, rfl⟩
        cases ry
        exact ⟨fun q => d_in hu I g rx fun s' I' => ⟨.bl (valV ks k).isSome, H, I', rfl, by rw [es]; exact q⟩, fun q => d_notIn hu I g rx fun s' I' => ⟨.bl (!(valV ks k).isSome), H, I', rfl, by rw [es]; exact q⟩⟩
    · cases e
  · rename_i ds
    unfold RepV at r2
    obtain ⟨a, vs, rfl, ha, rl⟩ := r2
    split at e
    · rename_i c
      cases e
      obtain ⟨c1, c2⟩ := Bool.and_eq_true_iff.mp c
      obtain ⟨q1, q2⟩ := flat_toV r1 c1
      obtain ⟨q3, q4⟩ := flat_toVL rl c2
      have ei : inV x vs = inFlat dx ds := by rw [q1, q3, inV_map]
      exact ⟨fun q => op_in_seq pns s σ H _ _ v u Q I rx ry ⟨a, vs, rfl, .inr (SqT.of ha), q2, q4, by rw [if_neg Bool.false_ne_true, ei]; exact q⟩, fun q => op_notIn_seq pns s σ H _ _ v u Q I rx ry ⟨a, vs, rfl, .inr (SqT.of ha), q2, q4, by rw [if_pos rfl, ei]; exact q⟩⟩
    · cases e
  · cases e
theorem o_in (hu : X.A.units + 195 < cLine) : OpR X (compareOp .In) (rV X.K inF) := by
  intro pns s σ H x y v u Q I rx ry h
  obtain ⟨m, hs, dx, dy, r1, r2, rh, o⟩ := h
  unfold inF at o
  cases e : inB dx dy hs with
  | none => rw [e] at o; exact o.elim
  | some b =>
    rw [e] at o
    exact (in_core (by omega) I rx ry r1 r2 rh e).1 (o _ m H (.refl _ _) (by unfold RepV; rfl) rh)
theorem o_nin (hu : X.A.units + 195 < cLine) : OpR X (compareOp .NotIn) (rV X.K ninF) := by
  intro pns s σ H x y v u Q I rx ry h
  obtain ⟨m, hs, dx, dy, r1, r2, rh, o⟩ := h
  unfold ninF at o
  cases e : inB dx dy hs with
  | none => rw [e] at o; exact o.elim
  | some b =>
    rw [e] at o
    exact (in_core (by omega) I rx ry r1 r2 rh e).2 (o _ m H (.refl _ _) (by unfold RepV; rfl) rh)
def isNon : D → Bool
  | .non => true
  | _ => false
def isNF : VF2
  | d, .non, h => some (.bl (isNon d), h)
  | _, _, _ => none
def isnNF : VF2
  | d, .non, h => some (.bl (!isNon d), h)
  | _, _, _ => none
theorem isNon_rep {m : List Addr} {H : Hp} {d : D} {v : V} (r : RepV K m H d v) : isNon d = decide (v = .non) := by
  cases d with
  | non => unfold RepV at r; subst r; rfl
  | bl _ => unfold RepV at r; subst r; rfl
  | int _ => unfold RepV at r; subst r; rfl
  | str _ => unfold RepV at r; subst r; rfl
  | tup _ => unfold RepV at r; obtain ⟨a, _, rfl, _⟩ := r; rfl
  | loc _ => unfold RepV at r; obtain ⟨a, _, rfl⟩ := r; rfl
  | ro _ => unfold RepV at r; obtain ⟨a, rfl, _⟩ := r; rfl
  | exn _ => unfold RepV at r; obtain ⟨a, rfl, _⟩ := r; rfl
theorem o_is : OpR X (compareOp .Is) (rV X.K isNF) := by
  intro pns s σ H x y v u Q I rx ry h
  obtain ⟨m, hs, dx, dy, r1, r2, rh, o⟩ := h
  unfold isNF at o
  split at o
  · unfold RepV at r2
    subst r2
    refine op_isN pns s σ H _ _ v u Q I rx ry ⟨rfl, ?_⟩
    rw [← isNon_rep r1]
    exact o _ m H (.refl _ _) (by unfold RepV; rfl) rh
  · exact o.elim
theorem o_isn : OpR X (compareOp .IsNot) (rV X.K isnNF) := by
  intro pns s σ H x y v u Q I rx ry h
  obtain ⟨m, hs, dx, dy, r1, r2, rh, o⟩ := h
  unfold isnNF at o
  split at o
  · unfold RepV at r2
    subst r2
    refine op_notN pns s σ H _ _ v u Q I rx ry ⟨rfl, ?_⟩
    rw [← isNon_rep r1]
    exact o _ m H (.refl _ _) (by unfold RepV; rfl) rh
  · exact o.elim
end
end DV
namespace DV
open PySem PySem.Spec PyProof.Rows L2
/-- no exception leaves where none is let -/
theorem cx_none {P : Program} {w : World} {H : Hp} {s : Shared} {e : Value} {s' : Shared} (c : L2.CX P w [] H s (fun _ _ _ => False) e s') : False := by
  obtain ⟨_, _, _, _, _, _, _, _, _, _, _, _, z⟩ := c
  exact z
theorem spM_ro {K : PySem.W.Frag} {φ : Fm} {H : Hp} {a : Addr} {ns : List Int} {h' : Hs} (hO : Only H) (hS : SqL K H a (ns.map V.int)) (e : φ [.ro ns] [] = .ok (.bl true) h') : spM K 1 φ [.ref a] H (fun v _ => v = .bl true) (fun _ _ _ => False) := by
  have hq : SqR K H a (ns.map V.int) := by
    rcases hS with h | h
    · rcases h with h | ⟨o, h⟩
      · rcases hO a with z | ⟨o, xs, z⟩
        · rw [z] at h; cases h
        · rw [z] at h; cases h
      · exact .inl ⟨o, h⟩
    · exact .inr h
  refine ⟨rfl, [], [.ro ns], [], .cons (by unfold RepV; exact ⟨a, rfl, hq⟩) .nil, ⟨rfl, List.nodup_nil, fun i b o hi => by simp at hi⟩, ?_⟩
  rw [e]
  intro v m' H' _ rv _
  unfold RepV at rv
  exact rv
theorem law_end {l : PySem.W.OpenLaw} {k : Nat} {q : Program} {loose : List Str} {XP : (Str → Option Value) → Heap → Prop} {YP : World → Heap → Prop} {d : DefRec} {φ : Fm}
    (hn : l.most = some 63) (hdf : d.params.defaults = []) (hr : Room k callerA) (hφ : ∀ ns : List Int, ns.length ≤ 63 → ∃ h', φ [.ro ns] [] = .ok (.bl true) h')
    (G : ∀ (w : World) (mg : Str → Option Value) (fa : Addr) (h : Heap), YP w h → h.Ns mainGlobals mg → mg d.name = some (.ref fa) →
      ∃ (K : PySem.W.Frag) (fd : FuncData), K.In h ∧ (∀ (s : Shared) (u : Value), BindsTo s fd ⟨[u], []⟩ [("script", u)]) ∧
        ∀ base : Heap, K.In base → base.Ns mainGlobals mg → FnOk l.prog w K mg base (L2.CX l.prog w) k fa fd ["script"] (spM K 1 φ)) :
    PySem.W.WalkO q loose XP YP l.row.toRowW d [] (fun f vs => PySem.call f vs) := by
  refine Att.attach_call hn hdf fun w sA sB mg mb fa o pm cd doc a vs ns T Y ho hd hcd hmg hobj hints hlen hg => ?_
  obtain ⟨K, fd, KX, hb, hF⟩ := G w mg fa _ Y T.T.g hmg
  refine law_call KX T.T.g T.T.b T.T.builtins T.T.nolimit hg hobj hints (Nat.le_trans hlen (by rw [sizeLine_eq]; decide)) hr hF hb (fun H hO hS => ?_) fun H e s' => cx_none
  obtain ⟨h', e⟩ := hφ ns hlen
  exact spM_ro hO hS e
def FUEL : Nat := 100000
theorem fnAt_by {P : Program} {w : World} {K : PySem.W.Frag} {mg : Str → Option Value} {base : Heap} {x qual : Str} {params : Arguments} {body : List Stmt} {scope : Scope} {f : Addr} {fd : FuncData} {ps : List Str} {k np nN : Nat} {M : SM} (kd : Nrm) (hp : ps.length = np)
    (F : FunD K x qual params body scope [] [] f fd) (hm : mg x = some (.ref f)) (hb : Binds K fd ps []) (G : FnOk P w K mg base (L2.CX P w) (k + 1) f fd ps (spM K np (kd.f (runM np nN M)))) : FnAt P w K mg base (k + 1) x ps (kd.f (runM np nN M)) := by
  subst hp
  exact ⟨⟨f, fd, hm, F.kp, hb, G⟩, kd.ar _ _ (runM_ar _ _ _)⟩
end DV
namespace DV
open PySem PySem.Spec PyProof.Rows L2
abbrev QX := Str → Hs → Prop
def R.wp {α : Type} (r : R α) (Q : α → Hs → Prop) (X : QX) : Prop := match r with
  | .ok a h => Q a h
  | .exc c h => X c h
  | .bad => False
def RS.wp (r : RS) (N : Sl → Hs → Prop) (Q : D → Hs → Prop) (X : QX) : Prop := match r with
  | .nx ds h => N ds h
  | .rt d h => Q d h
  | .exc c _ h => X c h
  | _ => False
def xF : QX := fun _ _ => False
@[simp] theorem wp_ok {α : Type} (a : α) (h : Hs) (Q : α → Hs → Prop) (X : QX) : (R.ok a h).wp Q X = Q a h := rfl
@[simp] theorem wp_exc {α : Type} (c : Str) (h : Hs) (Q : α → Hs → Prop) (X : QX) : (R.exc c h : R α).wp Q X = X c h := rfl
@[simp] theorem wp_bad {α : Type} (Q : α → Hs → Prop) (X : QX) : (R.bad : R α).wp Q X = False := rfl
@[simp] theorem wp_bind {α β : Type} (r : R α) (k : α → Hs → R β) (Q : β → Hs → Prop) (X : QX) : (r.bind k).wp Q X = r.wp (fun a h => (k a h).wp Q X) X := by cases r <;> rfl
@[simp] theorem ws_lift {α : Type} (r : R α) (ds : Sl) (k : α → Hs → RS) (N : Sl → Hs → Prop) (Q : D → Hs → Prop) (X : QX) : (lift r ds k).wp N Q X = r.wp (fun a h => (k a h).wp N Q X) X := by cases r <;> rfl
theorem R.wp_mono {α : Type} {r : R α} {Q Q' : α → Hs → Prop} {X X' : QX} (w : r.wp Q X) (f : ∀ a h, Q a h → Q' a h) (g : ∀ c h, X c h → X' c h) : r.wp Q' X' := by
  cases r with
  | ok a h => exact f a h w
  | exc c h => exact g c h w
  | bad => exact w
theorem RS.wp_mono {r : RS} {N N' : Sl → Hs → Prop} {Q Q' : D → Hs → Prop} {X X' : QX} (w : r.wp N Q X) (e : ∀ ds h, N ds h → N' ds h) (f : ∀ a h, Q a h → Q' a h) (g : ∀ c h, X c h → X' c h) : r.wp N' Q' X' := by
  cases r with
  | nx ds h => exact e ds h w
  | rt a h => exact f a h w
  | exc c ds h => exact g c h w
  | bk _ _ => exact w
  | ct _ _ => exact w
  | bad => exact w
/-- a told end -/
theorem R.wp_eq {α : Type} {r : R α} {a : α} {h : Hs} : r.wp (fun a' h' => a' = a ∧ h' = h) xF ↔ r = .ok a h := by
  cases r with
  | ok a' h' => exact ⟨fun ⟨e1, e2⟩ => by rw [e1, e2], fun e => by cases e; exact ⟨rfl, rfl⟩⟩
  | exc c h => exact ⟨fun e => e.elim, fun e => nomatch e⟩
  | bad => exact ⟨fun e => e.elim, fun e => nomatch e⟩
theorem R.wp_ex {α : Type} {r : R α} {Q : α → Hs → Prop} (w : r.wp Q xF) : ∃ a h, r = .ok a h ∧ Q a h := by
  cases r with
  | ok a h => exact ⟨a, h, rfl, w⟩
  | exc c h => exact w.elim
  | bad => exact w.elim
section
variable {N : Sl → Hs → Prop} {Q : D → Hs → Prop} {X : QX} {ds : Sl} {h : Hs}
@[simp] theorem wp_c (d : D) : (cM d ds h).wp Q X = Q d h := rfl
theorem wp_v (i : Nat) : (vM i ds h).wp Q X = (match ds[i]? with | some (some d) => Q d h | _ => False) := by
  unfold vM
  rcases ds[i]? with _ | _ | d <;> rfl
@[simp] theorem wp_ofO (o : Res) : (R.ofO o).wp Q X = (match o with | some p => Q p.1 p.2 | none => False) := by cases o <;> rfl
@[simp] theorem wp_bin (F : VF2) (A B : EM) : (binM F A B ds h).wp Q X = (A ds h).wp (fun x h => (B ds h).wp (fun y h => (R.ofO (F x y h)).wp Q X) X) X := by simp only [binM, wp_bind]
@[simp] theorem wp_un (F : D → Hs → Res) (A : EM) : (unM F A ds h).wp Q X = (A ds h).wp (fun x h => (R.ofO (F x h)).wp Q X) X := by simp only [unM, wp_bind]
@[simp] theorem wp_nilA {P : List D → Hs → Prop} : (nilA ds h).wp P X = P [] h := rfl
@[simp] theorem wp_consA {P : List D → Hs → Prop} (A : EM) (B : AM) : (consA A B ds h).wp P X = (A ds h).wp (fun x h => (B ds h).wp (fun xs h => P (x :: xs) h) X) X := by simp only [consA, wp_bind, wp_ok]
@[simp] theorem wp_arg (F : List D → Hs → Res) (A : AM) : (argM F A ds h).wp Q X = (A ds h).wp (fun xs h => (R.ofO (F xs h)).wp Q X) X := by simp only [argM, wp_bind]
@[simp] theorem wp_call (φ : Fm) (A : AM) : (callM φ A ds h).wp Q X = (A ds h).wp (fun xs h => (φ xs h).wp Q X) X := by simp only [callM, wp_bind]
@[simp] theorem wp_mt (ck : D → Hs → Bool) (F : D → List D → Hs → Res) (O : EM) (A : AM) : (mtMc ck F O A ds h).wp Q X = (O ds h).wp (fun d h => ck d h = true ∧ (A ds h).wp (fun xs h => (R.ofO (F d xs h)).wp Q X) X) X := by
  simp only [mtMc, wp_bind]
  congr 1
  funext d h
  by_cases c : ck d h = true
  · simp [c]
  · simp [c]
@[simp] theorem wp_ifE (T : TM) (A B : EM) : (ifE T A B ds h).wp Q X = (T ds h).wp (fun b h => if b = true then (A ds h).wp Q X else (B ds h).wp Q X) X := by
  simp only [ifE, wp_bind]
  congr 1
  funext b h
  split <;> rfl
@[simp] theorem wp_sl (A : EM) (lo hi : OM) : (slM A lo hi ds h).wp Q X = (A ds h).wp (fun d h => (lo ds h).wp (fun l h => (hi ds h).wp (fun u h => (R.ofO (slF d l u h)).wp Q X) X) X) X := by simp only [slM, wp_bind]
@[simp] theorem wp_noP {P : Option Int → Hs → Prop} : (noP ds h).wp P X = P none h := rfl
@[simp] theorem wp_someP {P : Option Int → Hs → Prop} (A : EM) : (someP A ds h).wp P X = (A ds h).wp (fun d h => match d with | .int i => P (some i) h | _ => False) X := by
  simp only [someP, wp_bind]
  congr 1
  funext d h
  cases d <;> rfl
def isBl (d : D) (P : Bool → Prop) : Prop := match d with
  | .bl b => P b
  | _ => False
@[simp] theorem isBl_bl (b : Bool) (P : Bool → Prop) : isBl (.bl b) P = P b := rfl
@[simp] theorem wp_tb {P : Bool → Hs → Prop} (A : EM) : (tbM A ds h).wp P X = (A ds h).wp (fun d h => isBl d fun b => P b h) X := by
  simp only [tbM, wp_bind]
  congr 1
  funext d h
  cases d <;> rfl
@[simp] theorem wp_tru {P : Bool → Hs → Prop} (A : EM) : (truM A ds h).wp P X = (A ds h).wp (fun d h => match truD d h with | some b => P b h | none => False) X := by
  simp only [truM, wp_bind]
  congr 1
  funext d h
  cases truD d h <;> rfl
@[simp] theorem wp_yes {P : Bool → Hs → Prop} : (yesM ds h).wp P X = P true h := rfl
@[simp] theorem wp_and {P : Bool → Hs → Prop} (A B : TM) : (andM A B ds h).wp P X = (A ds h).wp (fun b h => if b = true then (B ds h).wp P X else P false h) X := by
  simp only [andM, wp_bind]
  congr 1
  funext b h
  split <;> rfl
@[simp] theorem wp_or {P : Bool → Hs → Prop} (A B : TM) : (orM A B ds h).wp P X = (A ds h).wp (fun b h => if b = true then P true h else (B ds h).wp P X) X := by
  simp only [orM, wp_bind]
  congr 1
  funext b h
  split <;> rfl
@[simp] theorem wp_not {P : Bool → Hs → Prop} (A : TM) : (notM A ds h).wp P X = (A ds h).wp (fun b h => P (!b) h) X := by simp only [notM, wp_bind, wp_ok]
@[simp] theorem wp_andV (A B : EM) : (andV A B ds h).wp Q X = (A ds h).wp (fun d h => isBl d fun b => if b = true then (B ds h).wp Q X else Q (.bl false) h) X := by
  simp only [andV, wp_bind]
  congr 1
  funext d h
  cases d with
  | bl b => simp only [isBl]; split <;> rfl
  | _ => rfl
@[simp] theorem wp_orV (A B : EM) : (orV A B ds h).wp Q X = (A ds h).wp (fun d h => isBl d fun b => if b = true then Q (.bl true) h else (B ds h).wp Q X) X := by
  simp only [orV, wp_bind]
  congr 1
  funext d h
  cases d with
  | bl b => simp only [isBl]; split <;> rfl
  | _ => rfl
@[simp] theorem wp_notV (A : EM) : (notV A ds h).wp Q X = (A ds h).wp (fun d h => isBl d fun b => Q (.bl (!b)) h) X := by
  simp only [notV, wp_bind]
  congr 1
  funext d h
  cases d <;> rfl
@[simp] theorem wp_chain (F G : VF2) (A B C : EM) : (chainM F G A B C ds h).wp Q X = (A ds h).wp (fun x h => (B ds h).wp (fun y h => (R.ofO (F x y h)).wp (fun z h => isBl z fun b => if b = true then (C ds h).wp (fun w h => (R.ofO (G y w h)).wp Q X) X else Q (.bl false) h) X) X) X := by
  simp only [chainM, wp_bind]
  congr 1
  funext x h
  congr 1
  funext y h
  congr 1
  funext z h
  cases z with
  | bl b => simp only [isBl]; split <;> simp only [wp_bind, wp_ok]
  | _ => rfl
@[simp] theorem ws_pass : (passM ds h).wp N Q X = N ds h := rfl
@[simp] theorem ws_seq (A B : SM) : (seqM A B ds h).wp N Q X = (A ds h).wp (fun ds h => (B ds h).wp N Q X) Q X := by
  unfold seqM
  cases e : A ds h <;> rfl
@[simp] theorem ws_set (i : Nat) (A : EM) : (setM i A ds h).wp N Q X = (A ds h).wp (fun d h => N (ds.set i (some d)) h) X := by simp only [setM, ws_lift]; rfl
@[simp] theorem ws_expr (A : EM) : (exprM A ds h).wp N Q X = (A ds h).wp (fun _ h => N ds h) X := by simp only [exprM, ws_lift]; rfl
@[simp] theorem ws_ret (A : EM) : (retM A ds h).wp N Q X = (A ds h).wp Q X := by simp only [retM, ws_lift]; rfl
@[simp] theorem ws_retN : (retN ds h).wp N Q X = Q .non h := rfl
@[simp] theorem ws_raise (c : Str) : (raiseM c ds h).wp N Q X = X c h := rfl
@[simp] theorem ws_if (T : TM) (A B : SM) : (ifM T A B ds h).wp N Q X = (T ds h).wp (fun b h => if b = true then (A ds h).wp N Q X else (B ds h).wp N Q X) X := by
  simp only [ifM, ws_lift]
  congr 1
  funext b h
  split <;> rfl
@[simp] theorem ws_asg (A : EM) (T : GM) : (asgM A (okG T) ds h).wp N Q X = (A ds h).wp (fun d h => (T d ds h).wp N (fun _ _ => False) xF) X := by
  simp only [asgM, ws_lift]
  congr 1
  funext d h
  unfold okG
  cases T d ds h <;> rfl
@[simp] theorem ws_nameG (i : Nat) (d : D) {Qr : D → Hs → Prop} : (nameG i d ds h).wp N Qr X = N (ds.set i (some d)) h := rfl
@[simp] theorem ws_nilG {Qr : D → Hs → Prop} : (nilG [] ds h).wp N Qr X = N ds h := rfl
@[simp] theorem ws_consG (T : GM) (U : List D → Sl → Hs → RS) (d : D) (xs : List D) : (consG T U (d :: xs) ds h).wp N (fun _ _ => False) xF = (T d ds h).wp (fun ds h => (U xs ds h).wp N (fun _ _ => False) xF) (fun _ _ => False) xF := by
  show (match T d ds h with | .nx ds h => U xs ds h | _ => .bad).wp N (fun _ _ => False) xF = _
  cases T d ds h <;> rfl
@[simp] theorem ws_tupG (n : Nat) (U : List D → Sl → Hs → RS) (xs : List D) {Qr : D → Hs → Prop} : (tupG n U (.tup xs) ds h).wp N Qr X = (xs.length = n ∧ (U xs ds h).wp N Qr X) := by
  unfold tupG
  simp only
  split
  · rename_i c; simp [c]
  · rename_i c; simp only [c, false_and]; rfl
@[simp] theorem ws_setIx (F : D → D → D → Hs → Option Hs) (V O I : EM) : (setIxM F V O I ds h).wp N Q X = (V ds h).wp (fun v h => (O ds h).wp (fun o h => (I ds h).wp (fun i h => match F o i v h with | some h' => N ds h' | none => False) X) X) X := by
  simp only [setIxM, ws_lift]
  congr 1; funext v h
  congr 1; funext o h
  congr 1; funext i h
  cases F o i v h <;> rfl
/-- a loop with what holds ahead of each turn -/
theorem ws_loop {gd : Hs → Prop} {T : GM} {B : SM} (its : List D) (J : Nat → Sl → Hs → Prop) (start : J 0 ds h) (guard : ∀ i ds h, J i ds h → gd h)
    (turn : ∀ i d ds h, its[i]? = some d → J i ds h → (T d ds h).wp (fun ds h => (B ds h).wp (J (i + 1)) Q X) (fun _ _ => False) xF) (done : ∀ ds h, J its.length ds h → N ds h) : (loopM gd T B its ds h).wp N Q X := by
  have gen : ∀ (r : List D) (k : Nat) (ds : Sl) (h : Hs), its.drop k = r → k ≤ its.length → J k ds h → (loopM gd T B r ds h).wp N Q X := by
    intro r
    induction r with
    | nil =>
      intro k ds h e hk j
      have : k = its.length := by have := congrArg List.length e; simp at this; omega
      subst this
      unfold loopM
      rw [if_pos (guard _ _ _ j)]
      exact done ds h j
    | cons d r ih =>
      intro k ds h e hk j
      have hlt : k < its.length := by
        by_cases c : k < its.length
        · exact c
        · rw [List.drop_eq_nil_of_le (by omega)] at e; cases e
      rw [List.drop_eq_getElem_cons hlt] at e
      injection e with e1 e2
      have t := turn k d ds h (by rw [List.getElem?_eq_getElem hlt, e1]) j
      unfold loopM
      rw [if_pos (guard _ _ _ j)]
      cases q : T d ds h with
      | nx ds1 h1 =>
        rw [q] at t
        have t : (B ds1 h1).wp (J (k + 1)) Q X := t
        simp only
        cases q2 : B ds1 h1 with
        | nx ds2 h2 => rw [q2] at t; exact ih (k + 1) ds2 h2 e2 hlt t
        | rt d h2 => rw [q2] at t; exact t
        | exc c ds2 h2 => rw [q2] at t; exact t
        | bk _ _ => rw [q2] at t; exact t.elim
        | ct _ _ => rw [q2] at t; exact t.elim
        | bad => rw [q2] at t; exact t.elim
      | _ => rw [q] at t; exact (show False from t).elim
  exact gen its 0 ds h rfl (Nat.zero_le _) start
@[simp] theorem ws_for (I : IM) (T : GM) (B : SM) : (forM I T B ds h).wp N Q X = (I ds h).wp (fun p h => (loopM p.2 T B p.1 ds h).wp N Q X) X := by simp only [forM, ws_lift]
@[simp] theorem wp_valI {P : List D × (Hs → Prop) → Hs → Prop} (A : EM) : (valI A ds h).wp P X = (A ds h).wp (fun d h => match itsF d h with | some p => P p h | none => False) X := by
  simp only [valI, wp_bind]
  congr 1; funext d h
  cases itsF d h <;> rfl
@[simp] theorem wp_rngI {P : List D × (Hs → Prop) → Hs → Prop} (F : List D → Option (List D)) (A : AM) : (rngI F A ds h).wp P X = (A ds h).wp (fun xs h => match F xs with | some its => P (its, fun _ => True) h | none => False) X := by
  simp only [rngI, wp_bind]
  congr 1; funext d h
  cases F d <;> rfl
/-- a while with what holds and what falls -/
theorem ws_while {T : TM} {B : SM} (J : Nat → Sl → Hs → Prop) (n k : Nat) (hk : k < n) (start : J k ds h)
    (turn : ∀ k ds h, J k ds h → (T ds h).wp (fun b h => if b = true then (B ds h).wp (fun ds h => ∃ j, j < k ∧ J j ds h) Q X else N ds h) X) : (whileM T B n ds h).wp N Q X := by
  induction n generalizing k ds h with
  | zero => omega
  | succ n ih =>
    have t := turn k ds h start
    unfold whileM
    rw [ws_lift]
    refine R.wp_mono t (fun b h1 w => ?_) (fun _ _ x => x)
    cases b with
    | true =>
      rw [if_pos rfl] at w ⊢
      cases q : B ds h1 with
      | nx ds2 h2 => rw [q] at w; obtain ⟨j, hj, w⟩ := w; exact ih j (by omega) w
      | rt d h2 => rw [q] at w; exact w
      | exc c ds2 h2 => rw [q] at w; exact w
      | bk _ _ => rw [q] at w; exact w.elim
      | ct _ _ => rw [q] at w; exact w.elim
      | bad => rw [q] at w; exact w.elim
    | false => rw [if_neg Bool.false_ne_true] at w ⊢; exact w
theorem wp_run (np nN : Nat) (M : SM) (xs : List D) : (runM np nN M xs h).wp Q X = (xs.length = np ∧ (M (startD nN xs) h).wp (fun _ h => Q .non h) Q X) := by
  unfold runM
  by_cases c : xs.length = np
  · rw [if_pos c]
    simp only [c, true_and]
    cases M (startD nN xs) h <;> rfl
  · rw [if_neg c]; simp [c]
theorem wp_pure (φ : Fm) (xs : List D) : (kPure.f φ xs h).wp Q X = (φ xs h).wp (fun d h' => (noloc d = true ∧ h'.take h.length = h) ∧ Q d h) (fun c h' => h'.take h.length = h ∧ X c h) := by
  show (nPure φ xs h).wp Q X = _
  unfold nPure
  cases φ xs h with
  | ok d h' =>
    simp only [wp_ok]
    split
    · rename_i c; simp [c]
    · rename_i c; simp [c]
  | exc c h' =>
    simp only [wp_exc]
    split
    · rename_i c; simp [c]
    · rename_i c; simp [c]
  | bad => rfl
end
end DV
namespace DV
open PySem PySem.Spec PyProof.Rows L2
section
variable {h : Hs} {i j : Int} {a b : Str} {xs ys : List D}
@[simp] theorem add_int : addF (.int i) (.int j) h = some (.int (i + j), h) := rfl
@[simp] theorem add_strs : addF (.str a) (.str b) h = if a.length + b.length ≤ LIM then some (.str (a ++ b), h) else none := rfl
@[simp] theorem add_tup : addF (.tup xs) (.tup ys) h = if xs.length + ys.length ≤ LIM then some (.tup (xs ++ ys), h) else none := rfl
@[simp] theorem sub_int : subF (.int i) (.int j) h = some (.int (i - j), h) := rfl
@[simp] theorem mul_int' : mulF (.int i) (.int j) h = if cMul i j = true then some (.int (i * j), h) else none := rfl
@[simp] theorem mul_strn : mulF (.str a) (.int j) h = if cB (-1000000 ≤ j ∧ j ≤ 1000000 ∧ a.length ≤ 1000000 ∧ a.length * j.toNat ≤ LIM) = true then some (.str (repS a j.toNat), h) else none := rfl
theorem ipF_int {C : Int → Int → Bool} {g : Int → Int → Int} : ipF C g (.int i) (.int j) h = if C i j = true then some (.int (g i j), h) else none := by
  unfold ipF intF
  simp only
  split <;> rfl
@[simp] theorem mod_int' : modF (.int i) (.int j) h = if cMod i j = true then some (.int (i % j), h) else none := ipF_int
@[simp] theorem fdiv_int : fdivF (.int i) (.int j) h = if cDiv i j = true then some (.int (i / j), h) else none := ipF_int
@[simp] theorem pow_int : powF (.int i) (.int j) h = if cPow i j = true then some (.int (i ^ j.toNat), h) else none := ipF_int
theorem cMul_r (h1 : -18446744073709551616 < j) (h2 : j < 18446744073709551616) : cMul i j = true := cB_of (.inr ⟨h1, h2⟩)
theorem cMod_of (h1 : 0 < j) : cMod i j = true := cB_of h1
theorem cDiv_of (h1 : 0 < j) (h2 : j < 1073741824) : cDiv i j = true := cB_of ⟨h1, h2⟩
theorem cPow_of (h1 : 0 ≤ j) (h2 : j ≤ 1000000) (h3 : i.natAbs < 18446744073709551616) : cPow i j = true := cB_of ⟨h1, h2, h3⟩
@[simp] theorem lt_int : ltF (.int i) (.int j) h = some (.bl (decide (i < j)), h) := rfl
@[simp] theorem le_int' : leF (.int i) (.int j) h = some (.bl (decide (i ≤ j)), h) := rfl
@[simp] theorem gt_int : gtF (.int i) (.int j) h = some (.bl (decide (j < i)), h) := rfl
@[simp] theorem ge_int : geF (.int i) (.int j) h = some (.bl (decide (j ≤ i)), h) := rfl
@[simp] theorem neg_int : negF (.int i) h = some (.int (-i), h) := rfl
@[simp] theorem tup_F : tupF xs h = if xs.length ≤ LIM then some (.tup xs, h) else none := rfl
@[simp] theorem lst_F : lstF xs h = if xs.length ≤ LIM then some (.loc h.length, h ++ [.lst xs]) else none := rfl
@[simp] theorem le_LIM {n : Nat} : (n ≤ LIM) = (n ≤ 16777216) := rfl
@[simp] theorem lt_LIM {n : Nat} : (n < LIM) = (n < 16777216) := rfl
theorem eq_of {d e : D} (a : pyOk d = true) (b : pyOk e = true) (z : depD d ≤ 190) [Decidable (d = e)] : eqF d e h = some (.bl (decide (d = e)), h) := by
  unfold eqF; rw [eqB_of a b z, Option.map_some]; congr
theorem ne_of' {d e : D} (a : pyOk d = true) (b : pyOk e = true) (z : depD d ≤ 190) [Decidable (d = e)] : neF d e h = some (.bl (!decide (d = e)), h) := by
  unfold neF; rw [eqB_of a b z, Option.map_some]; congr
open Classical in
@[simp] theorem eq_int : eqF (.int i) (.int j) h = some (.bl (decide (i = j)), h) := by rw [eq_of rfl rfl (Nat.zero_le _)]; simp
open Classical in
@[simp] theorem ne_int' : neF (.int i) (.int j) h = some (.bl (!decide (i = j)), h) := by rw [ne_of' rfl rfl (Nat.zero_le _)]; simp
@[simp] theorem eq_bool' {c d : Bool} : eqF (.bl c) (.bl d) h = some (.bl (c == d), h) := by simp [eqF, eqB, lenNe, pyH, pyW, PyData.canLay0, PyData.depth, PyData.eqv]
@[simp] theorem ne_bool' {c d : Bool} : neF (.bl c) (.bl d) h = some (.bl (!(c == d)), h) := by simp [neF, eqB, lenNe, pyH, pyW, PyData.canLay0, PyData.depth, PyData.eqv]
open Classical in
theorem eq_strs (ha : PyData.strOk a = true) (hb : PyData.strOk b = true) : eqF (.str a) (.str b) h = some (.bl (decide (a = b)), h) := by rw [eq_of (by unfold pyOk; exact ha) (by unfold pyOk; exact hb) (Nat.zero_le _)]; simp
open Classical in
theorem ne_strs (ha : PyData.strOk a = true) (hb : PyData.strOk b = true) : neF (.str a) (.str b) h = some (.bl (!decide (a = b)), h) := by rw [ne_of' (by unfold pyOk; exact ha) (by unfold pyOk; exact hb) (Nat.zero_le _)]; simp
@[simp] theorem ix_tup' : ixF (.tup xs) (.int i) h = (atI xs i).map fun d => (d, h) := rfl
@[simp] theorem ix_str' : ixF (.str a) (.int i) h = if a.length ≤ LIM then (atI a.cps.toList i).map (fun c => (.str ⟨#[c]⟩, h)) else none := rfl
@[simp] theorem len_tup : lenF [.tup xs] h = some (.int xs.length, h) := rfl
@[simp] theorem len_ro {ns : List Int} : lenF [.ro ns] h = some (.int ns.length, h) := rfl
@[simp] theorem len_str' : lenF [.str a] h = if a.length ≤ LIM then some (.int a.length, h) else none := rfl
theorem ix_lst {l : Nat} (e : h[l]? = some (.lst xs)) : ixF (.loc l) (.int i) h = (atI xs i).map fun d => (d, h) := by simp [ixF, e]
theorem len_lst {l : Nat} (e : h[l]? = some (.lst xs)) : lenF [.loc l] h = some (.int xs.length, h) := by simp [lenF, e]
theorem its_lst {l : Nat} (e : h[l]? = some (.lst xs)) : itsF (.loc l) h = some (xs, fun h => h[l]? = some (.lst xs)) := by simp [itsF, e]
@[simp] theorem its_tup : itsF (.tup xs) h = some (xs, fun _ => True) := rfl
@[simp] theorem its_str : itsF (.str a) h = some (a.cps.toList.map fun c => .str ⟨#[c]⟩, fun _ => True) := rfl
@[simp] theorem its_ro {ns : List Int} : itsF (.ro ns) h = some (ns.map D.int, fun _ => True) := rfl
@[simp] theorem in_sign {c : Nat} : inF (.str ⟨#[c]⟩) (.str b) h = some (.bl (decide (c ∈ b.cps.toList)), h) := rfl
@[simp] theorem nin_sign {c : Nat} : ninF (.str ⟨#[c]⟩) (.str b) h = some (.bl (!decide (c ∈ b.cps.toList)), h) := rfl
theorem atI_nat {α : Type} {zs : List α} {k : Nat} (hk : k < zs.length) : atI zs (k : Int) = zs[k]? := by
  unfold atI ixN
  simp [hk]
theorem pw62 : (2 : Int) ^ 62 = 4611686018427387904 := by decide +kernel
theorem inR_of (h1 : -1000000000000 ≤ j) (h2 : j ≤ 1000000000000) : inR j = true := by
  unfold inR
  rw [pw62]
  exact cB_of ⟨by omega, by omega⟩
@[simp] theorem rng1_int : rng1 [.int j] = if inR j = true then some ((List.range j.toNat).map fun (i : Nat) => .int (i : Int)) else none := rfl
@[simp] theorem rng2_int : rng2 [.int i, .int j] = if inR i = true ∧ inR j = true then some ((List.range (j - i).toNat).map fun (k : Nat) => .int (i + (k : Int))) else none := rfl
end
section
variable {h r : Hs} {o : AO} {l k : Nat}
theorem get_app (e : h[l]? = some o) : (h ++ r)[l]? = some o := by
  obtain ⟨q, _⟩ := List.getElem?_eq_some_iff.mp e
  rw [List.getElem?_append_left q]; exact e
@[simp] theorem get_new : (h ++ r)[h.length + k]? = r[k]? := by rw [List.getElem?_append_right (by omega)]; congr 1; omega
@[simp] theorem get_new0 : (h ++ r)[h.length]? = r[0]? := by rw [List.getElem?_append_right (by omega)]; congr 1; omega
@[simp] theorem set_new : (h ++ r).set (h.length + k) o = h ++ r.set k o := (List.set_append_right _ _ (by omega)).trans (by rw [Nat.add_sub_cancel_left])
@[simp] theorem set_new0 : (h ++ r).set h.length o = h ++ r.set 0 o := (List.set_append_right _ _ (Nat.le_refl _)).trans (by rw [Nat.sub_self])
end
end DV
namespace DV
open PySem PySem.Spec PyProof.Rows L2
structure ExcF (K : PySem.W.Frag) (mg : Str → Option Value) (c : Str) : Prop where
  q : PySem.W.excIn K (He.ga K c) He.veBase "ValueError.__new__" = true
  g : mg c = some (.ref (He.ga K c))
  k : PySem.W.keepIn K (.ref (He.ga K c)) = true
  b : PySem.W.subIn K (.ref (He.ga K c)) (.type "BaseException") = some true
  t : PySem.W.typeIn K (.ref (He.ga K c)) = some (.type "type")
section
variable {X : Cx} {g : Cfg} {c m : Str} {j : Option Str} {p p2 pos pos' : Pos}
theorem sm_raise {jj} (E : ExcF X.K X.mg c) (hK : X.K = g.K) (hc : X.calm = true) (tk : Takes X g.W) (hg : Gl X c) (hdb : (c == ("__debug__" : Str)) = false := by decide) : PS X (.Raise (some (.Call (.Name c p) [.Constant (.str m) jj p2] [] pos)) none pos') (tS g (raiseM c)) := by
  refine PS.weak (ps_raise hc tk (pmk_own PySem.F.excBase_ValueError E.q E.g E.k (raises_own E.b E.t) hg hdb)) fun N σ H ⟨m, ds, h, hs, rh, o⟩ => ?_
  rw [hK]
  exact o σ m H (.refl _ _) hs rh
end
end DV
namespace DV
open PySem PySem.Spec PyProof.Rows L2
/-- the tuple at a, each item in a new pair with jts number -/
def Itm (K : PySem.W.Frag) (a : Addr) : It where
  go := fun i H => ∃ (xs : List V) (x : V), SqT K H a xs ∧ xs[i]? = some x
  yld := fun i H v H' => ∃ T x, v = .ref T ∧ H T = none ∧ H' = upd H T (.tup [.int (i : Nat), x]) ∧ ∀ xs, SqT K H a xs → xs[i]? = some x
  stop := fun i H => ∃ xs : List V, SqT K H a xs ∧ xs.length ≤ i
theorem enum_apart {h : Heap} {e it a : Addr} {c : Int} {old : Value} {items : Array Value} (he : IsEnum h e it c old) (ha : h.IsTuple a items) : e ≠ a := by
  rintro rfl
  obtain ⟨o, ho, hc, _⟩ := ha
  have he : h.get? e = some _ := he
  rw [he] at ho
  cases ho
  injection hc with z
  exact absurd z (by decide)
theorem turn_enumT {P : Program} {w : World} {K : PySem.W.Frag} {elts : List Expr} {kk : Nat} {tpos : Pos} (a e it : Addr) :
    Turn P w K (.Tuple elts kk tpos) (Itm K a) [e, it] e (fun i h => (∃ old, IsEnum h e it (i : Nat) old) ∧ h.IsTupleIter it a i ∧ e ≠ it ∧ a ≠ it) where
  mem := List.mem_cons_self
  obj := by
    rintro i h ⟨⟨old, he⟩, ⟨o, ho, hc, hd⟩, _⟩ b hb
    rcases List.mem_cons.mp hb with rfl | hb
    · exact ⟨_, he, fun v q => nomatch q⟩
    · cases List.mem_singleton.mp hb
      exact ⟨o, ho, fun v q => by rw [hd] at q; cases q⟩
  keep := by
    rintro i h h' ⟨⟨old, he⟩, hi, hne, hna⟩ k
    exact ⟨⟨old, k e (by simp) _ he⟩, hi.at fun o q => k it (by simp) o q, hne, hna⟩
  item := by
    intro X hP hw hK hc i pns s σ H E I hf st hg
    subst hP hw hK
    obtain ⟨⟨old, he⟩, hit, hne, hna⟩ := st
    obtain ⟨xs, x, hq, hx⟩ := hg
    obtain ⟨jts, rv, p, hz⟩ := I.tuple hq
    have p' : s.heap.IsTuple a jts.toArray := p
    obtain ⟨u, hu, ru⟩ := rv.get hx
    have hel : e < s.heap.objs.size := Heap.lt_size he
    have hil : it < s.heap.objs.size := by obtain ⟨_, q, _⟩ := hit; exact Heap.lt_size q
    have hh : X.A.in1.handled = none := I.ok.hd hc
    have D := Draws.tuple (prog := X.prog) (w := X.w) hh it a hna jts.toArray
    have hlt : i < jts.toArray.size := by
      have := (List.getElem?_eq_some_iff.mp hu).1
      simpa using this
    refine wpAny_pyNext_enum_itemD D he ⟨hit, p'⟩ hlt hne (fun q => ?_) fun y h' tk hy ho hst hT hsz hk => ?_
    · rcases List.mem_cons.mp q with q | q
      · exact hne q
      · exact enum_apart he p' (List.mem_singleton.mp q)
    · have ey : y = u := by
        have hy : jts.toArray[i]? = some y := hy
        rw [List.getElem?_toArray, hu] at hy
        exact (Option.some.inj hy).symm
      subst ey
      refine ⟨_, rfl, wpAny_letOwnedTupleGo_enum (s := { s with heap := h', toks := tk + 1 }) ho fun h2 he2 sb => ?_⟩
      have hT2 : h2.get? s.heap.objs.size = some { cls := .type "tuple", data := .seq #[.int i tk, y] } := (sb.2 _ (Nat.ne_of_gt hel)).trans hT
      have new : ObjOk X.prog X.w (upd H s.heap.objs.size (.tup [.int (i : Nat), x])) h2 s.heap.objs.size (.tup [.int (i : Nat), x]) :=
        ⟨by show 2 ≤ sizeLine; decide, [.int i tk, y], .cons ⟨_, rfl⟩ (.cons ru .nil), ⟨_, hT2, rfl, _, rfl⟩⟩
      have I1 : Inv X pns σ (upd H s.heap.objs.size (.tup [.int (i : Nat), x])) { s with heap := h2, toks := tk + 1 } :=
        I.turnedNew (ch := [e, it]) (fun b ob hb q => (sb.2 b (fun z => hb (by simp [z]))).trans (hk b ob (fun z => hb (by simp [z])) (fun z => hb (by simp [z])) q)) hf (Nat.le_refl _) new
      refine ⟨.ref s.heap.objs.size, _, I1, rfl, ⟨_, x, rfl, I.hok.fresh (Nat.le_refl _), rfl, fun ys hy => by rw [I.tuple_inj hy hq]; exact hx⟩, ⟨⟨y, ?_⟩, hst.1.at fun o q => (sb.2 it (Ne.symm hne)).trans q, hne, hna⟩, fun b hb => ?_⟩
      · have e1 : ((i + 1 : Nat) : Int) = (i : Int) + 1 := by omega
        rw [e1]; exact he2
      · have hb' : b < s.heap.objs.size := by
          rcases List.mem_cons.mp hb with rfl | hb
          · exact hel
          · cases List.mem_singleton.mp hb; exact hil
        rw [upd_ne (Nat.ne_of_lt hb')]
        exact (hf b hb).1
  done := by
    intro X hP hw hK hc i pns s σ H E I hf st hg
    subst hP hw hK
    obtain ⟨⟨old, he⟩, hit, hne, hna⟩ := st
    obtain ⟨xs, hq, hx⟩ := hg
    obtain ⟨jts, rv, p, hz⟩ := I.tuple hq
    have p' : s.heap.IsTuple a jts.toArray := p
    obtain ⟨f0, f1, f2, f3, f4, f5⟩ := hf it (by simp)
    have hl := rv.length
    have hh : X.A.in1.handled = none := I.ok.hd hc
    have D : Draws X.prog X.w X.A.in1 it [it, a] 0 (fun _ _ => False) (fun _ h => h.IsTupleIter it a i ∧ h.IsTuple a jts.toArray) := {
      live := fun _ _ st => let ⟨o, ho, _⟩ := st.1; ⟨o, ho⟩
      frame := fun _ _ _ st hk => ⟨st.1.at fun o z => hk it (by simp) o z, st.2.at fun o z => hk a (by simp) o z⟩
      item := fun k s Q E hk => absurd hk (Nat.not_lt_zero _)
      done := fun s Q E st hE => wpAny_nextOf_tuple_end hh st.1 st.2 (by rw [List.getElem?_toArray]; exact List.getElem?_eq_none (by omega)) hE }
    exact wpAny_pyNext_enum_endD D he ⟨hit, p'⟩ fun h' eb => ⟨rfl, I.turned (t' := s.toks) (fun b o hb q => eb b o hb q) f0 f1 f3 f4 f5⟩
  self := fun A i s Q E st h => let ⟨⟨_, he⟩, _⟩ := st; wpAny_pyIter_enum he h
/-- enumerate(t): jts new cells -/
theorem meets_enumT (v : Value) (o : Obj) (G : Heap → Prop) (B : Begins v o G) :
    Meets (Builtin.«enumerate.__new__» ⟨[.type "enumerate", v], []⟩) (fun _ R s => G s.heap ∧ R (.ok (.ret (.ref (s.heap.push o).objs.size)))
      { s with heap := (s.heap.push o).push { cls := .type "enumerate", data := .fields #[.none, .bool false, .ref s.heap.objs.size, rawInt 0, .none, .none] } }) :=
  .of_wp fun prog w A R s h => by
    obtain ⟨hp, gg, dd, tk, os⟩ := s
    obtain ⟨g1, h⟩ := h
    have hsub := sub_enumerate
    have go : ∀ {A' : Around} {E Q : Value → Shared → Prop}, Q (.ref hp.objs.size) ⟨hp.push o, gg, dd, tk, os⟩ → wpAny (model prog w) A' (pyIter v) Q E ⟨hp, gg, dd, tk, os⟩ := fun q => B.iter prog w _ _ ⟨hp, gg, dd, tk, os⟩ _ g1 q
    wp_walk
    refine wpAny_stack_any fun st => wpAny_pure ?_
    split
    · rename_i c _ _ _ _ _
      cases (c == Value.type "enumerate")
      · wp_walk using go
        exact ⟨_, rfl, h⟩
      · wp_walk using go
        exact ⟨_, rfl, h⟩
    · wp_walk using go
      exact ⟨_, rfl, h⟩
theorem call_enumT {P : Program} {w : World} {A : Around} {E Q : Value → Shared → Prop} {s : Shared} {t : Addr} {items : Array Value} (ht : s.heap.IsTuple t items)
    (h : ∀ h', IsEnum h' (s.heap.objs.size + 1) s.heap.objs.size ((0 : Nat) : Int) .none → h'.IsTupleIter s.heap.objs.size t 0 → h'.objs.size = s.heap.objs.size + 2 → (∀ b o, s.heap.get? b = some o → h'.get? b = some o) → Q (.ref (s.heap.objs.size + 1)) { s with heap := h' }) :
    wpAny (model P w) A (call (.type "enumerate") [.ref t]) Q E s := by
  refine callType_new F.called_enumerate (by decide) (F.typeCall_enumerate_1 _) (F.newCall_enumerate_1 _) (fun obj => F.args_object_init_2 obj _) F.entry_enumerate_new (meets_enumT _ _ _ (begins_tuple t items)) ⟨ht, ?_⟩
  have hz := Heap.size_push s.heap { cls := .type "tuple_iterator", data := .fields #[.ref t, .int 0 0] }
  have he := Heap.get?_push_size (s.heap.push { cls := .type "tuple_iterator", data := .fields #[.ref t, .int 0 0] }) (o := { cls := .type "enumerate", data := .fields #[.none, .bool false, .ref s.heap.objs.size, rawInt 0, .none, .none] }) rfl
  show _ ∧ _
  rw [hz] at he ⊢
  exact ⟨⟨_, he, rfl⟩, h _ he ⟨_, Heap.get?_push_of_some _ (Heap.get?_push_size _ rfl), rfl, rfl⟩ (by rw [Heap.size_push, hz]) fun b o x => Heap.get?_push_of_some _ (Heap.get?_push_of_some _ x)⟩
def numD (xs : List D) : List D := xs.zipIdx.map fun p => .tup [.int (p.2 : Nat), p.1]
def enumF (d : D) (h : Hs) : Option (List D × (Hs → Prop)) := match d with
  | .tup ds => some (numD ds, fun _ => True)
  | .loc l => match h[l]? with
    | some (.lst ds) => some (numD ds, fun h => h[l]? = some (.lst ds))
    | _ => none
  | _ => none
def enumI (A : EM) : IM := fun ds h => (A ds h).bind fun d h => match enumF d h with
  | some p => .ok p h
  | none => .bad
theorem numD_get {xs : List D} {i : Nat} {d : D} (e : (numD xs)[i]? = some d) : ∃ x, xs[i]? = some x ∧ d = .tup [.int (i : Nat), x] := by
  unfold numD at e
  rw [List.getElem?_map, List.getElem?_zipIdx] at e
  cases q : xs[i]? with
  | none => rw [q] at e; cases e
  | some x => rw [q] at e; cases e; exact ⟨x, rfl, by simp⟩
theorem numD_len (xs : List D) : (numD xs).length = xs.length := by simp [numD]
section
variable {K : PySem.W.Frag} {p : Addr} {vs : List V} {ds : List D} {m : List Addr} {H : Hp}
theorem pair_rep {h : Hs} {i : Nat} {x : D} {v : V} {T : Addr} (rv : RepV K m H x v) (rh : RepH K m H h) (hT : H T = none) :
    Grow m H m (upd H T (.tup [.int (i : Nat), v])) ∧ RepV K m (upd H T (.tup [.int (i : Nat), v])) (.tup [.int (i : Nat), x]) (.ref T) ∧ RepH K m (upd H T (.tup [.int (i : Nat), v])) h := by
  refine ⟨.put hT, ?_, rh.put hT⟩
  unfold RepV
  exact ⟨T, _, rfl, upd_same, .cons (by unfold RepV; rfl) (.cons (rv.mono (.put hT)) .nil)⟩
theorem isIt_enumT (hp : H p = some (.tup vs)) (rl : RepL K m H ds vs) : IsIt K (Itm K p) (numD ds) (fun _ => True) m H := by
  intro i m' H' h' g' rh' _
  have hp' := g'.tup _ _ hp
  refine ⟨fun d hd => ?_, fun hi => ⟨vs, SqT.of hp', by rw [rl.length]; rw [numD_len] at hi; exact hi⟩⟩
  obtain ⟨x, hx, rfl⟩ := numD_get hd
  obtain ⟨v, hv, rv⟩ := rl.get hx
  refine ⟨⟨vs, v, SqT.of hp', hv⟩, fun y H2 ⟨T, u, ey, hT, eH, q⟩ => ?_⟩
  have := q vs (SqT.of hp')
  rw [hv] at this; cases this
  subst ey eH
  exact pair_rep (rv.mono g') rh' hT
theorem isIt_enumL {l : Nat} (hp : m[l]? = some p) : IsIt K (Ite K p) (numD ds) (fun h => h[l]? = some (.lst ds)) m H := by
  intro i m' H' h' g' rh' hg
  obtain ⟨⟨r, rfl⟩, _, _, _⟩ := g'
  obtain ⟨hlt, _⟩ := List.getElem?_eq_some_iff.mp hp
  have hp' : (m ++ r)[l]? = some p := by rw [List.getElem?_append_left hlt]; exact hp
  obtain ⟨vs, hv, rl⟩ := rh'.lst hp' hg
  refine ⟨fun d hd => ?_, fun hi => ⟨vs, SqL.of hv, by rw [rl.length]; rw [numD_len] at hi; exact hi⟩⟩
  obtain ⟨x, hx, rfl⟩ := numD_get hd
  obtain ⟨v, hw, rv⟩ := rl.get hx
  refine ⟨⟨vs, v, SqL.of hv, hw⟩, fun y H2 ⟨T, u, ey, hT, eH, q⟩ => ?_⟩
  have := q vs (SqL.of hv)
  rw [hw] at this; cases this
  subst ey eH
  exact pair_rep rv rh' hT
end
/-- enumerate of a list or a tuple -/
theorem pi_enumA {X : Cx} {e : Expr} {ta : TA} {p pos tpos : Pos} {elts : List Expr} {kk : Nat} (hg : Gl X "enumerate") (hm : X.mg "enumerate" = none) (ha : PA X [e] ta) (hs : starEach [e] X.env = [(false, eval e X.env)] := by rfl) :
    PI X (.Tuple elts kk tpos) (.Call (.Name "enumerate" p) [e] [] pos) (fun σ H R => ta σ H fun vs H1 => ∃ a, vs = [.ref a] ∧ ((∃ xs, SqL X.K H1 a xs ∧ R (Ite X.K a) H1) ∨ ∃ xs, SqT X.K H1 a xs ∧ R (Itm X.K a) H1)) := by
  refine ⟨fun pns s σ H R I h => ?_⟩
  refine Call_ (ld_blt I hg hm boot_enumerate (PyProof.Rows.callWith_type1 (thn (ha.run pos pns s σ H _ I h) fun us s1 ⟨vs, H1, I1, r1, q1⟩ => ?_) hs rfl))
  obtain ⟨a, rfl, q1⟩ := q1
  obtain ⟨u, rfl, r⟩ := vals1 r1
  cases r
  have cells : ∀ {b : Addr}, b ∈ [s1.heap.objs.size + 1, s1.heap.objs.size] → s1.heap.objs.size ≤ b := fun hb => by
    rcases List.mem_cons.mp hb with rfl | hb
    · exact Nat.le_add_right _ _
    · cases List.mem_singleton.mp hb; exact Nat.le_refl _
  rcases q1 with ⟨xs, hq, q⟩ | ⟨xs, hq, q⟩
  · obtain ⟨jts, rv, p', hz⟩ := I1.list hq
    refine call_enumerate_list p'.isList fun h' he hit hsz hk => wpAny_pyIter_enum he ?_
    exact ⟨s1.heap.objs.size + 1, [s1.heap.objs.size + 1, s1.heap.objs.size], _, _, H1, rfl, I1.kept (t' := s1.toks) hk, turn_enum a (s1.heap.objs.size + 1) s1.heap.objs.size, ⟨⟨.none, he⟩, hit, Nat.succ_ne_self _⟩, fun b hb => I1.fpOk (cells hb) (I1.hok.fresh (cells hb)), q⟩
  · obtain ⟨jts, rv, p', hz⟩ := I1.tuple hq
    have p2 : s1.heap.IsTuple a jts.toArray := p'
    have hlt : a < s1.heap.objs.size := by obtain ⟨o, ho, _⟩ := p2; exact Heap.lt_size ho
    refine call_enumT p2 fun h' he hit hsz hk => wpAny_pyIter_enum he ?_
    exact ⟨s1.heap.objs.size + 1, [s1.heap.objs.size + 1, s1.heap.objs.size], _, _, H1, rfl, I1.kept (t' := s1.toks) hk, turn_enumT a (s1.heap.objs.size + 1) s1.heap.objs.size, ⟨⟨.none, he⟩, hit, Nat.succ_ne_self _, Nat.ne_of_lt hlt⟩, fun b hb => I1.fpOk (cells hb) (I1.hok.fresh (cells hb)), q⟩
theorem im_enum {X : Cx} {g : Cfg} {e : Expr} {A : EM} {p pos tpos : Pos} {elts : List Expr} {kk : Nat} (hK : X.K = g.K) (hg : Gl X "enumerate") (hm : X.mg "enumerate" = none) (he : PE X e (tM g A)) (hs : starEach [e] X.env = [(false, eval e X.env)] := by rfl) :
    PI X (.Tuple elts kk tpos) (.Call (.Name "enumerate" p) [e] [] pos) (tI g (enumI A)) := by
  refine PI.weak (pi_enumA hg hm (pa_cons he pa_nil (by rw [hs] <;> rfl)) hs) fun σ H R ⟨m, ds, h, hs, rh, o⟩ => ⟨m, ds, h, hs, rh, OutE.toI o fun d h1 v m1 H1 g1 r1 rh1 o1 => ?_⟩
  rw [hK]
  cases d with
  | tup xs =>
    unfold RepV at r1
    obtain ⟨p, vs, rfl, hp, rl⟩ := r1
    exact ⟨p, rfl, .inr ⟨vs, SqT.of hp, o1 _ m1 H1 (.refl _ _) rh1 (isIt_enumT hp rl)⟩⟩
  | loc l =>
    unfold RepV at r1
    obtain ⟨p, hp, rfl⟩ := r1
    cases q : h1[l]? with
    | none => simp only [enumF, q] at o1; exact o1.elim
    | some ao =>
      cases ao with
      | lst xs =>
        obtain ⟨vs, hv, rl⟩ := rh1.lst hp q
        simp only [enumF, q] at o1
        exact ⟨p, rfl, .inl ⟨vs, SqL.of hv, o1 _ m1 H1 (.refl _ _) rh1 (isIt_enumL hp)⟩⟩
      | _ => simp only [enumF, q] at o1; exact o1.elim
  | _ => exact (show False from o1).elim
@[simp] theorem wp_enumI {ds : Sl} {h : Hs} {X : QX} {P : List D × (Hs → Prop) → Hs → Prop} (A : EM) : (enumI A ds h).wp P X = (A ds h).wp (fun d h => match enumF d h with | some p => P p h | none => False) X := by
  simp only [enumI, wp_bind]
  congr 1; funext d h
  cases enumF d h <;> rfl
end DV
namespace DV
open PySem PySem.Spec PyProof.Rows L2
section
variable {X : QX} {ds : Sl} {h h0 : Hs} {Q : D → Hs → Prop} {own : List Nat} {I : IM} {T : GM} {C : TM} {A : EM} {gd : Hs → Prop}
@[simp] theorem wp_lc : (lcM own I T C A ds h).wp Q X = (I ds h).wp (fun p h => (lcLoop p.2 h.length T C A (wipeD ds own) p.1 (h ++ [.lst []])).wp Q X) X := by simp only [lcM, wp_bind]
@[simp] theorem wipe_nil : wipeD ds [] = ds := rfl
@[simp] theorem wipe_cons {v : Nat} {vs : List Nat} : wipeD ds (v :: vs) = (wipeD ds vs).set v none := rfl
/-- one turn: what it gives (none: left out), the heap as it is -/
def LcTurn (T : GM) (C : TM) (A : EM) (ds : Sl) (d : D) (o : Option D) (h : Hs) : Prop :=
  (T d ds h).wp (fun ds1 h1 => h1 = h ∧ (C ds1 h).wp (fun b h2 => h2 = h ∧ match o with
    | some y => b = true ∧ (A ds1 h).wp (fun y' h3 => y' = y ∧ h3 = h) xF
    | none => b = false) xF) (fun _ _ => False) xF
theorem lc_loop (its : List D) (fs : List (Option D)) (hl : its.length = fs.length) (acc : List D) (hz : acc.length + its.length ≤ 16777216)
    (g : ∀ acc : List D, gd (h0 ++ [.lst acc])) (turn : ∀ (i : Nat) (d : D) (o : Option D) (acc : List D), its[i]? = some d → fs[i]? = some o → LcTurn T C A ds d o (h0 ++ [.lst acc])) :
    lcLoop gd h0.length T C A ds its (h0 ++ [.lst acc]) = .ok (.loc h0.length) (h0 ++ [.lst (acc ++ fs.filterMap id)]) := by
  induction its generalizing fs acc with
  | nil =>
    have : fs = [] := List.eq_nil_of_length_eq_zero hl.symm
    subst this
    unfold lcLoop
    rw [if_pos (g acc)]
    simp
  | cons d its ih =>
    cases fs with
    | nil => cases hl
    | cons o fs =>
      simp only [List.length_cons] at hl hz
      have t := turn 0 d o acc rfl rfl
      have rest := fun acc' (hz' : acc'.length + its.length ≤ 16777216) => ih fs (by omega) acc' hz' fun i d' o' a e1 e2 => turn (i + 1) d' o' a e1 e2
      unfold lcLoop
      rw [if_pos (g acc)]
      unfold LcTurn at t
      cases q : T d ds (h0 ++ [.lst acc]) with
      | nx ds1 h1 =>
        rw [q] at t
        obtain ⟨rfl, t⟩ := t
        simp only
        cases q2 : C ds1 (h0 ++ [.lst acc]) with
        | ok b h2 =>
          rw [q2] at t
          obtain ⟨rfl, t⟩ := t
          rw [R.noX_ok, R.bind_ok]
          cases o with
          | none =>
            have t : b = false := t
            subst t
            rw [if_neg Bool.false_ne_true, rest acc (by omega)]
            rfl
          | some y =>
            obtain ⟨rfl, t⟩ := t
            rw [if_pos rfl]
            obtain ⟨y', h3, e, rfl, rfl⟩ := R.wp_ex t
            rw [e, R.noX_ok, R.bind_ok]
            have e1 : (h0 ++ [AO.lst acc])[h0.length]? = some (.lst acc) := by simp
            have e2 : (h0 ++ [AO.lst acc]).set h0.length (.lst (acc ++ [y'])) = h0 ++ [.lst (acc ++ [y'])] := by simp
            rw [e1]
            simp only
            rw [if_pos (by show acc.length < 16777216; omega), e2, rest (acc ++ [y']) (by rw [List.length_append]; simp; omega)]
            simp
        | exc c h2 => rw [q2] at t; exact t.elim
        | bad => rw [q2] at t; exact t.elim
      | _ => rw [q] at t; exact (show False from t).elim
theorem lc_map (its ys : List D) (hl : its.length = ys.length) (hz : its.length ≤ 16777216)
    (g : ∀ acc : List D, gd (h0 ++ [.lst acc])) (turn : ∀ (i : Nat) (d y : D) (acc : List D), its[i]? = some d → ys[i]? = some y → LcTurn T C A ds d (some y) (h0 ++ [.lst acc])) :
    lcLoop gd h0.length T C A ds its (h0 ++ [.lst []]) = .ok (.loc h0.length) (h0 ++ [.lst ys]) := by
  have := lc_loop (h0 := h0) (gd := gd) (T := T) (C := C) (A := A) (ds := ds) its (ys.map some) (by simpa using hl) [] (by simpa using hz) g fun i d o acc e1 e2 => by
    rw [List.getElem?_map] at e2
    cases q : ys[i]? with
    | none => rw [q] at e2; cases e2
    | some y => rw [q] at e2; cases e2; exact turn i d y acc e1 q
  rw [this, List.nil_append, List.filterMap_map]
  simp
/-- the test is none: every item gives its image -/
theorem lc_map1 {i : Nat} (its ys : List D) (hl : its.length = ys.length) (hz : its.length ≤ 16777216)
    (g : ∀ acc : List D, gd (h0 ++ [.lst acc])) (turn : ∀ (k : Nat) (d y : D) (acc : List D), its[k]? = some d → ys[k]? = some y → A (ds.set i (some d)) (h0 ++ [.lst acc]) = .ok y (h0 ++ [.lst acc])) :
    lcLoop gd h0.length (nameG i) yesM A ds its (h0 ++ [.lst []]) = .ok (.loc h0.length) (h0 ++ [.lst ys]) :=
  lc_map its ys hl hz g fun k d y acc e1 e2 => ⟨rfl, rfl, rfl, R.wp_eq.mpr (turn k d y acc e1 e2)⟩
end
@[simp] theorem wp_maxd {ds : Sl} {h : Hs} {Q : D → Hs → Prop} {X : QX} (A B : EM) : (maxdF A B ds h).wp Q X = (A ds h).wp (fun d h => (B ds h).wp (fun e h => (maxdR d e h).wp Q X) X) X := by simp only [maxdF, wp_bind]
def maxOr (k : Int) : List Int → Int
  | [] => k
  | n :: ns => maxI n ns
theorem maxd_lst {h : Hs} {l : Nat} {xs : List D} {ns : List Int} {k : Int} (e : h[l]? = some (.lst xs)) (q : intsOf xs = some ns) : maxdR (.loc l) (.int k) h = .ok (.int (maxOr k ns)) h := by
  unfold maxdR
  simp only [e, q]
  cases ns <;> rfl
theorem wp_new {φ : Fm} {xs : List D} {h : Hs} {Q : D → Hs → Prop} {X : QX} (w : (φ xs h).wp (fun d h' => ∃ l o, d = .loc l ∧ h'[l]? = some o ∧ h.length ≤ l ∧ h'.take h.length = h ∧ nolocO o = true ∧ Q (.loc h.length) (h ++ [o])) (fun c h' => h'.take h.length = h ∧ X c h)) : (kNew.f φ xs h).wp Q X := by
  show (nNew φ xs h).wp Q X
  unfold nNew
  cases e : φ xs h with
  | ok d h' =>
    rw [e] at w
    obtain ⟨l, o, rfl, e1, c1, c2, c3, q⟩ := w
    simp only [e1]
    rw [if_pos ⟨c1, c2, c3⟩]
    exact q
  | exc c h' =>
    rw [e] at w
    simp only
    rw [if_pos w.1]
    exact w.2
  | bad => rw [e] at w; exact w
theorem append_lst {h : Hs} {l : Nat} {xs : List D} {v : D} (e : h[l]? = some (.lst xs)) (hz : xs.length < 16777216) : appendF (.loc l) [v] h = some (.non, h.set l (.lst (xs ++ [v]))) := by
  simp [appendF, e, hz]
theorem ck_lst {h : Hs} {l : Nat} {xs : List D} (e : h[l]? = some (.lst xs)) : ckList (.loc l) h = true := by simp [ckList, e]
section
variable {N : Sl → Hs → Prop} {Q : D → Hs → Prop} {X : QX} {ds : Sl} {h h1 : Hs} {d : D}
theorem st_set {i : Nat} {A : EM} {B : SM} (d : D) (h1 : Hs) (e : (A ds h).wp (fun a' h' => a' = d ∧ h' = h1) xF) (w : (B (ds.set i (some d)) h1).wp N Q X) : (seqM (setM i A) B ds h).wp N Q X := by
  rw [ws_seq, ws_set, R.wp_eq.mp e]
  exact w
theorem RS.wp_eq {r : RS} {ds : Sl} {h : Hs} (w : r.wp (fun a b => a = ds ∧ b = h) (fun _ _ => False) xF) : r = .nx ds h := by
  cases r with
  | nx a b => obtain ⟨rfl, rfl⟩ := w; rfl
  | rt _ _ => exact w.elim
  | exc _ _ _ => exact w.elim
  | bk _ _ => exact w.elim
  | ct _ _ => exact w.elim
  | bad => exact w.elim
theorem st_seq {A B : SM} (ds1 : Sl) (h1 : Hs) (e : (A ds h).wp (fun a b => a = ds1 ∧ b = h1) (fun _ _ => False) xF) (w : (B ds1 h1).wp N Q X) : (seqM A B ds h).wp N Q X := by
  rw [ws_seq, RS.wp_eq e]
  exact w
theorem st_if {T : TM} {A B : SM} (b : Bool) (h1 : Hs) (e : (T ds h).wp (fun a' h' => a' = b ∧ h' = h1) xF) (w : if b = true then (A ds h1).wp N Q X else (B ds h1).wp N Q X) : (ifM T A B ds h).wp N Q X := by
  rw [ws_if, R.wp_eq.mp e]
  exact w
end
theorem st_guard {N : Sl → Hs → Prop} {Q : D → Hs → Prop} {X : QX} {ds : Sl} {h : Hs} {T : TM} {A C : SM} (h1 : Hs) (e : (T ds h).wp (fun a' h' => a' = false ∧ h' = h1) xF) (w : (C ds h1).wp N Q X) : (seqM (ifM T A passM) C ds h).wp N Q X := by
  rw [ws_seq, ws_if, R.wp_eq.mp e]
  exact w
end DV
namespace DV
open PySem PySem.Spec PyProof.Rows L2
def dK : Key → D
  | .inl i => .int i
  | .inr s => .str s
def newDM : EM := fun _ h => .ok (.loc h.length) (h ++ [.dct []])
def newTM : EM := fun _ h => .ok (.loc h.length) (h ++ [.dcT []])
/-- a list, a dict written -/
def setAF : D → D → D → Hs → Option Hs
  | .loc l, i, v, h => match h[l]? with
    | some (.lst ds) => (match i with
      | .int i => (ixN ds.length i).map fun j => h.set l (.lst (ds.set j v))
      | _ => none)
    | some (.dct kvs) => if kvs.length < LIM then (keyD i).map fun k => h.set l (.dct (putD kvs k v)) else none
    | some (.dcT kvs) => (match i with
      | .tup ks => if kvs.length < LIM then (keysD ks).map fun k => h.set l (.dcT (putD kvs k v)) else none
      | _ => none)
    | _ => none
  | _, _, _, _ => none
def setdF : D → List D → Hs → Res
  | .loc l, [i, x], h => match h[l]? with
    | some (.dct kvs) => if kvs.length < LIM then (keyD i).map fun k => (match valD kvs k with
      | some v => (v, h)
      | none => (x, h.set l (.dct (putD kvs k x)))) else none
    | _ => none
  | _, _, _ => none
section
variable {K : PySem.W.Frag} {m : List Addr} {H : Hp} {h : Hs} {l : Nat} {a : Addr}
theorem put_dct {kvs kvs0 : List (Key × D)} {ks ks0 : List (Key × V)} (rh : RepH K m H h) (ha : m[l]? = some a) (hv : H a = some (.dK ks0)) (kk : kvs.map (·.1) = ks.map (·.1)) (rk : RepL K m H (kvs.map (·.2)) (ks.map (·.2))) :
    Grow m H m (upd H a (.dK ks)) ∧ RepH K m (upd H a (.dK ks)) (h.set l (.dct kvs)) := by
  have w : Grow m H m (upd H a (.dK ks)) := .write hv (fun _ z => nomatch z) (fun _ _ z => nomatch z) (fun _ z => nomatch z)
  exact ⟨w, rh.write ha hv (fun _ z => nomatch z) (fun _ _ z => nomatch z) (fun _ z => nomatch z) ⟨ks, upd_same, kk, rk.mono w⟩⟩
end
section
variable {X : Cx} {g : Cfg} {pos : Pos}
theorem em_newD : PE X (.Dict [] [] pos) (tM g newDM) := PE.weak pe_dnewK fun σ H Q ⟨m, ds, h, hs, rh, o⟩ p hp =>
  o (.ref p) (m ++ [p]) _ (.app hp) (by unfold RepV; exact ⟨p, by rw [← rh.len]; simp, rfl⟩) (rh.new hp ⟨[], upd_same, rfl, by show RepL g.K _ _ [] []; exact .nil⟩)
theorem s_any (hu : X.A.units + 1 < cLine) : PSet X (rSt X.K setAF) := by
  intro pns s σ H o i v ov iv u Q I ro ri rv h
  obtain ⟨m, hs, od, id, vd, r1, r2, r3, rh, q⟩ := h
  unfold setAF at q
  split at q
  · rename_i l
    unfold RepV at r1
    obtain ⟨a, ha, rfl⟩ := r1
    split at q
    · rename_i xs e
      split at q
      · refine s_list pns s σ H _ _ _ ov iv u Q I ro ri rv ⟨m, hs, .loc l, .int _, vd, by unfold RepV; exact ⟨a, ha, rfl⟩, r2, r3, rh, ?_⟩
        unfold setLF
        simp only [e]
        exact q
      · exact q.elim
    · rename_i kvs e
      obtain ⟨ks, hk, kk, rk⟩ := rh.at_ _ a _ ha e
      split at q
      · rename_i hz
        cases c : keyD id with
        | none => rw [c] at q; exact q.elim
        | some k =>
          rw [c] at q
          have := kV_keyD r2 c
          subst this
          obtain ⟨kk2, rk2⟩ := put_rep k r3 kk rk
          obtain ⟨w, rh2⟩ := put_dct (kvs0 := kvs) rh ha hk kk2 rk2
          cases ro
          have hl : ks.length < sizeLine := by rw [LIM_eq]; have := congrArg List.length kk; simp at this; omega
          exact d_setItem hu I (DPut.k hk hl) ri rv fun s' I' => ⟨_, I', q m _ w rh2⟩
      · exact q.elim
    · rename_i kvs e
      obtain ⟨ks, hk, kk, rk⟩ := rh.at_ _ a _ ha e
      split at q
      · rename_i kd
        split at q
        · rename_i hz
          cases c : keysD kd with
          | none => rw [c] at q; exact q.elim
          | some k =>
            rw [c] at q
            unfold RepV at r2
            obtain ⟨b, xs, rfl, hb, rl⟩ := r2
            have := kV_keysD rl c
            subst this
            obtain ⟨kk2, rk2⟩ := put_rep k r3 kk rk
            have w : Grow m H m (upd H a (.dT (putK ks k v))) := .write hk (fun _ z => nomatch z) (fun _ _ z => nomatch z) (fun _ z => nomatch z)
            have rh2 : RepH X.K m (upd H a (.dT (putK ks k v))) (hs.set l (.dcT (putD kvs k vd))) := rh.write ha hk (fun _ z => nomatch z) (fun _ _ z => nomatch z) (fun _ z => nomatch z) ⟨_, upd_same, kk2, rk2.mono w⟩
            cases ro
            have hl : ks.length < sizeLine := by rw [LIM_eq]; have := congrArg List.length kk; simp at this; omega
            exact d_setItem hu I (DPut.t hk hb hl) ri rv fun s' I' => ⟨_, I', q m _ w rh2⟩
        · exact q.elim
      · exact q.elim
    · exact q.elim
  · exact q.elim
theorem k_setd : MtR X "dict.setdefault" (rMt X.K setdF) := by
  intro pns s σ H x vs v us Q I rx rv h
  obtain ⟨m, hs, d, ds, r1, rl, rh, o⟩ := h
  unfold setdF at o
  split at o
  · rename_i l i y
    unfold RepV at r1
    obtain ⟨a, ha, rfl⟩ := r1
    obtain ⟨v1, v2, rfl, q1, q2⟩ := repL2 rl
    split at o
    · rename_i kvs e
      split at o
      · rename_i hz
        cases c : keyD i with
        | none => rw [c] at o; exact o.elim
        | some k =>
          rw [c, Option.map_some] at o
          obtain ⟨ks, hk, kk, rk⟩ := rh.at_ _ a _ ha e
          obtain ⟨u1, u2, rfl, w1, w2⟩ := vals2 rv
          have := kV_keyD q1 c
          subst this
          cases rx
          obtain ⟨z, hd, ws, rel, dd⟩ := dk_of I.hok hk
          have hz2 : ws.length ≤ sizeLine := by rw [← rel.length]; exact z
          refine call_meetsIn PySem.F.slot_dict_setdefault dd.typeIs PySem.F.entry_dict_setdefault (PySem.F.args_dict_setdefault_3 _ _ _) (kt_meets_setdefault (mixKind X.prog X.w) a (kV_is w1) hd u2) ⟨ws, dd, hz2, fun v' hv' => ?_, fun hn h' dd' hs' => ?_⟩
          · have rr := rel.val k
            rw [hv'] at rr
            rcases valD_rep k kk rk with ⟨p, p2⟩ | ⟨d', v'', p, p2, r⟩
            · rw [p2] at rr; exact rr.elim
            · rw [p2] at rr
              simp only [p] at o
              exact ⟨v'', H, I.tok _, rr, OutV.keep o r rh⟩
          · have rr := rel.val k
            rw [hn] at rr
            rcases valD_rep k kk rk with ⟨p, p2⟩ | ⟨d', v'', p, p2, r⟩
            · simp only [p] at o
              obtain ⟨kk2, rk2⟩ := put_rep k q2 kk rk
              obtain ⟨w, rh2⟩ := put_dct (kvs0 := kvs) rh ha hk kk2 rk2
              have he : ∃ q, h'.get? a = some q := let ⟨q, _, _, hq, _⟩ := dd'; ⟨q, hq⟩
              have hl : (putK ks k v2).length ≤ sizeLine := by
                have l1 := length_putK ks k v2
                rw [LIM_eq]
                have l2 := congrArg List.length kk
                simp at l2
                omega
              exact ⟨v2, _, d_write (t' := s.toks + 1) I (by rw [hk]; exact True.intro) hs' he (dk_new hl hd (rel.put k w2) dd'), w2, o v2 m _ w (q2.mono w) rh2⟩
            · rw [p2] at rr; exact rr.elim
      · exact o.elim
    · exact o.elim
  · exact o.elim
end
end DV
namespace DV
open PySem PySem.Spec PyProof.Rows L2
noncomputable def thawS (l : Nat) (kvs : List (Key × D)) : RS → RS
  | .nx ds h => if cB (h[l]? = some (.fdc kvs)) = true then .nx ds (h.set l (.dct kvs)) else .bad
  | .rt d h => if cB (h[l]? = some (.fdc kvs)) = true then .rt d (h.set l (.dct kvs)) else .bad
  | .exc c ds h => .exc c ds h
  | _ => .bad
theorem thawS_nx {l : Nat} {kvs : List (Key × D)} {ds : Sl} {h : Hs} : thawS l kvs (.nx ds h) = if cB (h[l]? = some (.fdc kvs)) = true then .nx ds (h.set l (.dct kvs)) else .bad := rfl
theorem thawS_rt {l : Nat} {kvs : List (Key × D)} {d : D} {h : Hs} : thawS l kvs (.rt d h) = if cB (h[l]? = some (.fdc kvs)) = true then .rt d (h.set l (.dct kvs)) else .bad := rfl
noncomputable def lockS (i : Nat) (S : SM) : SM := fun ds h => match ds[i]? with
  | some (some (.loc l)) => (match h[l]? with
    | some (.dct kvs) => thawS l kvs (S ds (h.set l (.fdc kvs)))
    | _ => .bad)
  | _ => .bad
section
variable {K : PySem.W.Frag} {m m' : List Addr} {H H' : Hp} {h h' : Hs} {l : Nat} {a : Addr} {kvs : List (Key × D)} {ks : List (Key × V)} {od : Obj}
/-- written, in the weaker sense -/
theorem RepH.write0 {u o : HO} {ao : AO} (r : RepH K m H h) (hl : m[l]? = some a) (w : Grw m H m (upd H a o)) (new : RepO K m (L2.upd H a o) a ao) : RepH K m (L2.upd H a o) (h.set l ao) := by
  refine ⟨by simp [r.len], r.nd, fun i b ob hi hb => ?_⟩
  by_cases z : i = l
  · subst z
    rw [hl] at hi; cases hi
    obtain ⟨q, hq⟩ := List.getElem?_eq_some_iff.mp hb
    simp at q hq
    subst hq
    exact new
  · rw [List.getElem?_set_ne (Ne.symm z)] at hb
    refine (r.at_ i b ob hi hb).keep0 w (upd_ne fun w => z ?_)
    subst w
    obtain ⟨q1, e1⟩ := List.getElem?_eq_some_iff.mp hi
    obtain ⟨q2, e2⟩ := List.getElem?_eq_some_iff.mp hl
    exact (List.getElem_inj r.nd).mp (e1.trans e2.symm)
theorem grw_lock (e : H a = some (.dK ks)) : Grw m H m (upd H a (.frz od (.dK ks))) :=
  ⟨⟨[], by simp⟩, fun b xs q => by rw [upd_ne (fun z => by rw [z, e] at q; cases q)]; exact q, fun b o xs q => by rw [upd_ne (fun z => by rw [z, e] at q; cases q)]; exact q, fun b φ q => by rw [upd_ne (fun z => by rw [z, e] at q; cases q)]; exact q⟩
theorem grw_thaw (e : H a = some (.frz od (.dK ks))) : Grw m H m (upd H a (.dK ks)) :=
  ⟨⟨[], by simp⟩, fun b xs q => by rw [upd_ne (fun z => by rw [z, e] at q; cases q)]; exact q, fun b o xs q => by rw [upd_ne (fun z => by rw [z, e] at q; cases q)]; exact q, fun b φ q => by rw [upd_ne (fun z => by rw [z, e] at q; cases q)]; exact q⟩
theorem RepH.lock (r : RepH K m H h) (ha : m[l]? = some a) (e : h[l]? = some (.dct kvs)) (hk : H a = some (.dK ks)) (kk : kvs.map (·.1) = ks.map (·.1)) (rk : RepL K m H (kvs.map (·.2)) (ks.map (·.2))) :
    RepH K m (upd H a (.frz od (.dK ks))) (h.set l (.fdc kvs)) :=
  RepH.write0 (u := .dK ks) r ha (grw_lock hk) ⟨od, ks, upd_same, kk, rk.mono0 (grw_lock hk)⟩
theorem RepH.thaw (r : RepH K m' H' h') (ha : m'[l]? = some a) (e : h'[l]? = some (.fdc kvs)) (hk : H' a = some (.frz od (.dK ks))) : RepH K m' (upd H' a (.dK ks)) (h'.set l (.dct kvs)) := by
  obtain ⟨o2, ks2, hk2, kk, rk⟩ := r.at_ l a _ ha e
  rw [hk] at hk2
  cases hk2
  exact RepH.write0 (u := .dK ks) r ha (grw_thaw hk) ⟨ks, upd_same, kk, rk.mono0 (grw_thaw hk)⟩
/-- from before the lock to behind it -/
theorem grow_out (e : H a = some (.dK ks)) (g : Grow m (upd H a (.frz od (.dK ks))) m' H') : Grow m H m' (upd H' a (.dK ks)) := by
  have ha : H' a = some (.frz od (.dK ks)) := g.frz _ _ _ upd_same
  refine ⟨g.pre, fun b xs q => ?_, fun b o u q => ?_, fun b φ q => ?_⟩
  · have n : b ≠ a := fun z => by rw [z, e] at q; cases q
    rw [upd_ne n]; exact g.tup _ _ (by rw [upd_ne n]; exact q)
  · have n : b ≠ a := fun z => by rw [z, e] at q; cases q
    rw [upd_ne n]; exact g.frz _ _ _ (by rw [upd_ne n]; exact q)
  · have n : b ≠ a := fun z => by rw [z, e] at q; cases q
    rw [upd_ne n]; exact g.ext _ _ (by rw [upd_ne n]; exact q)
theorem grow_exc (e : H a = some (.dK ks)) (g : Grow m (upd H a (.frz od (.dK ks))) m' H') : Grow m H m' H' := by
  refine ⟨g.pre, fun b xs q => ?_, fun b o u q => ?_, fun b φ q => ?_⟩
  · exact g.tup _ _ (by rw [upd_ne fun z => by rw [z, e] at q; cases q]; exact q)
  · exact g.frz _ _ _ (by rw [upd_ne fun z => by rw [z, e] at q; cases q]; exact q)
  · exact g.ext _ _ (by rw [upd_ne fun z => by rw [z, e] at q; cases q]; exact q)
theorem pre_get {l : Nat} (p : ∃ r, m' = m ++ r) (ha : m[l]? = some a) : m'[l]? = some a := by
  obtain ⟨r, rfl⟩ := p
  rw [List.getElem?_append_left (List.getElem?_eq_some_iff.mp ha).1]; exact ha
end
section
variable {X : Cx} {g : Cfg} {tg e : Expr} {body : List Stmt} {pos : Pos} {S : SM} {T : GM} {i : Nat} {st : Stmt} {A : EM}
theorem sm_lock (h : PS X st (tS g S)) : PS X st (tS g (lockS i S)) := by
  refine PS.weak (ps_lock h) fun N σ H ⟨m, ds, h, hs, rh, o⟩ => ?_
  unfold lockS at o
  split at o
  · rename_i l e1
    split at o
    · rename_i kvs e2
      obtain ⟨v, _, rv⟩ := hs.get e1
      unfold RepV at rv
      obtain ⟨a, ha, rfl⟩ := rv
      obtain ⟨ks, hk, kk, rk⟩ := rh.at_ l a _ ha e2
      refine ⟨a, .dK ks, hk, True.intro, fun od => ⟨m, ds, h.set l (.fdc kvs), hs.mono0 (grw_lock hk), rh.lock ha e2 hk kk rk, ?_⟩⟩
      cases q : S ds (h.set l (.fdc kvs)) with
      | nx ds' h' =>
        rw [q, thawS_nx] at o
        split at o
        · rename_i c
          intro σ' m' H' gg ss rr
          have fr := gg.frz _ _ _ upd_same
          exact ⟨fr, o σ' m' _ (grow_out hk gg) (ss.mono0 (grw_thaw fr)) (rr.thaw (pre_get gg.pre ha) (cB_iff.mp c) fr)⟩
        · exact o.elim
      | rt d h' =>
        rw [q, thawS_rt] at o
        split at o
        · rename_i c
          intro v m' H' gg ss rr
          have fr := gg.frz _ _ _ upd_same
          exact ⟨fr, o v m' _ (grow_out hk gg) (ss.mono0 (grw_thaw fr)) (rr.thaw (pre_get gg.pre ha) (cB_iff.mp c) fr)⟩
        · exact o.elim
      | exc c ds' h' =>
        rw [q] at o
        intro σ' m' H' gg ss rr
        exact o σ' m' H' (grow_exc hk gg) ss rr
      | bk _ _ => rw [q] at o; exact o.elim
      | ct _ _ => rw [q] at o; exact o.elim
      | bad => rw [q] at o; exact o.elim
    · exact o.elim
  · exact o.elim
end
end DV
namespace DV
open PySem PySem.Spec PyProof.Rows L2
theorem tuple_mul1 (l : Addr) (items : Array Value) (n : Nat) (dd : Option Addr) (sl : Array (Option Value)) (x : Int) (u : Tok) (c0 : (decide (x < -(2 ^ 63)) || decide (x ≥ 2 ^ 63)) = false) (c1 : (items.isEmpty || x == 1) = true) :
    Meets (Builtin.«tuple.__mul__» ⟨[.ref l, .int x u], []⟩) (fun _ R s => s.heap.get? l = some { cls := .type "tuple", dict := dd, data := .seq items n, slots := sl } ∧ R (.ok (.ret (Value.ref l))) s) :=
  .of_wp fun prog w A R s h => by
    obtain ⟨hp, g, d, tk, os⟩ := s
    obtain ⟨hl, h⟩ := h
    have f1 := AutoSeq1.idx_int
    wp_walk using wpAny_loadPart' hl
    repeat (first
      | (refine wpAny_ite_false (decide_eq_false (by rw [c0]; exact Bool.false_ne_true)) ?_; wp_walk using wpAny_loadPart' hl)
      | (refine wpAny_ite_true (decide_eq_true c1) ?_; wp_walk using wpAny_loadPart' hl))
    exact ⟨_, rfl, h⟩
theorem tuple_mul0 (l : Addr) (items : Array Value) (n : Nat) (dd : Option Addr) (sl : Array (Option Value)) (x : Int) (u : Tok) (c0 : (decide (x < -(2 ^ 63)) || decide (x ≥ 2 ^ 63)) = false) (c1 : (items.isEmpty || x == 1) = false) (c2 : (decide (x ≤ 0) || items.isEmpty) = true) :
    Meets (Builtin.«tuple.__mul__» ⟨[.ref l, .int x u], []⟩) (fun _ R s => s.heap.get? l = some { cls := .type "tuple", dict := dd, data := .seq items n, slots := sl } ∧
      R (.ok (.ret (Value.ref s.heap.objs.size))) { s with heap := s.heap.push { cls := Value.type "tuple", data := Data.seq #[] }, toks := s.toks }) :=
  .of_wp fun prog w A R s h => by
    obtain ⟨hp, g, d, tk, os⟩ := s
    obtain ⟨hl, h⟩ := h
    have f1 := AutoSeq1.idx_int
    have hsz : (#[] : Array Value).size ≤ sizeLine := by rw [sizeLine_eq]; decide
    wp_walk using wpAny_loadPart' hl
    repeat (first
      | (refine wpAny_ite_false (decide_eq_false (by rw [c0]; exact Bool.false_ne_true)) ?_; wp_walk using wpAny_loadPart' hl)
      | (refine wpAny_ite_false (decide_eq_false (by rw [c1]; exact Bool.false_ne_true)) ?_; wp_walk using wpAny_loadPart' hl)
      | (refine wpAny_ite_true (decide_eq_true c2) ?_; wp_walk using wpAny_loadPart' hl))
    exact ⟨_, rfl, h⟩
def rRepX (K : PySem.W.Frag) : R2 := fun x y H Q => ∃ l k xs, x = .ref l ∧ y = .int k ∧ SqT K H l xs ∧ -1000 ≤ k ∧ k ≤ 1000 ∧ xs.length ≤ 1000 ∧ ((xs = [] ∨ k = 1) → Q (.ref l) H) ∧ ∀ p, H p = none → Q (.ref p) (upd H p (.tup (List.replicate k.toNat xs).flatten))
section
variable {X : Cx}
theorem op_repX : OpR X (binaryOp .Mult) (rRepX X.K) := by
  intro pns s σ H x y v u Q I rx ry h
  obtain ⟨l, k, xs, rfl, rfl, hT, h1, h2, hz, q1, q⟩ := h
  by_cases big : xs ≠ [] ∧ 2 ≤ k
  · exact op_repT pns s σ H _ _ v u Q I rx ry ⟨l, k, xs, rfl, rfl, hT, big.1, big.2, h2, hz, q⟩
  cases rx
  obtain ⟨t, rfl⟩ := ry
  obtain ⟨jts, r, ⟨⟨cls, dd, data, sl⟩, ho, hc, n, hd⟩, hs⟩ := I.tuple hT
  simp only at hc hd
  subst hc hd
  have hle : jts.length = xs.length := r.length.symm
  have c0 : (decide (k < -(2 ^ 63)) || decide (k ≥ 2 ^ 63)) = false := by
    rw [decide_eq_false (by omega), decide_eq_false (by omega)] <;> rfl
  refine wpAny_binaryOp_repeat_ref (T := "tuple") (U := "int") (by decide) ⟨_, ho, rfl⟩ (fun s' => typeIs_int s' k t) noFill_tuple_mul F.fills_int_mul F.slot_int_rmul repeat_tuple F.slot_int_index.lookup
    (call_meets F.slot_int_rmul (typeIs_int s k t) F.entry_int_rmul (F.args_int_rmul_2 _ _) (int_rmul_tuple k t l jts.toArray n dd sl) ⟨ho, rfl, ⟨_, ho, rfl⟩, ?_⟩)
  by_cases z : xs = [] ∨ k = 1
  · have c1 : (jts.toArray.isEmpty || k == 1) = true := by
      rcases z with z | z
      · have : jts = [] := List.eq_nil_of_length_eq_zero (by rw [hle, z]; rfl)
        subst this; rfl
      · subst z; simp
    exact call_meets F.slot_tuple_mul ⟨_, ho, rfl⟩ F.entry_tuple_mul (F.args_tuple_mul_2 _ _) (tuple_mul1 l jts.toArray n dd sl k t c0 c1) ⟨ho, ⟨.ref l, H, I, rfl, q1 z⟩⟩
  · have hn : jts ≠ [] := fun e => z (.inl (List.eq_nil_of_length_eq_zero (by rw [← hle, e]; rfl)))
    have hx : xs ≠ [] := fun e => z (.inl e)
    have hi : jts.toArray.isEmpty = false := by
      cases jts with
      | nil => exact absurd rfl hn
      | cons a b => rfl
    have hk : k ≤ 0 := by
      have : ¬ 2 ≤ k := fun c => big ⟨hx, c⟩
      have : k ≠ 1 := fun c => z (.inr c)
      omega
    have c1 : (jts.toArray.isEmpty || k == 1) = false := by
      rw [hi, Bool.false_or]; exact beq_eq_false_iff_ne.mpr (by omega)
    have c2 : (decide (k ≤ 0) || jts.toArray.isEmpty) = true := by rw [decide_eq_true hk]; rfl
    have e0 : (List.replicate k.toNat xs).flatten = [] := by
      have : k.toNat = 0 := by omega
      rw [this]; rfl
    have q2 := q s.heap.objs.size (I.hok.fresh (Nat.le_refl _))
    rw [e0] at q2
    refine call_meets F.slot_tuple_mul ⟨_, ho, rfl⟩ F.entry_tuple_mul (F.args_tuple_mul_2 _ _) (tuple_mul0 l jts.toArray n dd sl k t c0 c1 c2) ⟨ho, ?_⟩
    refine ⟨.ref s.heap.objs.size, _, I.laid (t' := s.toks) (o := .tup []) (fun b ob q => Heap.get?_push_of_some _ q) (Nat.le_refl _) ?_, rfl, q2⟩
    exact ⟨by rw [sizeLine_eq]; decide, [], .nil, IsTup.new _ _⟩
end
theorem RepL.rep {K : PySem.W.Frag} {m : List Addr} {H : Hp} {ds : List D} {vs : List V} (r : RepL K m H ds vs) : ∀ k : Nat, RepL K m H (List.replicate k ds).flatten (List.replicate k vs).flatten
  | 0 => .nil
  | k + 1 => by
    rw [List.replicate_succ, List.replicate_succ, List.flatten_cons, List.flatten_cons]
    exact r.append (RepL.rep r k)
noncomputable def mulXF : VF2
  | .tup xs, .int k, h => if -1000 ≤ k ∧ k ≤ 1000 ∧ xs.length ≤ 1000 then some (.tup (List.replicate k.toNat xs).flatten, h) else none
  | d, e, h => mulF d e h
theorem o_mulX {X : Cx} : OpR X (binaryOp .Mult) (rV X.K mulXF) := by
  intro pns s σ H x y v u Q I rx ry h
  obtain ⟨m, hs, dx, dy, r1, r2, rh, o⟩ := h
  unfold mulXF at o
  split at o
  · rename_i xs k
    split at o
    · rename_i c
      have r1' := r1
      unfold RepV at r1 r2
      obtain ⟨a, vs, rfl, ha, rl⟩ := r1
      subst r2
      have ne : vs = [] ↔ xs = [] := rl.nil_iff
      refine op_repX pns s σ H _ _ v u Q I rx ry ⟨a, k, vs, rfl, rfl, SqT.of ha, c.1, c.2.1, by rw [rl.length]; exact c.2.2, fun z => ?_, fun p hp => ?_⟩
      · have e : (List.replicate k.toNat xs).flatten = xs := by
          rcases z with z | z
          · rw [ne.mp z]; simp
          · subst z; simp
        rw [e] at o
        exact OutV.keep o r1' rh
      · exact o (.ref p) m _ (.put hp) (by unfold RepV; exact ⟨p, _, rfl, upd_same, (rl.rep _).mono (.put hp)⟩) (rh.put hp)
    · exact o.elim
  · exact o_mul pns s σ H x y v u Q I rx ry ⟨m, hs, dx, dy, r1, r2, rh, o⟩
/-- which items -/
def stepIx (n : Nat) (lo st : Option Int) : List Nat := sliceRange (sliceBounds lo none st n).1 (sliceBounds lo none st n).2.1 (sliceBounds lo none st n).2.2
def pickL {α : Type} (xs : List α) (lo st : Option Int) : List α := (stepIx xs.length lo st).filterMap fun i => xs[i]?
/-- with a step k, 2 to 9 -/
def stepF (d : D) (lo : Option Int) (k : Int) (h : Hs) : Res := match d with
  | .loc l => match h[l]? with
    | some (.lst ds) => if (pickL ds lo (some k)).length ≤ LIM then some (.loc h.length, h ++ [.lst (pickL ds lo (some k))]) else none
    | _ => none
  | .ro ns => if (pickL ns lo (some k)).length ≤ LIM then some (.loc h.length, h ++ [.lst ((pickL ns lo (some k)).map D.int)]) else none
  | _ => none
def stepM (A : EM) (lo : OM) (k : Int) : EM := fun ds h => (A ds h).bind fun d h => (lo ds h).bind fun l h => .ofO (stepF d l k h)
end DV
namespace DV
open PySem PySem.Spec PyProof.Rows L2
def strsOf : List D → Option (List Str)
  | [] => some []
  | .str s :: r => (strsOf r).map fun ss => s :: ss
  | _ => none
theorem strsOf_some : ∀ {ds : List D} {ss : List Str}, strsOf ds = some ss → ds = ss.map D.str
  | [], _, e => by cases e; rfl
  | .str i :: r, ns, e => by
    unfold strsOf at e
    cases q : strsOf r with
    | none => rw [q] at e; cases e
    | some ms => rw [q] at e; cases e; rw [List.map_cons, strsOf_some q]
  | .non :: _, _, e => by cases e
  | .bl _ :: _, _, e => by cases e
  | .int _ :: _, _, e => by cases e
  | .tup _ :: _, _, e => by cases e
  | .loc _ :: _, _, e => by cases e
  | .ro _ :: _, _, e => by cases e
  | .exn _ :: _, _, e => by cases e
@[simp] theorem strsOf_map (ns : List Str) : strsOf (ns.map D.str) = some ns := by
  induction ns with
  | nil => rfl
  | cons n ns ih => rw [List.map_cons]; unfold strsOf; rw [ih]; rfl
def disp1M (A B : EM) : EM := fun ds h => (A ds (h ++ [.dct []])).bind fun k h1 => (B ds h1).bind fun v h2 => match keyD k, h2[h.length]? with
  | some k, some (.dct []) => .ok (.loc h.length) (h2.set h.length (.dct [(k, v)]))
  | _, _ => .bad
section
variable {N : Sl → Hs → Prop} {Q : D → Hs → Prop} {X : QX} {ds : Sl} {h : Hs}
@[simp] theorem wp_newD : (newDM ds h).wp Q X = Q (.loc h.length) (h ++ [.dct []]) := rfl
@[simp] theorem wp_newT : (newTM ds h).wp Q X = Q (.loc h.length) (h ++ [.dcT []]) := rfl
@[simp] theorem wp_step (A : EM) (lo : OM) (k : Int) : (stepM A lo k ds h).wp Q X = (A ds h).wp (fun d h => (lo ds h).wp (fun l h => (R.ofO (stepF d l k h)).wp Q X) X) X := by simp only [stepM, wp_bind]
@[simp] theorem wp_disp1 (A B : EM) : (disp1M A B ds h).wp Q X = (A ds (h ++ [.dct []])).wp (fun k h1 => (B ds h1).wp (fun v h2 => match keyD k, h2[h.length]? with
  | some k, some (.dct []) => Q (.loc h.length) (h2.set h.length (.dct [(k, v)]))
  | _, _ => False) X) X := by
  simp only [disp1M, wp_bind]
  congr 1; funext k h1
  congr 1; funext v h2
  split <;> rfl
end
end DV
namespace DV
open PySem PySem.Spec PyProof.Rows L2
def kxB (K : PySem.W.Frag) (C : Addr) : Bool :=
  (PySem.W.clsIn K C).isSome && (decide (PySem.W.findIn K (.ref C) "__getattribute__" = some (some (.builtin "BaseException.__getattribute__"))) && ((PySem.W.findIn K (.ref C) "__getattr__").isSome &&
  (decide (PySem.W.subIn K (.ref C) (.type "BaseException") = some true) && (decide (PySem.W.findIn K (.ref C) "__class__" = some (some (.builtin "object.__class__"))) &&
  (decide (PySem.W.specialIn K (.builtin "object.__class__") "__get__" = some (some (.builtin "getset_descriptor.__get__"))) && (decide (PySem.W.takesIn K (.builtin "object.__class__") = some true) && decide (PySem.W.mroIn K C (.type "object") = some true)))))))
inductive Fx where
  | he (f : He.Fa)
  | kx (x : Str)
  | ix (x y : Str) (b : Bool)
  | ib (x : Str) (T : String) (b : Bool)
def Fx.ok (K : PySem.W.Frag) : Fx → Bool
  | .he f => f.ok K
  | .kx x => kxB K (He.ga K x)
  | .ix x y b => decide (PySem.W.kitOne K (.ref (He.ga K x)) (.ref (He.ga K y)) = some b)
  | .ib x T b => decide (PySem.W.kitOne K (.ref (He.ga K x)) (.type T) = some b)
def obsX (fa : List Fx) (fn : List He.DefD) (K : PySem.W.Frag) : He.AlD := ((fa.all fun f => f.ok K) && fn.all fun d => d.ok K, fn.map fun d => He.fnW K d.at_)
def SaysX (fa : List Fx) (fn : List He.DefD) (K : PySem.W.Frag) : Prop := obsX fa fn K = He.valD fn
def obsXG (n : Nat) (fa : List Fx) (fn : List He.DefD) (g : Addr → Option Obj) : He.AlD := obsX fa fn (He.frG g (He.asD g n))
def hookX (n : Nat) (fa : List Fx) (fn : List He.DefD) : PySem.W.Hook where
  α := He.AlD
  obs := fun s => obsXG n fa fn s.heap.get?
  val := fun _ => He.valD fn
  says := fun _ h => ∃ K : PySem.W.Frag, K.In h ∧ SaysX fa fn K
  of := fun _ _ e => ⟨_, He.frG_in, e⟩
  keeps := fun _ _ _ ⟨K, hK, c⟩ k => ⟨K, PySem.W.Frag.In.keeps hK k, c⟩
theorem obsXG_eq {n : Nat} {fa : List Fx} {fn : List He.DefD} {g : Addr → Option Obj} {s : Shared} (h : ∀ a, g a = s.heap.get? a) : obsXG n fa fn g = (hookX n fa fn).obs s := by
  have e : g = s.heap.get? := funext h
  rw [e] <;> rfl
section
variable {fa : List Fx} {fn : List He.DefD} {K : PySem.W.Frag}
theorem SaysX.fact0 (c : SaysX fa fn K) (i : Nat) {f : Fx} (h : fa[i]? = some f := by rfl) : f.ok K = true := by
  have c1 := (He.ba (show ((fa.all fun f => f.ok K) && fn.all fun d => d.ok K) = true from congrArg (fun z : He.AlD => z.1) c)).1
  exact List.all_eq_true.mp c1 f (List.mem_of_getElem? h)
theorem SaysX.fact (c : SaysX fa fn K) (i : Nat) {f : He.Fa} (h : fa[i]? = some (.he f) := by rfl) : f.ok K = true := c.fact0 i h
theorem SaysX.def_ (c : SaysX fa fn K) (i : Nat) {d : He.DefD} (h : fn[i]? = some d := by rfl) : ∃ fd, FunD K d.name d.qual d.params d.body d.scope (d.dvs K) (d.kws K) (He.fAd K d.at_) fd := by
  have c2 := (He.ba (show ((fa.all fun f => f.ok K) && fn.all fun d => d.ok K) = true from congrArg (fun z : He.AlD => z.1) c)).2
  have e : fn.map (fun d => He.fnW K d.at_) = fn.map He.DefD.val := congrArg (fun z : He.AlD => z.2) c
  have e2 : (fn.map fun d => He.fnW K d.at_)[i]? = (fn.map He.DefD.val)[i]? := by rw [e]
  rw [List.getElem?_map, List.getElem?_map, h] at e2
  exact He.DefD.funD (Option.some.inj e2) (List.all_eq_true.mp c2 d (List.mem_of_getElem? h))
end
def tabF (tb : List (Str × Bool)) (c : Str) : Option Bool := (tb.find? fun p => decide (p.1 = c)).map (·.2)
def isXF (tb : List (Str × Bool)) (d : D) (h : Hs) : Res := match d with
  | .exn c => (tabF tb c).map fun b => (.bl b, h)
  | _ => none
theorem tabF_mem {tb : List (Str × Bool)} {c : Str} {b : Bool} (e : tabF tb c = some b) : (c, b) ∈ tb := by
  unfold tabF at e
  cases q : tb.find? fun p => decide (p.1 = c) with
  | none => rw [q] at e; cases e
  | some p =>
    rw [q] at e
    have m := List.mem_of_find?_eq_some q
    have k := List.find?_some q
    simp only [decide_eq_true_eq] at k
    obtain ⟨p1, p2⟩ := p
    simp only [Option.map_some, Option.some.injEq] at e
    simp only at k
    subst k e
    exact m
section
variable {X : Cx}
theorem kx_inv {K : PySem.W.Frag} {C x : Addr} {h : Heap} {oe : Obj} {vs : Array Value} (c : kxB K C = true) (e : h.get? x = some oe) (ec : oe.cls = .ref C) (ed : oe.dict = none) (ef : oe.data = .fields vs) :
    PySem.W.KitX K (.ref x) (.ref C) (fun h => PySem.W.InstAt h x oe C none) ∧ PySem.W.InstAt h x oe C none := by
  unfold kxB at c
  simp only [Bool.and_eq_true, decide_eq_true_eq] at c
  obtain ⟨c1, c2, c3, c4, c5, c6, c7, c8⟩ := c
  obtain ⟨gt, c3⟩ := Option.isSome_iff_exists.mp c3
  refine ⟨PySem.W.kitx_exc c1 c2 c3 c4 c5 c6 c7 c8, ⟨e, ec, ?_, ?_⟩⟩
  · unfold PySem.W.notCls; rw [ef]
  · rw [ed]; exact True.intro
def rIsx (K : PySem.W.Frag) : List V → Hp → VK → Prop := fun xs H Q => ∃ (a : Addr) (c : V) (x : Str) (u : Value) (b : Bool), xs = [.ref a, c] ∧ ClsV c u ∧ H a = some (exO K x a) ∧ kxB K (He.ga K x) = true ∧ PySem.W.kitOne K (.ref (He.ga K x)) u = some b ∧ Q (.bl b) H
theorem call_isx : CallR X (.builtin "isinstance") (rIsx X.K) := by
  intro pns s σ H xs us Q I r h
  obtain ⟨a, c, x, u, b, rfl, k, ha, kx, e, q⟩ := h
  obtain ⟨u1, u2, rfl, r1, r2⟩ := vals2 r
  have e2 := k.eq r2
  subst e2
  cases r1
  obtain ⟨⟨oe, vs, h1, h2, h3, h4⟩, _, _⟩ := (show ObjOk X.prog X.w H s.heap a (exO X.K x a) from I.hok a _ ha)
  obtain ⟨Z, p⟩ := kx_inv kx h1 h2 h3 h4
  exact PySem.W.kia_one Z I.kIn p e (fun z => nomatch z) fun tk => ⟨.bl b, H, I.tok tk, rfl, q⟩
/-- the classes of the table are as it says -/
def TabOk (K : PySem.W.Frag) (u : Value) (tb : List (Str × Bool)) : Prop := ∀ c b, (c, b) ∈ tb → kxB K (He.ga K c) = true ∧ PySem.W.kitOne K (.ref (He.ga K c)) u = some b
theorem isx_read {g : Cfg} {tb : List (Str × Bool)} {A : EM} {σ : St} {H : Hp} {Q : VK} {c : V} {u : Value} {e : Expr} {te : TE} (hK : X.K = g.K) (cv : ClsV c u) (T : TabOk X.K u tb) (q : tM g (unM (isXF tb) A) σ H Q) :
    tM g A σ H fun v H1 => rIsx X.K [v, c] H1 Q := by
  obtain ⟨m, ds, h, hs, rh, o⟩ := q
  refine ⟨m, ds, h, hs, rh, OutE.toE o fun d h1 v m1 H1 g1 r1 rh1 o1 => ?_⟩
  unfold isXF at o1
  split at o1
  · rename_i x
    cases q : tabF tb x with
    | none => rw [q] at o1; exact o1.elim
    | some b =>
      rw [q] at o1
      obtain ⟨t1, t2⟩ := T x b (tabF_mem q)
      unfold RepV at r1
      obtain ⟨a, rfl, ha⟩ := r1
      exact ⟨a, c, x, u, b, rfl, cv, by rw [hK]; exact ha, t1, t2, o1 _ m1 H1 (.refl _ _) (by unfold RepV; rfl) rh1⟩
  · exact o1.elim
theorem em_isx {g : Cfg} {e : Expr} {A : EM} {C : Str} {p p2 pos : Pos} {tb : List (Str × Bool)} (hK : X.K = g.K) (hg : Gl X "isinstance") (hm : X.mg "isinstance" = none) (hgT : Gl X C) (hmT : X.mg C = some (.ref (He.ga X.K C))) (T : TabOk X.K (.ref (He.ga X.K C)) tb)
    (ha : PE X e (tM g A)) (hd : (C == ("__debug__" : Str)) = false := by decide)
    (he : starEach [e, .Name C p2] X.env = (false, eval e X.env) :: starEach [.Name C p2] X.env := by rfl) (hpl : (backTo pos (starEach [.Name C p2] X.env)).any (·.1) = false := by rfl) : PE X (.Call (.Name "isinstance" p) [e, .Name C p2] [] pos) (tM g (unM (isXF tb) A)) := by
  refine PE.weak (pe_callB call_isx hg hm (by decide +kernel) (pa_cons ha (pa_cons (pe_glob (v := .ref (He.ga X.K C)) hgT hmT rfl hd) pa_nil) he) (by decide) (by decide) he hpl) fun σ H Q q => ?_
  exact isx_read (e := e) (te := tM g A) hK (.own _) T q
theorem em_isxB {g : Cfg} {e : Expr} {A : EM} {T : String} {Tn : Str} {p p2 pos : Pos} {tb : List (Str × Bool)} (hK : X.K = g.K) (hg : Gl X "isinstance") (hm : X.mg "isinstance" = none) (hgT : Gl X Tn) (hmT : X.mg Tn = none) (hv : bootBuiltins Tn = some (.type T)) (TT : TabOk X.K (.type T) tb)
    (ha : PE X e (tM g A)) (hn : Tn ≠ "__name__" := by decide) (hd : (Tn == ("__debug__" : Str)) = false := by decide)
    (he : starEach [e, .Name Tn p2] X.env = (false, eval e X.env) :: starEach [.Name Tn p2] X.env := by rfl) (hpl : (backTo pos (starEach [.Name Tn p2] X.env)).any (·.1) = false := by rfl) : PE X (.Call (.Name "isinstance" p) [e, .Name Tn p2] [] pos) (tM g (unM (isXF tb) A)) := by
  refine PE.weak (pe_callB call_isx hg hm (by decide +kernel) (pa_cons ha (pa_cons (pe_bltn (v := .ty T) hgT hmT hv rfl hn hd) pa_nil) he) (by decide) (by decide) he hpl) fun σ H Q q => ?_
  exact isx_read (e := e) (te := tM g A) hK (.ty T) TT q
end
end DV
namespace DV
open PySem PySem.Spec PyProof.Rows L2
/-- an except suite's context, the exception's object kept as a thing of the heap -/
abbrev suiteX (X : Cx) (a : Addr) (pn : List (Addr × Obj)) : Cx := { X with A := X.A.mark (some (.ref a)), calm := false, pn := pn, xe := fun _ _ => False }
section
variable {X : Cx} {pns : List (Addr × Obj)} {σ : St} {H : Hp} {s : Shared}
/-- a thing that came into the heap is taken up -/
theorem Un.took {fs ex : List Addr} {H0 H1 : Hp} {h0 h1 : Heap} {a : Addr} {o : HO} (u : Un fs ex H0 H1 h0 h1) (n0 : h0.get? a = none) (n1 : H1 a = none) : Un fs ex H0 (upd H1 a o) h0 h1 := by
  have ne : ∀ b v, H1 b = some v → b ≠ a := fun b v e z => by rw [z, n1] at e; cases e
  refine ⟨u.keep, u.slot, fun b v e n hx => ?_, u.there, fun b xs e => ?_, fun b v w e => ?_, fun b ps e => ?_⟩
  · rw [upd_ne fun z => by rw [z, n0] at e; cases e]; exact u.free b v e n hx
  · have := u.tups b xs e; rw [upd_ne (ne _ _ this)]; exact this
  · have := u.frzs b v w e; rw [upd_ne (ne _ _ this)]; exact this
  · obtain ⟨mo, q⟩ := u.tbls b ps e; exact ⟨mo, by rw [upd_ne (ne _ _ q)]; exact q⟩
theorem exO_ok {P : Program} {w : World} {H : Hp} {h : Heap} {K : PySem.W.Frag} {c : Str} {a : Addr} {oe : Obj} {vs : Array Value} (e : h.get? a = some oe) (ec : oe.cls = .ref (He.ga K c)) (ed : oe.dict = none) (ef : oe.data = .fields vs) : ObjOk P w H h a (exO K c a) :=
  ⟨⟨oe, vs, e, ec, ed, ef⟩, ⟨oe, e⟩, fun _ _ ⟨o1, v1, p1, p2⟩ k => ⟨o1, v1, k _ p1, p2⟩⟩
/-- into the suite -/
theorem Inv.caught {a : Addr} {c : Str} {oe : Obj} {vs : Array Value} (I : Inv X pns σ H s) (e : s.heap.get? a = some oe) (ec : oe.cls = .ref (He.ga X.K c)) (ed : oe.dict = none) (ef : oe.data = .fields vs) (na : H a = none) (nL : a ≠ X.env.locals)
    (n0 : X.s_0.heap.get? a = none) (np : ∀ p ∈ X.pn ++ pns, p.1 ≠ a) : Inv (suiteX X a (X.pn ++ pns)) [] σ (upd H a (exO X.K c a)) s := by
  have ncell : ∀ x k, X.env.cells.lookup x = some k → k ≠ a := fun x k q z => by
    obtain ⟨v, hv⟩ := I.cell x k q
    obtain ⟨o, ho, hd⟩ := hv
    rw [z, e] at ho
    cases ho
    rw [ef] at hd
    cases hd
  have neH : ∀ b v, H b = some v → b ≠ a := fun b v q z => by rw [z, na] at q; cases q
  refine ⟨?_, I.os, I.bare, Un.took I.base n0 na, I.loc, I.cell, ?_, fun x k q => ?_, fun p hp => ?_, fun b v q => ?_, I.len⟩
  · have ok := I.ok
    exact ⟨ok.mod, ok.kind, ok.glob, ok.blt, ok.above, ok.inj, ok.has, ok.cab, (fun z => absurd (show false = true from z) Bool.false_ne_true), ok.frames, ok.stk, ok.exf, ok.bs, ok.bsz, ok.noex, ok.exfs, ok.funs, ok.frf⟩
  · show upd H a _ X.env.locals = none
    rw [upd_ne (Ne.symm nL)]; exact I.free
  · show upd H a _ k = none
    rw [upd_ne (ncell x k q)]; exact I.freeC x k q
  · have hp' : p ∈ X.pn ++ pns := by simpa using hp
    obtain ⟨p1, p2, p3⟩ := I.pin p hp'
    exact ⟨p1, by rw [upd_ne (np p hp')]; exact p2, p3⟩
  · by_cases z : b = a
    · subst z
      rw [upd_same] at q
      cases q
      exact exO_ok e ec ed ef
    · rw [upd_ne z] at q
      exact (I.hok b v q).stay (fun _ _ _ r => r) (fun d r => by rw [upd_ne (neH d _ r)]; exact r) fun d xs r => by rw [upd_ne (neH d _ r)]; exact r
/-- out of it -/
theorem Inv.leftX {a : Addr} {pn : List (Addr × Obj)} {H' : Hp} (I : Inv (suiteX X a (X.pn ++ pns)) pn σ H' s) (ok : X.Ok) : Inv X pns σ H' s :=
  ⟨ok, I.os, I.bare, I.base, I.loc, I.cell, I.free, I.freeC, fun p hp => I.pin p (List.mem_append_left _ hp), I.hok, I.len⟩
end
/-- the slot of the clause's name, forgotten -/
def dropE (oi : Option Nat) (N : Ends) : Ends := match oi with
  | some i => { nx := fun σ H => N.nx (σ.set i none) H, rt := N.rt, bk := fun σ H => N.bk (σ.set i none) H, ct := fun σ H => N.ct (σ.set i none) H }
  | none => N
def putE (oi : Option Nat) (σ : St) (a : Addr) : St := match oi with
  | some i => σ.set i (some (.ref a))
  | none => σ
/-- what is wished of an exception of the body -/
def wExc (K : PySem.W.Frag) (C : Value) (oi : Option Nat) (ts : TS) (Wout : WX) (N : Ends) : WX := fun cls d σ H =>
  d = none ∧ ∃ c b, cls = .ref (He.ga K c) ∧ PySem.W.exmOne K cls C = some b ∧ (b = true → ∀ a, H a = none → ts (dropE oi N) (putE oi σ a) (upd H a (exO K c a))) ∧ (b = false → Wout cls d σ H)
section
variable {X : Cx} {C : Value} {cn : Str} {tb : WX → TS} {ts : TS} {Wout : WX} {body suite : List Stmt} {b₀ : Stmt} {np pos pos' : Pos}
/-- what a clause's derivation gives for the exception in the air: the test, the suite or the way on -/
theorem catch_ok {oi : Option Nat} {on : Option Str} (hs : X.stack = X.env :: X.outer) (hf : X.env.frame = some X.env.locals) (hex : X.ex = []) (hN : X.N.Nodup) (hon : match oi, on with
      | some i, some n => X.N[i]? = some n ∧ X.env.kindOf n = some .local
      | none, none => True
      | _, _ => False) (hc : Names X cn C) (tk : Takes X Wout)
    (hsu : ∀ (a : Addr) (pn : List (Addr × Obj)), PSs (suiteX X a pn) (b₀ :: suite) ts) {pns : List (Addr × Obj)} {N : Ends} (ok : X.Ok) {u : Value} {s' : Shared} {xe : Value → Shared → Prop} (xx : XE (X.tr (X.pn ++ pns) xe) (wExc X.K C oi ts Wout N) u s') :
    wpAny (model X.prog X.w) X.A (noteFrame u X.env) (fun _ s₂ => wpAny (model X.prog X.w) X.A (setFlight u none) (fun _ s₃ =>
      wpAny (model X.prog X.w) X.A (handleBy u X.env [.ExceptHandler (some (.Name cn np)) on (b₀ :: suite) pos']) (SP X pns N) X.xe s₃) X.xe s₂) X.xe s' := by
  obtain ⟨a, B, sI, pz, τ, G, cls, d, rfl, J0, nb, up, sky, na, os, ag, dn, c, b, rfl, hb1, hyes, hno⟩ := xx
  have J : Inv X pns τ G sI := Inv.ofTry J0 ok
  have frE : X.A.frames = some (X.env :: X.outer) := by rw [ok.frames, hs]
  have sk : Sky B (X.env :: X.outer) a (Zc (.ref (He.ga X.K c)) d) X.env.locals s'.heap := by rw [← hs]; exact sky
  refine Sky.land Zc.steady frE hf sk fun h3 fl3 up3 => ?_
  have J3 : Inv X pns τ G { s' with heap := h3 } := J.landed nb fl3.1 (up.trans up3) os ag
  obtain ⟨o3, v3, e3, z3, d3⟩ := fl3.there
  have far : a ∉ frs (X.env :: X.outer) := fun hm => by
    obtain ⟨_, o4, e4, no⟩ := fl3.2.2.1.mem hm
    rw [e3] at e4; cases e4
    exact no _ d3
  have nL : a ≠ X.env.locals := fun z => far (List.mem_filterMap.mpr ⟨X.env, by simp, by rw [hf, z]⟩)
  have nF : a ∉ X.fs := fun hm => by
    obtain ⟨v, hv, q⟩ := List.mem_filterMap.mp hm
    exact far (List.mem_filterMap.mpr ⟨v, by simp [hv], q⟩)
  have nI : sI.heap.get? a = none := by
    cases q : sI.heap.get? a with
    | none => rfl
    | some o =>
      have r1 := nb a o q (by rw [hs]; exact far)
      rw [fl3.2.1] at r1; cases r1
  have n0 : X.s_0.heap.get? a = none := by
    cases q : X.s_0.heap.get? a with
    | none => rfl
    | some o =>
      obtain ⟨o', r1⟩ := J.base.there a o q (by rw [hex]; simp)
      rw [nI] at r1; cases r1
  have np' : ∀ p ∈ X.pn ++ pns, p.1 ≠ a := fun p hp z => by
    have := (J.pin p hp).1
    rw [z, nI] at this; cases this
  have S3 := Inv.suite J3 e3 d3 na nL nF
  refine wpAny_handleBy_cons (codeAny_handlers_test ?_) (by intro q; cases q)
  have LT : PySem.W.Looks (model X.prog X.w) h3 (typeOf (.ref a)) (.ref (He.ga X.K c)) := fun _ _ _ _ k q => wpAny_typeOf_ref (k _ _ e3) (by rw [z3.1]; exact q)
  have LM := PySem.W.exm_one (M := model X.prog X.w) J3.kIn LT hb1
  have named : ∀ {Q : Value → Shared → Prop} {E : Value → Shared → Prop}, Q C { s' with heap := h3 } → wpAny (model X.prog X.w) (X.A.mark (some (.ref a))) (eval (.Name cn np) X.env) Q E { s' with heap := h3 } := fun {Q E} q => by
    obtain ⟨g1, g2, g3 | ⟨g3, g4, g5⟩⟩ := hc
    · exact ld_glob (X := X.suite a ((a, o3) :: (X.pn ++ pns))) S3 g1 g3 q g2
    · exact ld_blt (X := X.suite a ((a, o3) :: (X.pn ++ pns))) S3 g1 g3 g4 q g5 g2
  refine named (LM.here ?_)
  cases b with
  | true =>
    have land : ∀ {h4 : Heap}, HandSPX.FlyingZ B (X.env :: X.outer) a (Zc (.ref (He.ga X.K c)) d) h4 → sI.heap.UpToSlots h4 → Inv (suiteX X a (X.pn ++ pns)) [] τ (upd G a (exO X.K c a)) { s' with heap := h4 } := fun {h4} fl4 up4 => by
      have J4 : Inv X pns τ G { s' with heap := h4 } := J.landed nb fl4.1 up4 os ag
      obtain ⟨o4, v4, e4, z4, d4⟩ := fl4.there
      exact Inv.caught J4 e4 z4.1 (by rw [z4.2, dn]) d4 na nL n0 np'
    have wish := hyes rfl a na
    match oi, on, hon with
    | some i, some n, hon =>
      refine codeAny_handlers_suite_as ?_
      refine HandSPX.lands_againZ fl3 fun h4 fl4 up4 => ?_
      refine store_ok (X := suiteX X a (X.pn ++ pns)) (v := .ref a) (land fl4 ((up.trans up3).trans up4)) hN hon.1 (.inl hon.2) rfl (fun s5 S5 => ?_) (.inr hon.2)
      refine wpAny_mono ((hsu a (X.pn ++ pns)).run [] s5 _ _ _ S5 wish) (fun f s6 sp => ?_) (fun _ _ z => z.elim)
      have gone : ∀ {τ6 : St} {G6 : Hp} {Q : Shared → Prop}, Inv (suiteX X a (X.pn ++ pns)) [] τ6 G6 s6 → (∀ s7, Inv X pns (τ6.set i none) G6 s7 → Q s7) →
          wpAny (model X.prog X.w) X.A (do bindName X.env n .none; unbindBehindTheSuite X.env n pos') (fun _ s7 => Q s7) X.xe s6 := fun {τ6 G6 Q} S6 hq => gone_ok (Inv.leftX S6 ok) hN hon.1 hon.2 hq
      cases f with
      | next => obtain ⟨τ6, G6, S6, q6⟩ := sp; exact gone S6 fun s7 J7 => ⟨_, _, J7, q6⟩
      | brk => obtain ⟨τ6, G6, S6, q6⟩ := sp; exact gone S6 fun s7 J7 => ⟨_, _, J7, q6⟩
      | cont => obtain ⟨τ6, G6, S6, q6⟩ := sp; exact gone S6 fun s7 J7 => ⟨_, _, J7, q6⟩
      | ret u => obtain ⟨v6, τ6, G6, S6, r6, q6⟩ := sp; exact gone S6 fun s7 J7 => ⟨_, _, _, J7, r6, q6⟩
    | none, none, _ =>
      refine codeAny_handlers_suite ?_
      refine HandSPX.lands_againZ fl3 fun h4 fl4 up4 => ?_
      refine wpAny_mono ((hsu a (X.pn ++ pns)).run [] _ _ _ _ (land fl4 ((up.trans up3).trans up4)) wish) (fun f s6 sp => ?_) (fun _ _ z => z.elim)
      cases f with
      | next => obtain ⟨τ6, G6, S6, q6⟩ := sp; exact ⟨_, _, Inv.leftX S6 ok, q6⟩
      | brk => obtain ⟨τ6, G6, S6, q6⟩ := sp; exact ⟨_, _, Inv.leftX S6 ok, q6⟩
      | cont => obtain ⟨τ6, G6, S6, q6⟩ := sp; exact ⟨_, _, Inv.leftX S6 ok, q6⟩
      | ret u => obtain ⟨v6, τ6, G6, S6, r6, q6⟩ := sp; exact ⟨_, _, _, Inv.leftX S6 ok, r6, q6⟩
  | false =>
    show wpAny _ X.A (handleBy (.ref a) X.env []) _ _ _
    refine wpAny_handleBy_nil ?_
    obtain ⟨_, _, _, oe, vs, T, _, _, he, _, hd, h1, _⟩ := id fl3
    unfold PySem.passOn
    refine wpAny_bind (wpAny_field he hd h1 ?_)
    rw [if_neg (show ¬ ((Value.ref T == Value.none) = true) from by simp)]
    have on_ : wpAny (model X.prog X.w) X.A (setFlight (.ref a) X.env.frame) (fun _ s4 => wpAny (model X.prog X.w) X.A (throw (.ref a) : Sem Flow) (SP X pns N) X.xe s4) X.xe { s' with heap := h3 } := by
      rw [hf]
      exact HandSPX.setFlight_upZ fl3 fun h4 hh4 up4 => wpAny_throw (tk _ _ ⟨a, B, sI, pns, τ, G, _, d, rfl, J, nb, (up.trans up3).trans up4, .inr (.inr (by rw [hs]; exact hh4)), na, os, ag, hno rfl⟩)
    first
      | exact wpAny_bind (wpAny_pure (wpAny_bind on_))
      | exact wpAny_bind on_
/-- try: body / except C [as n]: suite -/
theorem ps_tryX {oi : Option Nat} {on : Option Str} (hs : X.stack = X.env :: X.outer) (hf : X.env.frame = some X.env.locals) (hex : X.ex = []) (hN : X.N.Nodup) (hon : match oi, on with
      | some i, some n => X.N[i]? = some n ∧ X.env.kindOf n = some .local
      | none, none => True
      | _, _ => False) (hc : Names X cn C) (tk : Takes X Wout)
    (hb : ∀ (W : WX) (pn : List (Addr × Obj)) (xe : Value → Shared → Prop), Takes (X.tr pn xe) W → PassesOwn (model X.prog X.w) X.A X.env xe → PSs (X.tr pn xe) body (tb W))
    (hsu : ∀ (a : Addr) (pn : List (Addr × Obj)), PSs (suiteX X a pn) (b₀ :: suite) ts) :
    PS X (.Try body [.ExceptHandler (some (.Name cn np)) on (b₀ :: suite) pos'] [] [] pos) (fun D σ H => tb (wExc X.K C oi ts Wout D) D σ H) := by
  constructor
  intro pns s σ H D I wish
  have ok := I.ok
  refine wpAny_Try_except ?_
  have bodyOk := hb (wExc X.K C oi ts Wout D) (X.pn ++ pns) (fun e s₁ => wpAny (model X.prog X.w) X.A (noteFrame e X.env) (fun _ s₂ => wpAny (model X.prog X.w) X.A (setFlight e none) (fun _ s₃ =>
    wpAny (model X.prog X.w) X.A (handleBy e X.env [.ExceptHandler (some (.Name cn np)) on (b₀ :: suite) pos']) (SP X pns D) X.xe s₃) X.xe s₂) X.xe s₁) (fun u s' xx => catch_ok hs hf hex hN hon hc tk hsu ok xx) PassesOwn.looking
  refine wpAny_mono (bodyOk.run [] s σ H D (Inv.toTry I _) wish) (fun f s1 r => ?_) (fun e s1 r => r)
  cases f with
  | next => obtain ⟨τ, G, J, q⟩ := r; exact wpAny_execs_nil ⟨τ, G, Inv.ofTry J ok, q⟩
  | brk => obtain ⟨τ, G, J, q⟩ := r; exact ⟨τ, G, Inv.ofTry J ok, q⟩
  | cont => obtain ⟨τ, G, J, q⟩ := r; exact ⟨τ, G, Inv.ofTry J ok, q⟩
  | ret u => obtain ⟨v, τ, G, J, r, q⟩ := r; exact ⟨v, τ, G, Inv.ofTry J ok, r, q⟩
end
def dropS (oi : Option Nat) (ds : Sl) : Sl := match oi with
  | some i => ds.set i none
  | none => ds
/-- the clause's suite: its name goes, no exception leaves it -/
def suiteM (oi : Option Nat) (Hd : SM) : SM := fun ds h => match Hd ds h with
  | .nx ds h => .nx (dropS oi ds) h
  | .rt d h => .rt d h
  | .bk ds h => .bk (dropS oi ds) h
  | .ct ds h => .ct (dropS oi ds) h
  | _ => .bad
def nameM (oi : Option Nat) (c : Str) (ds : Sl) : Sl := match oi with
  | some i => ds.set i (some (.exn c))
  | none => ds
def tryM (oi : Option Nat) (tb : List (Str × Bool)) (B Hd : SM) : SM := fun ds h => match B ds h with
  | .exc c ds h => (match tabF tb c with
    | some true => suiteM oi Hd (nameM oi c ds) h
    | some false => .exc c ds h
    | none => .bad)
  | r => r
/-- the clause's class takes these -/
def ExmOk (K : PySem.W.Frag) (C : Value) (tb : List (Str × Bool)) : Prop := ∀ c b, (c, b) ∈ tb → PySem.W.exmOne K (.ref (He.ga K c)) C = some b
theorem sm_try {X : Cx} {g : Cfg} {C : Value} {cn : Str} {body suite : List Stmt} {b₀ : Stmt} {np pos pos' : Pos} {oi : Option Nat} {on : Option Str} {tbl : List (Str × Bool)} {B Hd : SM} (hs : X.stack = X.env :: X.outer) (hf : X.env.frame = some X.env.locals) (hex : X.ex = []) (hN : X.N.Nodup)
    (hon : match oi, on with
      | some i, some n => X.N[i]? = some n ∧ X.env.kindOf n = some .local
      | none, none => True
      | _, _ => False) (hc : Names X cn C) (tk : Takes X g.W) (hK : X.K = g.K) (T : ExmOk X.K C tbl)
    (hb : ∀ (W : WX) (pn : List (Addr × Obj)) (xe : Value → Shared → Prop), Takes (X.tr pn xe) W → PassesOwn (model X.prog X.w) X.A X.env xe → PSs (X.tr pn xe) body (tS ⟨g.K, W⟩ B))
    (hsu : ∀ (a : Addr) (pn : List (Addr × Obj)), PSs (suiteX X a pn) (b₀ :: suite) (tS ⟨g.K, fun _ _ _ _ => False⟩ Hd)) :
    PS X (.Try body [.ExceptHandler (some (.Name cn np)) on (b₀ :: suite) pos'] [] [] pos) (tS g (tryM oi tbl B Hd)) := by
  refine PS.weak (ps_tryX (tb := fun W => tS ⟨g.K, W⟩ B) (oi := oi) hs hf hex hN hon hc tk hb hsu) fun N σ H ⟨m, ds, h, hs', rh, o⟩ => ⟨m, ds, h, hs', rh, ?_⟩
  unfold tryM at o
  cases q : B ds h with
  | nx ds1 h1 => rw [q] at o; exact o
  | rt d h1 => rw [q] at o; exact o
  | bk ds1 h1 => rw [q] at o; exact o
  | ct ds1 h1 => rw [q] at o; exact o
  | bad => rw [q] at o; exact o
  | exc c ds1 h1 =>
    rw [q] at o
    simp only at o
    intro σ' m' H' gg ss rr
    cases q2 : tabF tbl c with
    | none => rw [q2] at o; exact o.elim
    | some b =>
      rw [q2] at o
      refine ⟨rfl, c, b, by rw [hK], by rw [← hK]; exact T c b (tabF_mem q2), fun eb a na => ?_, fun eb => ?_⟩
      · subst eb
        simp only at o
        have w1 : Grow m' H' m' (upd H' a (exO X.K c a)) := .put na
        refine ⟨m', nameM oi c ds1, h1, ?_, rr.put na, ?_⟩
        · cases oi with
          | none => exact ss.mono w1
          | some i => exact (ss.mono w1).put i (by unfold RepV; exact ⟨a, rfl, by rw [upd_same, hK]⟩)
        · have o' := OutS.mono o (gg.trans w1)
          unfold suiteM at o'
          cases q3 : Hd (nameM oi c ds1) h1 with
          | nx ds2 h2 =>
            rw [q3] at o'
            intro σ2 m2 H2 g2 s2 r2
            cases oi with
            | none => exact o' σ2 m2 H2 g2 s2 r2
            | some i => exact o' _ m2 H2 g2 (s2.forget i none) r2
          | bk ds2 h2 =>
            rw [q3] at o'
            intro σ2 m2 H2 g2 s2 r2
            cases oi with
            | none => exact o' σ2 m2 H2 g2 s2 r2
            | some i => exact o' _ m2 H2 g2 (s2.forget i none) r2
          | ct ds2 h2 =>
            rw [q3] at o'
            intro σ2 m2 H2 g2 s2 r2
            cases oi with
            | none => exact o' σ2 m2 H2 g2 s2 r2
            | some i => exact o' _ m2 H2 g2 (s2.forget i none) r2
          | rt d h2 =>
            rw [q3] at o'
            intro v m2 H2 g2 s2 r2
            cases oi with
            | none => exact o' v m2 H2 g2 s2 r2
            | some i => exact o' v m2 H2 g2 s2 r2
          | exc _ _ _ => rw [q3] at o'; exact o'.elim
          | bad => rw [q3] at o'; exact o'.elim
      · subst eb
        exact o σ' m' H' gg ss rr
end DV
namespace DV
open PySem PySem.Spec PyProof.Rows L2
def putFD (f : Str) (v : D) : List (Str × D) → List (Str × D)
  | [] => [(f, v)]
  | (g, x) :: r => if g = f then (g, v) :: r else (g, x) :: putFD f v r
def fldF (C f : Str) (d : D) (h : Hs) : Res := match d with
  | .loc l => match h[l]? with
    | some (.ins C' fs) => if C' = C then (fs.lookup f).map fun v => (v, h) else none
    | _ => none
  | _ => none
def fldM (C f : Str) (O : EM) : EM := unM (fldF C f) O
def setFldF (C f : Str) (d v : D) (h : Hs) : Option Hs := match d with
  | .loc l => match h[l]? with
    | some (.ins C' fs) => if C' = C ∧ fs.length < 1000 then some (h.set l (.ins C (putFD f v fs))) else none
    | _ => none
  | _ => none
def setFldM (C f : Str) (V O : EM) : SM := fun ds h => lift (V ds h) ds fun v h => lift (O ds h) ds fun o h => match setFldF C f o v h with
  | some h => .nx ds h
  | none => .bad
def methM (C m : Str) (φ : Fm) (O : EM) (As : AM) : EM := fun ds h => (O ds h).bind fun d h => match d with
  | .loc l => (match h[l]? with
    | some (.ins C' fs) => if C' = C ∧ fs.lookup m = none then (As ds h).bind fun xs h => φ (d :: xs) h else .bad
    | _ => .bad)
  | _ => .bad
def newM (C : Str) (φ : Fm) (As : AM) : EM := fun ds h => (As ds h).bind fun xs h => match φ (.loc h.length :: xs) (h ++ [.ins C []]) with
  | .ok .non h' => .ok (.loc h.length) h'
  | _ => .bad
structure InsF (K : PySem.W.Frag) (C : Str) (nos : List Str) : Prop where
  cls : Cls K (He.ga K C)
  no : ∀ f ∈ nos, NoAttr K (He.ga K C) f
/-- a method of the top's class, as its callers see it -/
structure MtAt (P : Program) (w : World) (K : PySem.W.Frag) (mg : Str → Option Value) (base : Heap) (k : Nat) (C m : Str) (ps : List Str) (φ : Fm) : Prop where
  ex : ∃ f fd, Cls K (He.ga K C) ∧ Meth K (He.ga K C) m f ∧ Binds K fd ps [] ∧ FnOk P w K mg base (L2.CX P w) k f fd ps (spM K ps.length φ)
  ar : ∀ xs h, xs.length ≠ ps.length → φ xs h = .bad
/-- .. a class that is made by its __init__ -/
structure MkAt (P : Program) (w : World) (K : PySem.W.Frag) (mg : Str → Option Value) (base : Heap) (k : Nat) (C : Str) (ps : List Str) (φ : Fm) : Prop where
  ex : ∃ f fd, Mk K (He.ga K C) f ∧ mg C = some (.ref (He.ga K C)) ∧ Binds K fd ps [] ∧ FnOk P w K mg base (L2.CX P w) k f fd ps (spM K ps.length φ)
  ar : ∀ xs h, xs.length ≠ ps.length → φ xs h = .bad
section
variable {K : PySem.W.Frag} {m : List Addr} {H : Hp}
theorem lookup_rep {f : Str} : ∀ {fs : List (Str × D)} {xs : List (Str × V)}, fs.map (·.1) = xs.map (·.1) → RepL K m H (fs.map (·.2)) (xs.map (·.2)) →
    (fs.lookup f = none ∧ xs.lookup f = none) ∨ ∃ d v, fs.lookup f = some d ∧ xs.lookup f = some v ∧ RepV K m H d v
  | [], [], _, _ => .inl ⟨rfl, rfl⟩
  | [], _ :: _, e, _ => by cases e
  | _ :: _, [], e, _ => by cases e
  | (g, d) :: fs, (g', v) :: xs, e, r => by
    simp only [List.map_cons, List.cons.injEq] at e
    obtain ⟨e1, e2⟩ := e
    subst e1
    rw [List.map_cons, List.map_cons] at r
    unfold RepL at r
    obtain ⟨x, rest, er, r1, r2⟩ := r
    cases er
    rw [List.lookup_cons, List.lookup_cons]
    cases q : f == g with
    | true => exact .inr ⟨d, v, rfl, rfl, r1⟩
    | false => exact lookup_rep e2 r2
theorem putFD_rep {f : Str} {d : D} {v : V} (rv : RepV K m H d v) : ∀ {fs : List (Str × D)} {xs : List (Str × V)}, fs.map (·.1) = xs.map (·.1) → RepL K m H (fs.map (·.2)) (xs.map (·.2)) →
    (putFD f d fs).map (·.1) = (putF f v xs).map (·.1) ∧ RepL K m H ((putFD f d fs).map (·.2)) ((putF f v xs).map (·.2))
  | [], [], _, _ => ⟨rfl, .cons rv .nil⟩
  | [], _ :: _, e, _ => by cases e
  | _ :: _, [], e, _ => by cases e
  | (g, x) :: fs, (g', y) :: xs, e, r => by
    simp only [List.map_cons, List.cons.injEq] at e
    obtain ⟨e1, e2⟩ := e
    subst e1
    rw [List.map_cons, List.map_cons] at r
    unfold RepL at r
    obtain ⟨x1, rest, er, r1, r2⟩ := r
    cases er
    unfold putFD putF
    by_cases c : g = f
    · rw [if_pos c, if_pos c]
      exact ⟨by simp [e2], .cons rv r2⟩
    · rw [if_neg c, if_neg c]
      obtain ⟨q1, q2⟩ := putFD_rep (f := f) rv e2 r2
      exact ⟨by rw [List.map_cons, List.map_cons, q1], .cons r1 q2⟩
end
section
variable {X : Cx} {g : Cfg} {o e value : Expr} {es : List Expr} {O VV : EM} {As : AM} {C f x : Str} {nos : List Str} {pos pos' p apos : Pos} {k : Nat} {ps : List Str} {φ : Fm}
theorem em_fld (hK : X.K = g.K) (I : InsF X.K C nos) (hf : f ∈ nos) (ho : PE X o (tM g O)) (hb : attributeBase o f X.env (eval o X.env) = eval o X.env := by rfl) : PE X (.Attribute o f pos) (tM g (fldM C f O)) := by
  refine PE.weak (pe_fld ho hb) fun σ H Q ⟨m, ds, h, hs, rh, ou⟩ => ⟨m, ds, h, hs, rh, OutE.toE ou fun d h1 v m1 H1 g1 r1 rh1 o1 => ?_⟩
  unfold fldF at o1
  split at o1
  · rename_i l
    unfold RepV at r1
    obtain ⟨a, ha, rfl⟩ := r1
    split at o1
    · rename_i C' fs e1
      split at o1
      · rename_i c
        subst c
        obtain ⟨dx, xs, hx, kk, rk⟩ := rh1.at_ l a _ ha e1
        rcases lookup_rep (f := f) kk rk with ⟨q, _⟩ | ⟨d, v, q, q2, rv⟩
        · rw [q] at o1; exact o1.elim
        · rw [q] at o1
          exact ⟨a, _, dx, xs, v, rfl, by rw [hK]; exact hx, by have := I.cls; exact this, I.no f hf, q2, o1 v m1 H1 (.refl _ _) rv rh1⟩
      · exact o1.elim
    · exact o1.elim
  · exact o1.elim
theorem sm_fld (hK : X.K = g.K) (I : InsF X.K C nos) (hf : f ∈ nos) (ho : PE X o (tM g O)) (hv : PE X value (tM g VV)) (hsw : swapsWith value (some (.Attribute o f pos')) pos.line X.env = pure false := by rfl) :
    PS X (.Assign [.Attribute o f pos'] value pos) (tS g (setFldM C f VV O)) := by
  refine PS.weak (ps_fld ho hv hsw) fun N σ H ⟨m, ds, h, hs, rh, ou⟩ => ⟨m, ds, h, hs, rh, OutE.toS hs ou fun d1 h1 v1 m1 H1 g1 r1 rh1 o1 => ?_⟩
  refine ⟨m1, ds, h1, hs.mono g1, rh1, OutE.toS (hs.mono g1) o1 fun d2 h2 v2 m2 H2 g2 r2 rh2 o2 => ?_⟩
  unfold setFldF at o2
  split at o2
  · rename_i h3 e2
    split at e2
    · rename_i l
      unfold RepV at r2
      obtain ⟨a, ha, rfl⟩ := r2
      split at e2
      · rename_i C' fs e1
        split at e2
        · rename_i c
          obtain ⟨c1, c2⟩ := c
          subst c1
          cases e2
          obtain ⟨dx, xs, hx, kk, rk⟩ := rh2.at_ l a _ ha e1
          obtain ⟨kk2, rk2⟩ := putFD_rep (f := f) (r1.mono g2) kk rk
          have w : Grow m2 H2 m2 (upd H2 a (.ins (He.ga g.K C') dx (putF f v1 xs))) := .write hx (fun _ z => nomatch z) (fun _ _ z => nomatch z) (fun _ z => nomatch z)
          refine ⟨a, _, dx, xs, rfl, by rw [hK]; exact hx, by have := I.cls; exact this, I.no f hf, ?_, ?_⟩
          · have : fs.length = xs.length := map_len (δ := Unit) kk
            omega
          · rw [hK]
            exact o2 σ m2 _ w (((hs.mono g1).mono g2).mono w) (rh2.write ha hx (fun _ z => nomatch z) (fun _ _ z => nomatch z) (fun _ z => nomatch z) ⟨dx, _, upd_same, kk2, rk2.mono w⟩)
        · cases e2
      · cases e2
    · cases e2
  · exact o2.elim
/-- the receiver -/
theorem meth_read {H : Hp} {σ : St} {Q : VK} {t : List L2.V → Hp → Prop} {m : Str} (q : tM g (methM C m φ O As) σ H Q) :
    tM g O σ H fun x H1 => ∃ a dx fs m1 ds h1 l, x = .ref a ∧ H1 a = some (.ins (He.ga g.K C) dx fs) ∧ fs.lookup m = none ∧ RepS g.K m1 H1 ds σ ∧ RepH g.K m1 H1 h1 ∧ RepV g.K m1 H1 (.loc l) (.ref a) ∧ OutE g m1 H1 σ Q ((As ds h1).bind fun xs h => φ (.loc l :: xs) h) := by
  obtain ⟨mm, ds, h, hs, rh, o⟩ := q
  refine ⟨mm, ds, h, hs, rh, OutE.toE o fun d h1 v m1 H1 g1 r1 rh1 o1 => ?_⟩
  split at o1
  · rename_i l
    have r1' := r1
    unfold RepV at r1
    obtain ⟨a, ha, rfl⟩ := r1
    split at o1
    · rename_i C' fs e1
      split at o1
      · rename_i c
        obtain ⟨c1, c2⟩ := c
        subst c1
        obtain ⟨dx, xs, hx, kk, rk⟩ := rh1.at_ l a _ ha e1
        refine ⟨a, dx, xs, m1, ds, h1, l, rfl, hx, ?_, hs.mono g1, rh1, r1', o1⟩
        rcases lookup_rep (f := m) kk rk with ⟨_, q⟩ | ⟨d, v, q, _, _⟩
        · exact q
        · rw [c2] at q; cases q
      · exact o1.elim
    · exact o1.elim
  · exact o1.elim
theorem fm_call {n : Nat} {m : List Addr} {H : Hp} {h : Hs} {σ : St} {Q : VK} {xs : List D} {vs : List V} (ar : ∀ xs h, xs.length ≠ n → φ xs h = .bad) (rl : RepL g.K m H xs vs) (rh : RepH g.K m H h) (o : OutE g m H σ Q (φ xs h)) : spM g.K n φ vs H Q (WE g.W σ) := by
  by_cases hl : xs.length = n
  · refine ⟨by rw [rl.length]; exact hl, m, xs, h, rl, rh, ?_⟩
    cases e : φ xs h with
    | ok d h2 => rw [e] at o; exact o
    | exc c h2 => rw [e] at o; exact o
    | bad => rw [e] at o; exact o
  · rw [ar _ _ hl] at o; exact o.elim
theorem em_meth {m : Str} {pl : Sem Bool} (F : MtAt X.prog X.w X.K X.mg X.base k C m ps φ) (hK : X.K = g.K) (hr : Room k X.A) (tk : Takes X g.W) (ho : PE X o (tM g O)) (ha : PA X (e :: es) (tA g As))
    (hst : starEach (e :: es) X.env = (false, eval e X.env) :: starEach es X.env := by rfl) (hpl : (backTo pos (starEach es X.env)).any (·.1) = false := by rfl)
    (ht : eval (.Call (.Attribute o m apos) (e :: es) [] pos) X.env = (do
      let ov ← eval o X.env
      standAt apos.atName
      let (f, first) ← holding [ov] (getMethod ov m pl)
      callWith pos f first (backTo pos (starEach (e :: es) X.env)) (backToKw pos (keywordEach [] X.env))) := by rfl) :
    PE X (.Call (.Attribute o m apos) (e :: es) [] pos) (tM g (methM C m φ O As)) := by
  obtain ⟨f, fd, c, hm, hb, G⟩ := F.ex
  refine ⟨fun pns s σ H Q I q => ?_⟩
  refine PySem.W.methodCall_KW (pl := pl) (thn (ho.run pns s σ H _ I (meth_read (t := fun _ _ => True) q)) fun u s1 ⟨x, H1, I1, rx, a, dx, fs, m1, ds, h1, l, ex, ea, lk, hs1, rh1, rv, o1⟩ => ?_) ht
  subst ex
  cases rx
  refine getmeth_ok I1 (by rw [hK]; exact ea) c hm lk ?_
  refine PySem.W.callWith_K (first := [.ref a]) (h₀ := X.base) I.ok.mod.kin hm.kp (thn (ha.run pos pns s1 σ H1 (fun vs H2 => spM g.K ps.length φ (.ref a :: vs) H2 Q (WE g.W σ)) I1 ⟨m1, ds, h1, hs1, rh1, OutA.toE o1 fun xs h2 vs m2 H2 g2 rl rh2 o2 => ?_⟩) fun us s2 ⟨vs, H2, I2, r, q2⟩ => ⟨I2.kIn, ?_⟩) hst hpl
  · exact fm_call F.ar (.cons (rv.mono g2) rl) rh2 o2
  · exact run_fnS (E := WE g.W) (us := .ref a :: us) (vs := .ref a :: vs) G hr hb (passAt tk σ) I2 (.cons rfl r) (by rw [hK]; exact q2)
theorem em_meth0 {m : Str} {pl : Sem Bool} (F : MtAt X.prog X.w X.K X.mg X.base k C m ps φ) (hK : X.K = g.K) (hr : Room k X.A) (tk : Takes X g.W) (ho : PE X o (tM g O))
    (ht : eval (.Call (.Attribute o m apos) [] [] pos) X.env = (do
      let ov ← eval o X.env
      standAt apos.atName
      let (f, first) ← holding [ov] (getMethod ov m pl)
      callWith pos f first (backTo pos (starEach [] X.env)) (backToKw pos (keywordEach [] X.env))) := by rfl) :
    PE X (.Call (.Attribute o m apos) [] [] pos) (tM g (methM C m φ O nilA)) := by
  obtain ⟨f, fd, c, hm, hb, G⟩ := F.ex
  refine ⟨fun pns s σ H Q I q => ?_⟩
  refine PySem.W.methodCall_KW (pl := pl) (thn (ho.run pns s σ H _ I (meth_read (t := fun _ _ => True) q)) fun u s1 ⟨x, H1, I1, rx, a, dx, fs, m1, ds, h1, l, ex, ea, lk, hs1, rh1, rv, o1⟩ => ?_) ht
  subst ex
  cases rx
  refine getmeth_ok I1 (by rw [hK]; exact ea) c hm lk ?_
  have o2 : OutE g m1 H1 σ Q (φ [.loc l] h1) := o1
  exact PySem.W.callWith_K0 (first := [.ref a]) I1.kIn hm.kp (run_fnS (E := WE g.W) (us := [.ref a]) (vs := [.ref a]) G hr hb (passAt tk σ) I1 (.cons rfl .nil) (by rw [hK]; exact fm_call F.ar (.cons rv .nil) rh1 o2))
/-- a new instance -/
theorem new_read {H1 : Hp} {m1 : List Addr} {h1 : Hs} {n : Nat} {xs : List D} {vs : List V} {σ : St} {Q : VK} (ar : ∀ xs h, xs.length ≠ n → φ xs h = .bad) (rl : RepL g.K m1 H1 xs vs) (rh : RepH g.K m1 H1 h1)
    (o : OutE g m1 H1 σ Q (match φ (.loc h1.length :: xs) (h1 ++ [.ins C []]) with | .ok .non h' => .ok (.loc h1.length) h' | _ => .bad)) {x dx : Addr} (hx : H1 x = none) (hdx : H1 dx = none) (ne : dx ≠ x) :
    spM g.K n φ (.ref x :: vs) (upd (upd H1 dx (.own x)) x (.ins (He.ga g.K C) dx [])) (fun v H2 => v = .non ∧ Q (.ref x) H2) E0 := by
  have w1 : Grow m1 H1 m1 (upd H1 dx (.own x)) := .put hdx
  have hx' : upd H1 dx (.own x) x = none := by rw [upd_ne (Ne.symm ne)]; exact hx
  have w2 : Grow m1 (upd H1 dx (.own x)) (m1 ++ [x]) (upd (upd H1 dx (.own x)) x (.ins (He.ga g.K C) dx [])) := .app hx'
  have rh2 : RepH g.K (m1 ++ [x]) (upd (upd H1 dx (.own x)) x (.ins (He.ga g.K C) dx [])) (h1 ++ [.ins C []]) := (rh.put hdx).new hx' ⟨dx, [], upd_same, rfl, by show RepL g.K _ _ [] []; exact .nil⟩
  have rx : RepV g.K (m1 ++ [x]) (upd (upd H1 dx (.own x)) x (.ins (He.ga g.K C) dx [])) (.loc h1.length) (.ref x) := by unfold RepV; exact ⟨x, by rw [← rh.len]; simp, rfl⟩
  by_cases hl : (D.loc h1.length :: xs).length = n
  · have rl2 := RepL.cons rx ((rl.mono w1).mono w2)
    refine ⟨by rw [rl2.length]; exact hl, _, _, _, rl2, rh2, ?_⟩
    cases e : φ (.loc h1.length :: xs) (h1 ++ [.ins C []]) with
    | ok d h2 =>
      rw [e] at o
      cases d with
      | non =>
        intro v m' H' g' rv rh'
        unfold RepV at rv
        exact ⟨rv, o (.ref x) m' H' ((w1.trans w2).trans g') (rx.mono g') rh'⟩
      | _ => exact (show False from o).elim
    | exc c h2 => rw [e] at o; exact o.elim
    | bad => rw [e] at o; exact o.elim
  · rw [ar _ _ hl] at o; exact o.elim
theorem em_new0 (F : MkAt X.prog X.w X.K X.mg X.base k C ps φ) (hK : X.K = g.K) (hr : Room (k + 1) X.A) (hg : Gl X C) (hdb : (C == ("__debug__" : Str)) = false := by decide) : PE X (.Call (.Name C p) [] [] pos) (tM g (newM C φ nilA)) := by
  obtain ⟨f, fd, hM, hm, hb, G⟩ := F.ex
  refine PE.weak (pe_make0 (dvs := []) (E := E0) hM G hr hg hm hb .nil passL hdb) fun σ H Q ⟨m, ds, h, hs, rh, o⟩ x dx hx hdx ne => ?_
  have := new_read (g := g) (C := C) (φ := φ) F.ar .nil rh o hx hdx ne
  rw [hK]
  exact this
end
end DV
namespace DV
open PySem PySem.Spec PyProof.Rows L2
section
variable {P : Program} {w : World} {K : PySem.W.Frag} {mg : Str → Option Value} {base : Heap} {x qual C m : Str} {params : Arguments} {body : List Stmt} {scope : Scope} {f : Addr} {fd : FuncData} {ps : List Str} {k np nN : Nat} {M : SM}
theorem bad_ok (F : FunD K x qual params body scope [] [] f fd) : FnOk P w K mg base (L2.CX P w) 0 f fd ps (spM K ps.length fun _ _ => .bad) :=
  ⟨fun vs H Q E h => h.1, fun A outer s H args us vs Q E _ _ _ _ h => by obtain ⟨_, m, ds, hs, _, _, o⟩ := h; exact o.elim⟩
theorem mtAt_zero (F : FunD K x qual params body scope [] [] f fd) (c : Cls K (He.ga K C)) (hm : Meth K (He.ga K C) m f) (hb : Binds K fd ps []) : MtAt P w K mg base 0 C m ps fun _ _ => .bad :=
  ⟨⟨f, fd, c, hm, hb, bad_ok F⟩, fun _ _ _ => rfl⟩
theorem mtAt_by (kd : Nrm) (hp : ps.length = np) (c : Cls K (He.ga K C)) (hm : Meth K (He.ga K C) m f) (hb : Binds K fd ps []) (G : FnOk P w K mg base (L2.CX P w) (k + 1) f fd ps (spM K np (kd.f (runM np nN M)))) : MtAt P w K mg base (k + 1) C m ps (kd.f (runM np nN M)) := by
  subst hp
  exact ⟨⟨f, fd, c, hm, hb, G⟩, kd.ar _ _ (runM_ar _ _ _)⟩
theorem mkAt_zero (F : FunD K x qual params body scope [] [] f fd) (c : Mk K (He.ga K C) f) (hm : mg C = some (.ref (He.ga K C))) (hb : Binds K fd ps []) : MkAt P w K mg base 0 C ps fun _ _ => .bad :=
  ⟨⟨f, fd, c, hm, hb, bad_ok F⟩, fun _ _ _ => rfl⟩
theorem mkAt_by (kd : Nrm) (hp : ps.length = np) (c : Mk K (He.ga K C) f) (hm : mg C = some (.ref (He.ga K C))) (hb : Binds K fd ps []) (G : FnOk P w K mg base (L2.CX P w) (k + 1) f fd ps (spM K np (kd.f (runM np nN M)))) : MkAt P w K mg base (k + 1) C ps (kd.f (runM np nN M)) := by
  subst hp
  exact ⟨⟨f, fd, c, hm, hb, G⟩, kd.ar _ _ (runM_ar _ _ _)⟩
/-- a class made at one level less, or not at all -/
def MkN (P : Program) (w : World) (K : PySem.W.Frag) (mg : Str → Option Value) (base : Heap) (n : Nat) (C : Str) (ps : List Str) (φ : Fm) : Prop := (∃ k, n = k + 1 ∧ MkAt P w K mg base k C ps φ) ∨ ∀ xs h, φ xs h = .bad
end
section
variable {X : Cx} {g : Cfg} {e : Expr} {es : List Expr} {As : AM} {C : Str} {pos p : Pos} {n : Nat} {ps : List Str} {φ : Fm}
theorem pe_bad (M : EM) (b : ∀ ds h, M ds h = .bad) : PE X e (tM g M) := ⟨fun pns s σ H Q I ⟨m, ds, h, hs, rh, o⟩ => by rw [b] at o; exact o.elim⟩
theorem em_newN0 (F : MkN X.prog X.w X.K X.mg X.base n C ps φ) (hK : X.K = g.K) (hr : Room n X.A) (hg : Gl X C) (hdb : (C == ("__debug__" : Str)) = false := by decide) : PE X (.Call (.Name C p) [] [] pos) (tM g (newM C φ nilA)) := by
  rcases F with ⟨k, rfl, F⟩ | F
  · exact em_new0 F hK hr hg hdb
  · refine pe_bad _ fun ds h => ?_
    unfold newM nilA
    rw [R.bind_ok, F]
end
section
variable {N : Sl → Hs → Prop} {Q : D → Hs → Prop} {X : QX} {ds : Sl} {h : Hs}
@[simp] theorem wp_fld (C f : Str) (O : EM) : (fldM C f O ds h).wp Q X = (O ds h).wp (fun d h => match fldF C f d h with | some p => Q p.1 p.2 | none => False) X := by
  unfold fldM
  rw [wp_un]
  congr 1; funext d h
  cases fldF C f d h <;> rfl
@[simp] theorem ws_setFld (C f : Str) (V O : EM) : (setFldM C f V O ds h).wp N Q X = (V ds h).wp (fun v h => (O ds h).wp (fun o h => match setFldF C f o v h with | some h => N ds h | none => False) X) X := by
  simp only [setFldM, ws_lift]
  congr 1; funext v h
  congr 1; funext o h
  cases setFldF C f o v h <;> rfl
@[simp] theorem wp_meth (C m : Str) (φ : Fm) (O : EM) (As : AM) : (methM C m φ O As ds h).wp Q X = (O ds h).wp (fun d h => match d with
    | .loc l => (match h[l]? with
      | some (.ins C' fs) => (C' = C ∧ fs.lookup m = none) ∧ (As ds h).wp (fun xs h => (φ (d :: xs) h).wp Q X) X
      | _ => False)
    | _ => False) X := by
  simp only [methM, wp_bind]
  congr 1; funext d h
  cases d with
  | loc l =>
    simp only
    cases h[l]? with
    | none => rfl
    | some o =>
      cases o with
      | ins C' fs =>
        simp only
        by_cases c : C' = C ∧ fs.lookup m = none
        · rw [if_pos c]; simp [c]
        · rw [if_neg c]; simp only [c, false_and]; rfl
      | _ => rfl
  | _ => rfl
@[simp] theorem wp_new_ (C : Str) (φ : Fm) (As : AM) : (newM C φ As ds h).wp Q X = (As ds h).wp (fun xs h => match φ (.loc h.length :: xs) (h ++ [.ins C []]) with
    | .ok .non h' => Q (.loc h.length) h'
    | _ => False) X := by
  simp only [newM, wp_bind]
  congr 1; funext xs h
  cases φ (.loc h.length :: xs) (h ++ [.ins C []]) with
  | ok d h' => cases d <;> rfl
  | exc _ _ => rfl
  | bad => rfl
theorem ws_try (oi : Option Nat) (tb : List (Str × Bool)) (B Hd : SM) : (tryM oi tb B Hd ds h).wp N Q X = (match B ds h with
    | .exc c ds h => (match tabF tb c with
      | some true => (suiteM oi Hd (nameM oi c ds) h).wp N Q X
      | some false => X c h
      | none => False)
    | r => r.wp N Q X) := by
  unfold tryM
  cases B ds h with
  | exc c ds h => simp only; cases tabF tb c with
    | none => rfl
    | some b => cases b <;> rfl
  | _ => rfl
theorem ws_suite (oi : Option Nat) (Hd : SM) (w : (Hd ds h).wp (fun ds h => N (dropS oi ds) h) Q xF) : (suiteM oi Hd ds h).wp N Q X := by
  unfold suiteM
  cases q : Hd ds h with
  | nx a b => rw [q] at w; exact w
  | rt a b => rw [q] at w; exact w
  | exc _ _ _ => rw [q] at w; exact w.elim
  | bk _ _ => rw [q] at w; exact w.elim
  | ct _ _ => rw [q] at w; exact w.elim
  | bad => rw [q] at w; exact w.elim
/-- a dict locked around a statement -/
theorem ws_lock {i l : Nat} {kvs : List (Key × D)} {S : SM} (e1 : ds[i]? = some (some (.loc l))) (e2 : h[l]? = some (.dct kvs))
    (w : (S ds (h.set l (.fdc kvs))).wp (fun ds h' => h'[l]? = some (.fdc kvs) ∧ N ds (h'.set l (.dct kvs))) (fun d h' => h'[l]? = some (.fdc kvs) ∧ Q d (h'.set l (.dct kvs))) X) : (lockS i S ds h).wp N Q X := by
  unfold lockS
  simp only [e1, e2]
  cases q : S ds (h.set l (.fdc kvs)) with
  | nx a b => rw [q] at w; rw [thawS_nx, if_pos (cB_of w.1)]; exact w.2
  | rt a b => rw [q] at w; rw [thawS_rt, if_pos (cB_of w.1)]; exact w.2
  | exc _ _ _ => rw [q] at w; exact w
  | bk _ _ => rw [q] at w; exact w.elim
  | ct _ _ => rw [q] at w; exact w.elim
  | bad => rw [q] at w; exact w.elim
end
theorem wp_eff {Q : D → Hs → Prop} {X : QX} {φ : Fm} {xs : List D} {h : Hs} (w : (φ xs h).wp (fun d h' => (noloc d = true ∧ ∀ (i : Nat) (o : AO), i < h.length → h'[i]? = some o → h[i]? = some o ∨ nolocO o = true) ∧ Q d (h'.take h.length))
    (fun c h' => (∀ (i : Nat) (o : AO), i < h.length → h'[i]? = some o → h[i]? = some o ∨ nolocO o = true) ∧ X c (h'.take h.length))) : (kEff.f φ xs h).wp Q X := by
  show (nEff φ xs h).wp Q X
  unfold nEff
  cases e : φ xs h with
  | ok d h' =>
    rw [e] at w
    simp only
    rw [if_pos w.1]
    exact w.2
  | exc c h' =>
    rw [e] at w
    simp only
    rw [if_pos w.1]
    exact w.2
  | bad => rw [e] at w; exact w
end DV
namespace DV
open PySem PySem.Spec PyProof.Rows L2
section
variable {h : Hs} {i j : Int} {a b : Str} {xs ys : List D} {l : Nat} {v x : D}
@[simp] theorem mulX_int : mulXF (.int i) (.int j) h = if cMul i j = true then some (.int (i * j), h) else none := rfl
@[simp] theorem mulX_str : mulXF (.str a) (.int j) h = if cB (-1000000 ≤ j ∧ j ≤ 1000000 ∧ a.length ≤ 1000000 ∧ a.length * j.toNat ≤ LIM) = true then some (.str (repS a j.toNat), h) else none := rfl
@[simp] theorem mulX_tup : mulXF (.tup xs) (.int i) h = if -1000 ≤ i ∧ i ≤ 1000 ∧ xs.length ≤ 1000 then some (.tup (List.replicate i.toNat xs).flatten, h) else none := rfl
theorem set_lst {k : Nat} (e : h[l]? = some (.lst xs)) (hk : k < xs.length) : setAF (.loc l) (.int (k : Int)) v h = some (h.set l (.lst (xs.set k v))) := by
  simp [setAF, e, ixN, hk]
theorem set_dct {kvs : List (Key × D)} {k : D} {kk : Key} (e : h[l]? = some (.dct kvs)) (ek : keyD k = some kk) (hz : kvs.length < 16777216) : setAF (.loc l) k v h = some (h.set l (.dct (putD kvs kk v))) := by
  simp [setAF, e, hz, ek]
theorem setd_dct {kvs : List (Key × D)} {k : D} {kk : Key} (e : h[l]? = some (.dct kvs)) (ek : keyD k = some kk) (hz : kvs.length < 16777216) : setdF (.loc l) [k, x] h = some (match valD kvs kk with | some v => (v, h) | none => (x, h.set l (.dct (putD kvs kk x)))) := by
  simp [setdF, e, hz, ek] <;> cases valD kvs kk <;> rfl
theorem ck_dct {kvs : List (Key × D)} (e : h[l]? = some (.dct kvs)) : ckDct (.loc l) h = true := by simp [ckDct, e]
theorem in_dct {kvs : List (Key × D)} {k : D} {kk : Key} (e : h[l]? = some (.dct kvs)) (ek : keyD k = some kk) : inF k (.loc l) h = some (.bl (valD kvs kk).isSome, h) := by
  cases k <;> simp_all [inF, inB]
theorem nin_dct {kvs : List (Key × D)} {k : D} {kk : Key} (e : h[l]? = some (.dct kvs)) (ek : keyD k = some kk) : ninF k (.loc l) h = some (.bl (!(valD kvs kk).isSome), h) := by
  cases k <;> simp_all [ninF, inB]
theorem ix_dct {kvs : List (Key × D)} {k : D} {kk : Key} (e : h[l]? = some (.dct kvs)) (ek : keyD k = some kk) : ixF (.loc l) k h = (valD kvs kk).map fun d => (d, h) := by
  simp [ixF, e, ek]
theorem len_dct {kvs : List (Key × D)} (e : h[l]? = some (.dct kvs)) : lenF [.loc l] h = some (.int kvs.length, h) := by simp [lenF, e]
@[simp] theorem key_int : keyD (.int i) = some (.inl i) := rfl
@[simp] theorem key_str : keyD (.str a) = some (.inr a) := rfl
end
end DV
namespace DV
open PySem PySem.Spec PyProof.Rows L2
def min2I (i j : Int) : Int := if j < i then j else i
def min3F : List D → Hs → Res
  | [.int i, .int j, .int k], h => some (.int (min2I (min2I i j) k), h)
  | _, _ => none
def blsOf : List D → Option (List Bool)
  | [] => some []
  | .bl s :: r => (blsOf r).map fun ss => s :: ss
  | _ => none
@[simp] theorem blsOf_map (ns : List Bool) : blsOf (ns.map D.bl) = some ns := by
  induction ns with
  | nil => rfl
  | cons n ns ih => rw [List.map_cons]; unfold blsOf; rw [ih]; rfl
def isTF : VF2
  | .bl a, .bl b, h => some (.bl (a == b), h)
  | _, _, _ => none
def isnTF : VF2
  | .bl a, .bl b, h => some (.bl (a != b), h)
  | _, _, _ => none
@[simp] theorem min3_int {h : Hs} {i j k : Int} : min3F [.int i, .int j, .int k] h = some (.int (min2I (min2I i j) k), h) := rfl
@[simp] theorem isT_bl {h : Hs} {a b : Bool} : isTF (.bl a) (.bl b) h = some (.bl (a == b), h) := rfl
@[simp] theorem isnT_bl {h : Hs} {a b : Bool} : isnTF (.bl a) (.bl b) h = some (.bl (a != b), h) := rfl
end DV
namespace DV
open PySem PySem.Spec PyProof.Rows L2
end DV
namespace DV
open PySem PySem.Spec PyProof.Rows L2
end DV
namespace DV
open PySem PySem.Spec PyProof.Rows L2
noncomputable def m_is_name : SM :=
  seqM (ifM (orM (notM (tbM (chainM leF leF (cM (.int 1)) (argM lenF (consA (vM 0) nilA)) (cM (.int 12))))) (tbM (binM ninF (binM ixF (vM 0) (cM (.int 0))) (cM (.str "abcdefghijklmnopqrstuvwxyz"))))) (retM (cM (.bl false))) (passM)) (seqM (forM (valI (vM 0)) (nameG 1) (ifM (andM (tbM (binM ninF (vM 1) (cM (.str "abcdefghijklmnopqrstuvwxyz")))) (tbM (binM ninF (vM 1) (cM (.str "0123456789"))))) (retM (cM (.bl false))) (passM))) (retM (cM (.bl true))))
noncomputable def F_is_name : Nat → Fm
  | 0 => fun _ _ => .bad
  | n + 1 => kPure.f (runM 1 2 (m_is_name))
noncomputable def m_parts_of : SM :=
  seqM (ifM (tbM (binM eqF (binM ixF (vM 0) (cM (.int 0))) (cM (.str "blank")))) (retM (argM tupF (nilA))) (passM)) (retM (binM ixF (vM 0) (cM (.int 2))))
noncomputable def F_parts_of : Nat → Fm
  | 0 => fun _ _ => .bad
  | n + 1 => kPure.f (runM 1 1 (m_parts_of))
noncomputable def m_knots_of (f_parts_of f_knots_of : Fm) : SM :=
  retM (binM addF (cM (.int 1)) (argM sumF (consA (lcM [1] (valI (callM f_parts_of (consA (vM 0) nilA))) (nameG 1) (yesM) (callM f_knots_of (consA (vM 1) nilA))) nilA)))
noncomputable def F_knots_of : Nat → Fm
  | 0 => fun _ _ => .bad
  | n + 1 => kPure.f (runM 1 2 (m_knots_of (F_parts_of n) (F_knots_of n)))
theorem S_knots_of (n : Nat) : F_knots_of (n + 1) = kPure.f (runM 1 2 (m_knots_of (F_parts_of n) (F_knots_of n))) := rfl
noncomputable def m_depth_of (f_parts_of f_depth_of : Fm) : SM :=
  retM (binM addF (cM (.int 1)) (maxdF (lcM [1] (valI (callM f_parts_of (consA (vM 0) nilA))) (nameG 1) (yesM) (callM f_depth_of (consA (vM 1) nilA))) (cM (.int 0))))
noncomputable def F_depth_of : Nat → Fm
  | 0 => fun _ _ => .bad
  | n + 1 => kPure.f (runM 1 2 (m_depth_of (F_parts_of n) (F_depth_of n)))
theorem S_depth_of (n : Nat) : F_depth_of (n + 1) = kPure.f (runM 1 2 (m_depth_of (F_parts_of n) (F_depth_of n))) := rfl
noncomputable def m_put_at (f_put_at f_parts_of : Fm) : SM :=
  seqM (ifM (tbM (binM eqF (argM lenF (consA (vM 1) nilA)) (cM (.int 0)))) (retM (vM 2)) (passM)) (seqM (setM 3 (binM ixF (vM 1) (cM (.int 0)))) (seqM (ifM (notM (tbM (chainM leF ltF (cM (.int 0)) (vM 3) (argM lenF (consA (callM f_parts_of (consA (vM 0) nilA)) nilA))))) (raiseM "NoPlace") (passM)) (seqM (setM 4 (argM lstT (consA (binM ixF (vM 0) (cM (.int 2))) nilA))) (seqM (setIxM setAF (callM f_put_at (consA (binM ixF (vM 4) (vM 3)) (consA (slM (vM 1) (someP (cM (.int 1))) (noP)) (consA (vM 2) nilA)))) (vM 4) (vM 3)) (retM (argM tupF (consA (cM (.str "block")) (consA (binM ixF (vM 0) (cM (.int 1))) (consA (argM tupT (consA (vM 4) nilA)) nilA)))))))))
noncomputable def F_put_at : Nat → Fm
  | 0 => fun _ _ => .bad
  | n + 1 => kPure.f (runM 3 5 (m_put_at (F_put_at n) (F_parts_of n)))
theorem S_put_at (n : Nat) : F_put_at (n + 1) = kPure.f (runM 3 5 (m_put_at (F_put_at n) (F_parts_of n))) := rfl
noncomputable def m_same_blocks : SM :=
  retM (andV (chainM eqF eqF (binM ixF (vM 0) (cM (.int 0))) (binM ixF (vM 1) (cM (.int 0))) (cM (.str "block"))) (andV (binM eqF (binM ixF (vM 0) (cM (.int 1))) (binM ixF (vM 1) (cM (.int 1)))) (binM eqF (argM lenF (consA (binM ixF (vM 0) (cM (.int 2))) nilA)) (argM lenF (consA (binM ixF (vM 1) (cM (.int 2))) nilA)))))
noncomputable def F_same_blocks : Nat → Fm
  | 0 => fun _ _ => .bad
  | n + 1 => kPure.f (runM 2 2 (m_same_blocks))
theorem S_same_blocks (n : Nat) : F_same_blocks (n + 1) = kPure.f (runM 2 2 (m_same_blocks)) := rfl
noncomputable def m_fit_under (f_fit_under f_same_blocks : Fm) : SM :=
  seqM (ifM (tbM (binM eqF (binM ixF (vM 0) (cM (.int 0))) (cM (.str "blank")))) (retM (binM eqF (mtMc ckDct setdF (vM 2) (consA (binM ixF (vM 0) (cM (.int 1))) (consA (vM 1) nilA))) (vM 1))) (passM)) (seqM (ifM (notM (truM (callM f_same_blocks (consA (vM 0) (consA (vM 1) nilA))))) (retM (cM (.bl false))) (passM)) (seqM (forM (enumI (binM ixF (vM 0) (cM (.int 2)))) (tupG 2 (consG (nameG 3) (consG (nameG 4) (nilG)))) (ifM (notM (truM (callM f_fit_under (consA (vM 4) (consA (binM ixF (binM ixF (vM 1) (cM (.int 2))) (vM 3)) (consA (vM 2) nilA)))))) (retM (cM (.bl false))) (passM))) (retM (cM (.bl true)))))
noncomputable def F_fit_under : Nat → Fm
  | 0 => fun _ _ => .bad
  | n + 1 => kEff.f (runM 3 5 (m_fit_under (F_fit_under n) (F_same_blocks n)))
theorem S_fit_under (n : Nat) : F_fit_under (n + 1) = kEff.f (runM 3 5 (m_fit_under (F_fit_under n) (F_same_blocks n))) := rfl
noncomputable def m_fitting (f_fit_under : Fm) : SM :=
  seqM (setM 2 (newDM)) (seqM (ifM (truM (callM f_fit_under (consA (vM 0) (consA (vM 1) (consA (vM 2) nilA))))) (retM (vM 2)) (passM)) (retM (cM .non)))
noncomputable def F_fitting : Nat → Fm
  | 0 => fun _ _ => .bad
  | n + 1 => kRaw.f (runM 2 3 (m_fitting (F_fit_under n)))
theorem S_fitting (n : Nat) : F_fitting (n + 1) = kRaw.f (runM 2 3 (m_fitting (F_fit_under n))) := rfl
noncomputable def m__law_mixed : SM :=
  retM (binM modF (binM mulXF (binM addF (vM 0) (cM (.int 1))) (cM (.int 1357913579135791357))) (cM (.int 2305843009213693951)))
noncomputable def F__law_mixed : Nat → Fm
  | 0 => fun _ _ => .bad
  | n + 1 => kPure.f (runM 1 1 (m__law_mixed))
theorem S__law_mixed (n : Nat) : F__law_mixed (n + 1) = kPure.f (runM 1 1 (m__law_mixed)) := rfl
end DV
namespace DV
open PySem PySem.Spec PyProof.Rows L2
theorem ltc_asym : ∀ a b : List Nat, ltCps a b = true → ltCps b a = false
  | [], [], h => by cases h
  | [], _ :: _, _ => rfl
  | _ :: _, [], h => by cases h
  | a :: r, b :: t, h => by
    unfold ltCps at h ⊢
    rw [Bool.or_eq_true, Bool.and_eq_true, decide_eq_true_eq, beq_iff_eq] at h
    rcases h with h | ⟨rfl, h⟩
    · have h1 : decide (b < a) = false := decide_eq_false (by omega)
      have h2 : (b == a) = false := beq_eq_false_iff_ne.mpr (by omega)
      rw [h1, h2]; rfl
    · have h1 : decide (a < a) = false := decide_eq_false (by omega)
      rw [h1, ltc_asym r t h]; simp
theorem ltc_antisymm : ∀ a b : List Nat, ltCps a b = false → ltCps b a = false → a = b
  | [], [], _, _ => rfl
  | [], _ :: _, h, _ => by cases h
  | _ :: _, [], _, h => by cases h
  | a :: r, b :: t, h, g => by
    unfold ltCps at h g
    rw [Bool.or_eq_false_iff] at h g
    have h1 := of_decide_eq_false h.1
    have g1 := of_decide_eq_false g.1
    have e : a = b := by omega
    subst e
    have h2 : ltCps r t = false := by simpa using h.2
    have g2 : ltCps t r = false := by simpa using g.2
    rw [ltc_antisymm r t h2 g2]
theorem ltc_trans : ∀ a b c : List Nat, ltCps b a = false → ltCps c b = false → ltCps c a = false
  | [], [], c, _, h => h
  | [], _ :: _, [], _, h => by cases h
  | [], _ :: _, _ :: _, h, _ => by rfl
  | _ :: _, [], _, h, _ => by cases h
  | _ :: _, _ :: _, [], _, h => by cases h
  | a :: r, b :: t, c :: v, h, g => by
    unfold ltCps at h g ⊢
    rw [Bool.or_eq_false_iff] at h g ⊢
    have h1 := of_decide_eq_false h.1
    have g1 := of_decide_eq_false g.1
    refine ⟨decide_eq_false (by omega), ?_⟩
    by_cases e : c = a
    · subst e
      have e2 : b = c := by omega
      subst e2
      have h2 : ltCps t r = false := by simpa using h.2
      have g2 : ltCps v t = false := by simpa using g.2
      rw [ltc_trans r t v h2 g2]; simp
    · have : (c == a) = false := beq_eq_false_iff_ne.mpr e
      rw [this]; rfl
def leS (a b : Str) : Prop := ltCps b.cps.toList a.cps.toList = false
theorem leS_antisymm {a b : Str} (h : leS a b) (g : leS b a) : a = b := by
  have e := ltc_antisymm _ _ g h
  cases a; cases b
  congr
  exact Array.toList_inj.mp e
theorem leS_trans {a b c : Str} (h : leS a b) (g : leS b c) : leS a c := ltc_trans _ _ _ h g
theorem risingS_pw : ∀ (r : List Str) (x : Str), risingS x r = true → (x :: r).Pairwise leS
  | [], x, _ => List.pairwise_singleton _ _
  | y :: r, x, h => by
    unfold risingS at h
    rw [Bool.and_eq_true] at h
    have h1 : leS x y := by
      have := h.1
      unfold leS
      simpa using this
    have ih := risingS_pw r y h.2
    refine List.pairwise_cons.mpr ⟨fun z hz => ?_, ih⟩
    rcases List.mem_cons.mp hz with rfl | hz
    · exact h1
    · exact leS_trans h1 (List.rel_of_pairwise_cons ih hz)
theorem sortedS_pw {ys : List Str} (h : sortedS ys = true) : ys.Pairwise leS := by
  cases ys with
  | nil => exact List.Pairwise.nil
  | cons x r => exact risingS_pw r x h
def srtS (xs : List Str) : List Str := xs.mergeSort fun a b => !ltCps b.cps.toList a.cps.toList
theorem srtS_perm (xs : List Str) : (srtS xs).Perm xs := List.mergeSort_perm xs _
theorem srtS_sorted (xs : List Str) : (srtS xs).Pairwise leS := by
  have := List.pairwise_mergeSort (le := fun (a b : Str) => !ltCps b.cps.toList a.cps.toList) (fun a b c h1 h2 => by
    simp only [Bool.not_eq_true'] at h1 h2 ⊢
    exact ltc_trans _ _ _ h1 h2) (fun a b => by
    cases h : ltCps b.cps.toList a.cps.toList with
    | false => rfl
    | true => rw [ltc_asym _ _ h]; rfl) xs
  exact this.imp fun h => by
    unfold leS
    simpa using h
theorem srtS_uniq {a b : List Str} (p : a.Perm b) (ha : a.Pairwise leS) (hb : b.Pairwise leS) : a = b := p.eq_of_pairwise (fun _ _ _ _ h1 h2 => leS_antisymm h1 h2) ha hb
theorem srtS_congr {a b : List Str} (p : a.Perm b) : srtS a = srtS b := srtS_uniq ((srtS_perm a).trans (p.trans (srtS_perm b).symm)) (srtS_sorted a) (srtS_sorted b)
def keysS : List (Key × D) → Option (List Str)
  | [] => some []
  | (.inr s, _) :: r => (keysS r).map fun ss => s :: ss
  | _ => none
theorem keysS_some : ∀ {kvs : List (Key × D)} {ss : List Str}, keysS kvs = some ss → kvs.map (·.1) = ss.map Sum.inr
  | [], _, e => by cases e; rfl
  | (.inr i, _) :: r, ns, e => by
    unfold keysS at e
    cases q : keysS r with
    | none => rw [q] at e; cases e
    | some ms => rw [q] at e; cases e; rw [List.map_cons, keysS_some q]; rfl
  | (.inl _, _) :: _, _, e => by cases e
/-- sorted(x) of a list of texts, or of a dict whose keys are texts -/
def sortSF : List D → Hs → Res
  | [.loc l], h => match h[l]? with
    | some (.lst ds) => (strsOf ds).bind fun ss => if ss.length < 64 then some (.loc h.length, h ++ [.lst ((srtS ss).map D.str)]) else none
    | some (.dct kvs) => (keysS kvs).bind fun ss => if ss.length < 64 then some (.loc h.length, h ++ [.lst ((srtS ss).map D.str)]) else none
    | _ => none
  | _, _ => none
section
variable {X : Cx}
theorem repL_strs' {K : PySem.W.Frag} {m : List Addr} {H : Hp} : ∀ ss : List Str, RepL K m H (ss.map D.str) (ss.map V.str)
  | [] => by show RepL K m H [] []; exact .nil
  | s :: ss => .cons (by unfold RepV; rfl) (repL_strs' ss)
theorem repL_mapS {K : PySem.W.Frag} {m : List Addr} {H : Hp} : ∀ {ss : List Str} {vs : List V}, RepL K m H (ss.map D.str) vs → vs = ss.map V.str
  | [], vs, r => by
    unfold RepL at r
    exact r
  | s :: ss, vs, r => by
    rw [List.map_cons] at r
    unfold RepL at r
    obtain ⟨x, xs, rfl, h1, h2⟩ := r
    unfold RepV at h1
    subst h1
    rw [repL_mapS h2]; rfl
theorem c_sortedS (hc : X.calm = true) : CallR X (.builtin "sorted") (rC X.K sortSF) := by
  intro pns s σ H vs us Q I rl h
  obtain ⟨m, hs, ds, r, rh, o⟩ := h
  unfold sortSF at o
  split at o
  · obtain ⟨x, rfl, r1⟩ := repL1 r
    unfold RepV at r1
    obtain ⟨a, ha, rfl⟩ := r1
    split at o
    · rename_i xs e1
      obtain ⟨vs, hv, rl2⟩ := rh.lst ha e1
      cases q : strsOf xs with
      | none => rw [q] at o; exact o.elim
      | some ns =>
        rw [q] at o
        simp only [Option.bind_some] at o
        split at o
        · rename_i h64
          rw [strsOf_some q] at rl2
          have := repL_mapS rl2
          subst this
          refine cr_sortedS pns s σ H _ us Q I rl ⟨a, ns, rfl, SqL.of hv, h64, fun ns' p hp hs' hn => ?_⟩
          have : ns' = srtS ns := srtS_uniq (hp.trans (srtS_perm ns).symm) (sortedS_pw hs') (srtS_sorted ns)
          subst this
          exact new_lst' (repL_strs' _) rh hn o
        · exact o.elim
    · rename_i kvs e1
      obtain ⟨ks, hk, kk, rk⟩ := rh.at_ _ a _ ha e1
      cases q : keysS kvs with
      | none => rw [q] at o; exact o.elim
      | some ns =>
        rw [q] at o
        simp only [Option.bind_some] at o
        split at o
        · rename_i h64
          refine call_sortedD hc pns s σ H _ us Q I rl ⟨a, ks, ns, rfl, .inl hk, by rw [← kk]; exact keysS_some q, h64, fun ns' p hp hs' hn => ?_⟩
          have : ns' = srtS ns := srtS_uniq (hp.trans (srtS_perm ns).symm) (sortedS_pw hs') (srtS_sorted ns)
          subst this
          exact new_lst' (repL_strs' _) rh hn o
        · exact o.elim
    · exact o.elim
  · exact o.elim
end
def badS : SM := fun _ _ => .bad
section
variable {X : Cx} {g : Cfg} {st : Stmt} {sts : List Stmt}
theorem sms_bad : PSs X sts (tS g badS) := ⟨fun pns s σ H N I h => by
  obtain ⟨m, ds, hs, _, _, o⟩ := h
  exact o.elim⟩
end
def dropD (kvs : List (Key × D)) (k : Key) : List (Key × D) := kvs.filter fun kv => decide (kv.1 ≠ k)
def dpopF : D → List D → Hs → Res
  | .loc l, [i], h => match h[l]? with
    | some (.dct kvs) => (keyD i).bind fun k => match valD kvs k with
      | some v => some (v, h.set l (.dct (dropD kvs k)))
      | none => none
    | _ => none
  | _, _, _ => none
theorem drop_rep {K : PySem.W.Frag} {m : List Addr} {H : Hp} (k : Key) : ∀ {kvs : List (Key × D)} {ks : List (Key × V)}, kvs.map (·.1) = ks.map (·.1) → RepL K m H (kvs.map (·.2)) (ks.map (·.2)) →
    (dropD kvs k).map (·.1) = (dropK ks k).map (·.1) ∧ RepL K m H ((dropD kvs k).map (·.2)) ((dropK ks k).map (·.2))
  | [], [], _, r => ⟨rfl, r⟩
  | [], _ :: _, e, _ => by cases e
  | _ :: _, [], e, _ => by cases e
  | (a, d) :: kvs, (b, v) :: ks, e, r => by
    simp only [List.map_cons, List.cons.injEq] at e
    obtain ⟨rfl, e⟩ := e
    simp only [List.map_cons] at r
    unfold RepL at r
    obtain ⟨x, xs, q, h1, h2⟩ := r
    injection q with q1 q2
    subst q1 q2
    obtain ⟨i1, i2⟩ := drop_rep k e h2
    unfold dropD dropK at i1 i2 ⊢
    by_cases c : a = k
    · rw [List.filter_cons_of_neg (by simpa using c), List.filter_cons_of_neg (by simpa using c)]
      exact ⟨i1, i2⟩
    · rw [List.filter_cons_of_pos (by simpa using c), List.filter_cons_of_pos (by simpa using c)]
      refine ⟨by rw [List.map_cons, List.map_cons, i1], ?_⟩
      rw [List.map_cons, List.map_cons]
      exact .cons h1 i2
section
variable {X : Cx}
theorem k_dpop : MtR X "dict.pop" (rMt X.K dpopF) := by
  intro pns s σ H x vs v us Q I rx rv h
  obtain ⟨m, hs, d, ds, r1, rl, rh, o⟩ := h
  unfold dpopF at o
  split at o
  · rename_i l i
    unfold RepV at r1
    obtain ⟨a, ha, rfl⟩ := r1
    obtain ⟨v1, rfl, q1⟩ := repL1 rl
    split at o
    · rename_i kvs e
      cases c : keyD i with
      | none => rw [c] at o; exact o.elim
      | some k =>
        rw [c, Option.bind_some] at o
        obtain ⟨ks, hk, kk, rk⟩ := rh.at_ _ a _ ha e
        obtain ⟨u1, rfl, w1⟩ := vals1 rv
        have := kV_keyD q1 c
        subst this
        cases rx
        rcases valD_rep k kk rk with ⟨p, p2⟩ | ⟨d', v'', p, p2, r⟩
        · rw [p] at o; exact o.elim
        · rw [p] at o
          obtain ⟨kk2, rk2⟩ := drop_rep k kk rk
          obtain ⟨w, rh2⟩ := put_dct (kvs0 := kvs) rh ha hk kk2 rk2
          exact d_pop (more := []) I hk w1 p2 (.inl rfl) fun w' s' I' rw' => ⟨v'', _, I', rw', o v'' m _ w (r.mono w) rh2⟩
    · exact o.elim
  · exact o.elim
end
def fdItI (i : Nat) : IM := fun ds h => match ds[i]? with
  | some (some (.loc l)) => (match h[l]? with
    | some (.fdc []) => .ok ([], fun _ => True) h
    | _ => .bad)
  | _ => .bad
section
variable {X : Cx} {g : Cfg} {e : Expr} {i : Nat} {elts : List Expr} {kk : Nat} {tpos apos cpos : Pos}
theorem im_fdIt (hK : X.K = g.K) (he : PE X e (tVar i)) (hbase : attributeBase e "items" X.env (eval e X.env) = eval e X.env := by rfl) (hline : (apos.endLine == cpos.line) = true := by rfl) :
    PI X (.Tuple elts kk tpos) (.Call (.Attribute e "items" apos) [] [] cpos) (tI g (fdItI i)) := by
  refine PI.weak (pi_items he hbase hline) fun σ H Q ⟨m, ds, h, hs, rh, o⟩ => ?_
  unfold fdItI at o
  split at o
  · rename_i l e1
    split at o
    · rename_i e2
      obtain ⟨v, hv, rv⟩ := hs.get e1
      unfold RepV at rv
      obtain ⟨a, ha, rfl⟩ := rv
      obtain ⟨od, ks, hk, kk2, rk⟩ := rh.at_ l a _ ha e2
      have ks0 : ks = [] := by
        cases ks with
        | nil => rfl
        | cons _ _ => cases kk2
      subst ks0
      refine ⟨.ref a, hv, a, od, [], rfl, hk, o _ m H (.refl _ _) rh fun j m2 H2 h2 g2 rh2 _ => ⟨fun d hd => ?_, fun hl => ⟨g2.frz _ _ _ hk, ?_⟩⟩⟩
      · simp at hd
      · exact Nat.zero_le _
    · exact o.elim
  · exact o.elim
end
end DV
namespace DV
open PySem PySem.Spec PyProof.Rows L2
noncomputable def m_of_one_kind : SM :=
  seqM (setM 1 (binM ixF (vM 0) (cM (.int 0)))) (seqM (forM (valI (vM 0)) (nameG 2) (seqM (ifM (orM (tbM (binM neF (binM ixF (vM 2) (cM (.int 0))) (cM (.str "block")))) (tbM (binM neF (binM ixF (vM 1) (cM (.int 0))) (cM (.str "block"))))) (retM (cM (.bl false))) (passM)) (ifM (orM (tbM (binM neF (binM ixF (vM 2) (cM (.int 1))) (binM ixF (vM 1) (cM (.int 1))))) (tbM (binM neF (argM lenF (consA (binM ixF (vM 2) (cM (.int 2))) nilA)) (argM lenF (consA (binM ixF (vM 1) (cM (.int 2))) nilA))))) (retM (cM (.bl false))) (passM)))) (retM (cM (.bl true))))
noncomputable def F_of_one_kind : Nat → Fm
  | 0 => fun _ _ => .bad
  | n + 1 => kPure.f (runM 1 3 (m_of_one_kind))
theorem S_of_one_kind (n : Nat) : F_of_one_kind (n + 1) = kPure.f (runM 1 3 (m_of_one_kind)) := rfl
noncomputable def m_go_down (f_of_one_kind f_go_down : Fm) : SM :=
  seqM (ifM (truM (callM f_of_one_kind (consA (vM 0) nilA))) (seqM (setM 2 (argM lstF (nilA))) (seqM (forM (rngI rng1 (consA (argM lenF (consA (binM ixF (binM ixF (vM 0) (cM (.int 0))) (cM (.int 2))) nilA)) nilA)) (nameG 3) (exprM (mtMc ckList appendF (vM 2) (consA (callM f_go_down (consA (lcM [4] (valI (vM 0)) (nameG 4) (yesM) (binM ixF (binM ixF (vM 4) (cM (.int 2))) (vM 3))) (consA (vM 1) nilA))) nilA)))) (retM (argM tupF (consA (cM (.str "block")) (consA (binM ixF (binM ixF (vM 0) (cM (.int 0))) (cM (.int 1))) (consA (argM tupT (consA (vM 2) nilA)) nilA))))))) (passM)) (seqM (setM 5 (argM tupT (consA (vM 0) nilA))) (seqM (ifM (tbM (binM ninF (vM 5) (vM 1))) (setIxM setAF (binM addF (argM lenF (consA (vM 1) nilA)) (cM (.int 1))) (vM 1) (vM 5)) (passM)) (retM (argM tupF (consA (cM (.str "blank")) (consA (binM ixF (vM 1) (vM 5)) nilA))))))
noncomputable def F_go_down : Nat → Fm
  | 0 => fun _ _ => .bad
  | n + 1 => kPure.f (runM 2 6 (m_go_down (F_of_one_kind n) (F_go_down n)))
theorem S_go_down (n : Nat) : F_go_down (n + 1) = kPure.f (runM 2 6 (m_go_down (F_of_one_kind n) (F_go_down n))) := rfl
noncomputable def m_nearest_of (f_go_down : Fm) : SM :=
  seqM (setM 1 (newDM)) (seqM (setM 2 (callM f_go_down (consA (vM 0) (consA (vM 1) nilA)))) (seqM (setM 3 (argM lstF (nilA))) (seqM (forM (rngI rng1 (consA (argM lenF (consA (vM 0) nilA)) nilA)) (nameG 4) (seqM (setM 5 (newDM)) (seqM (lockS 1 (forM (fdItI 1) (tupG 2 (consG (nameG 6) (consG (nameG 7) (nilG)))) (setIxM setAF (binM ixF (vM 6) (vM 4)) (vM 5) (vM 7)))) (exprM (mtMc ckList appendF (vM 3) (consA (vM 5) nilA)))))) (retM (argM tupF (consA (vM 2) (consA (vM 3) nilA)))))))
noncomputable def F_nearest_of : Nat → Fm
  | 0 => fun _ _ => .bad
  | n + 1 => kRaw.f (runM 1 8 (m_nearest_of (F_go_down n)))
theorem S_nearest_of (n : Nat) : F_nearest_of (n + 1) = kRaw.f (runM 1 8 (m_nearest_of (F_go_down n))) := rfl
noncomputable def m_names_on (f_names_on : Fm) : SM :=
  seqM (ifM (tbM (binM eqF (binM ixF (vM 0) (cM (.int 0))) (cM (.str "leaf")))) (retM (argM lstF (consA (binM ixF (vM 0) (cM (.int 1))) nilA))) (passM)) (seqM (setM 1 (argM lstF (nilA))) (seqM (forM (valI (binM ixF (vM 0) (cM (.int 2)))) (nameG 2) (setM 1 (binM addF (vM 1) (callM f_names_on (consA (vM 2) nilA))))) (retM (argM sortSF (consA (vM 1) nilA)))))
noncomputable def F_names_on : Nat → Fm
  | 0 => fun _ _ => .bad
  | n + 1 => kNew.f (runM 1 3 (m_names_on (F_names_on n)))
theorem S_names_on (n : Nat) : F_names_on (n + 1) = kNew.f (runM 1 3 (m_names_on (F_names_on n))) := rfl
noncomputable def m_form_on : SM :=
  seqM (ifM (tbM (binM eqF (binM ixF (vM 0) (cM (.int 0))) (cM (.str "leaf")))) (retM (binM ixF (vM 1) (binM ixF (vM 0) (cM (.int 1))))) (passM)) (retM (binM ixF (vM 0) (cM (.int 1))))
noncomputable def F_form_on : Nat → Fm
  | 0 => fun _ _ => .bad
  | n + 1 => kPure.f (runM 2 2 (m_form_on))
theorem S_form_on (n : Nat) : F_form_on (n + 1) = kPure.f (runM 2 2 (m_form_on)) := rfl
noncomputable def m_knot_of (f_form_on f_nearest_of : Fm) : SM :=
  seqM (ifM (tbM (binM eqF (argM lenF (consA (vM 0) nilA)) (cM (.int 1)))) (retM (binM ixF (vM 0) (cM (.int 0)))) (passM)) (retM (argM tupF (consA (cM (.str "knot")) (consA (binM ixF (callM f_nearest_of (consA (lcM [2] (valI (vM 0)) (nameG 2) (yesM) (callM f_form_on (consA (vM 2) (consA (vM 1) nilA)))) nilA)) (cM (.int 0))) (consA (vM 0) nilA)))))
noncomputable def F_knot_of : Nat → Fm
  | 0 => fun _ _ => .bad
  | n + 1 => kRaw.f (runM 2 3 (m_knot_of (F_form_on n) (F_nearest_of n)))
theorem S_knot_of (n : Nat) : F_knot_of (n + 1) = kRaw.f (runM 2 3 (m_knot_of (F_form_on n) (F_nearest_of n))) := rfl
noncomputable def m_best_bough (f_form_on f_nearest_of f_knots_of : Fm) : SM :=
  seqM (setM 3 (cM (.int 0))) (seqM (setM 4 (cM (.int 0))) (seqM (forM (enumI (vM 0)) (tupG 2 (consG (nameG 5) (consG (nameG 6) (nilG)))) (seqM (setM 7 (callM f_knots_of (consA (binM ixF (callM f_nearest_of (consA (argM lstF (consA (callM f_form_on (consA (vM 6) (consA (vM 2) nilA))) (consA (callM f_form_on (consA (vM 1) (consA (vM 2) nilA))) nilA))) nilA)) (cM (.int 0))) nilA))) (ifM (tbM (binM gtF (vM 7) (vM 4))) (seqM (setM 3 (vM 5)) (setM 4 (vM 7))) (passM)))) (retM (vM 3))))
noncomputable def F_best_bough : Nat → Fm
  | 0 => fun _ _ => .bad
  | n + 1 => kPure.f (runM 3 8 (m_best_bough (F_form_on n) (F_nearest_of n) (F_knots_of n)))
theorem S_best_bough (n : Nat) : F_best_bough (n + 1) = kPure.f (runM 3 8 (m_best_bough (F_form_on n) (F_nearest_of n) (F_knots_of n))) := rfl
noncomputable def m_hung (f_knot_of f_hung f_best_bough f_form_on f_fitting : Fm) : SM :=
  seqM (ifM (orM (tbM (binM eqF (binM ixF (vM 0) (cM (.int 0))) (cM (.str "leaf")))) (tbM (binM isNF (callM f_fitting (consA (binM ixF (vM 0) (cM (.int 1))) (consA (callM f_form_on (consA (vM 1) (consA (vM 2) nilA))) nilA))) (cM .non)))) (retM (callM f_knot_of (consA (argM lstF (consA (vM 0) (consA (vM 1) nilA))) (consA (vM 2) nilA)))) (passM)) (seqM (setM 3 (argM lstT (consA (binM ixF (vM 0) (cM (.int 2))) nilA))) (seqM (ifM (tbM (binM ltF (argM lenF (consA (vM 3) nilA)) (cM (.int 4)))) (retM (callM f_knot_of (consA (binM addF (vM 3) (argM lstF (consA (vM 1) nilA))) (consA (vM 2) nilA)))) (passM)) (seqM (setM 4 (callM f_best_bough (consA (vM 3) (consA (vM 1) (consA (vM 2) nilA))))) (seqM (setIxM setAF (callM f_hung (consA (binM ixF (vM 3) (vM 4)) (consA (vM 1) (consA (vM 2) nilA)))) (vM 3) (vM 4)) (retM (callM f_knot_of (consA (vM 3) (consA (vM 2) nilA))))))))
noncomputable def F_hung : Nat → Fm
  | 0 => fun _ _ => .bad
  | n + 1 => kRaw.f (runM 3 5 (m_hung (F_knot_of n) (F_hung n) (F_best_bough n) (F_form_on n) (F_fitting n)))
theorem S_hung (n : Nat) : F_hung (n + 1) = kRaw.f (runM 3 5 (m_hung (F_knot_of n) (F_hung n) (F_best_bough n) (F_form_on n) (F_fitting n))) := rfl
noncomputable def m_cut_off (f_knot_of f_cut_off f_names_on : Fm) : SM :=
  seqM (ifM (tbM (binM eqF (binM ixF (vM 0) (cM (.int 0))) (cM (.str "leaf")))) (seqM (ifM (tbM (binM eqF (binM ixF (vM 0) (cM (.int 1))) (vM 1))) (retM (cM .non)) (passM)) (retM (vM 0))) (passM)) (seqM (ifM (tbM (binM ninF (vM 1) (callM f_names_on (consA (vM 0) nilA)))) (retM (vM 0)) (passM)) (seqM (setM 3 (argM lstF (nilA))) (seqM (forM (valI (binM ixF (vM 0) (cM (.int 2)))) (nameG 4) (seqM (setM 5 (callM f_cut_off (consA (vM 4) (consA (vM 1) (consA (vM 2) nilA))))) (ifM (tbM (binM isnNF (vM 5) (cM .non))) (exprM (mtMc ckList appendF (vM 3) (consA (vM 5) nilA))) (passM)))) (retM (callM f_knot_of (consA (vM 3) (consA (vM 2) nilA)))))))
noncomputable def F_cut_off : Nat → Fm
  | 0 => fun _ _ => .bad
  | n + 1 => kRaw.f (runM 3 6 (m_cut_off (F_knot_of n) (F_cut_off n) (F_names_on n)))
theorem S_cut_off (n : Nat) : F_cut_off (n + 1) = kRaw.f (runM 3 6 (m_cut_off (F_knot_of n) (F_cut_off n) (F_names_on n))) := rfl
noncomputable def m_Cabinet___init__ : SM :=
  seqM (setFldM "Cabinet" "kept" (newDM) (vM 0)) (setFldM "Cabinet" "root" (cM .non) (vM 0))
noncomputable def F_Cabinet___init__ : Nat → Fm
  | 0 => fun _ _ => .bad
  | n + 1 => kRaw.f (runM 1 1 (m_Cabinet___init__))
theorem S_Cabinet___init__ (n : Nat) : F_Cabinet___init__ (n + 1) = kRaw.f (runM 1 1 (m_Cabinet___init__)) := rfl
noncomputable def m_Cabinet_put (f_hung f_is_name : Fm) : SM :=
  seqM (ifM (notM (truM (callM f_is_name (consA (vM 1) nilA)))) (raiseM "BadName") (passM)) (seqM (ifM (tbM (binM inF (vM 1) (fldM "Cabinet" "kept" (vM 0)))) (raiseM "Twice") (passM)) (seqM (ifM (tbM (binM geF (argM lenF (consA (fldM "Cabinet" "kept" (vM 0)) nilA)) (cM (.int 40)))) (raiseM "TooLong") (passM)) (seqM (setIxM setAF (vM 2) (fldM "Cabinet" "kept" (vM 0)) (vM 1)) (ifM (tbM (binM isNF (fldM "Cabinet" "root" (vM 0)) (cM .non))) (setFldM "Cabinet" "root" (argM tupF (consA (cM (.str "leaf")) (consA (vM 1) nilA))) (vM 0)) (setFldM "Cabinet" "root" (callM f_hung (consA (fldM "Cabinet" "root" (vM 0)) (consA (argM tupF (consA (cM (.str "leaf")) (consA (vM 1) nilA))) (consA (fldM "Cabinet" "kept" (vM 0)) nilA)))) (vM 0))))))
noncomputable def F_Cabinet_put : Nat → Fm
  | 0 => fun _ _ => .bad
  | n + 1 => kRaw.f (runM 3 3 (m_Cabinet_put (F_hung n) (F_is_name n)))
theorem S_Cabinet_put (n : Nat) : F_Cabinet_put (n + 1) = kRaw.f (runM 3 3 (m_Cabinet_put (F_hung n) (F_is_name n))) := rfl
noncomputable def m_Cabinet_take (f_cut_off : Fm) : SM :=
  seqM (ifM (tbM (binM ninF (vM 1) (fldM "Cabinet" "kept" (vM 0)))) (raiseM "NoForm") (passM)) (seqM (setFldM "Cabinet" "root" (callM f_cut_off (consA (fldM "Cabinet" "root" (vM 0)) (consA (vM 1) (consA (fldM "Cabinet" "kept" (vM 0)) nilA)))) (vM 0)) (exprM (mtMc ckDct dpopF (fldM "Cabinet" "kept" (vM 0)) (consA (vM 1) nilA))))
noncomputable def F_Cabinet_take : Nat → Fm
  | 0 => fun _ _ => .bad
  | n + 1 => kRaw.f (runM 2 2 (m_Cabinet_take (F_cut_off n)))
theorem S_Cabinet_take (n : Nat) : F_Cabinet_take (n + 1) = kRaw.f (runM 2 2 (m_Cabinet_take (F_cut_off n))) := rfl
noncomputable def m_Cabinet_form_of : SM :=
  seqM (ifM (tbM (binM ninF (vM 1) (fldM "Cabinet" "kept" (vM 0)))) (raiseM "NoForm") (passM)) (retM (binM ixF (fldM "Cabinet" "kept" (vM 0)) (vM 1)))
noncomputable def F_Cabinet_form_of : Nat → Fm
  | 0 => fun _ _ => .bad
  | n + 1 => kPure.f (runM 2 2 (m_Cabinet_form_of))
theorem S_Cabinet_form_of (n : Nat) : F_Cabinet_form_of (n + 1) = kPure.f (runM 2 2 (m_Cabinet_form_of)) := rfl
noncomputable def m_Cabinet_names : SM :=
  retM (argM sortSF (consA (fldM "Cabinet" "kept" (vM 0)) nilA))
noncomputable def F_Cabinet_names : Nat → Fm
  | 0 => fun _ _ => .bad
  | n + 1 => kNew.f (runM 1 1 (m_Cabinet_names))
theorem S_Cabinet_names (n : Nat) : F_Cabinet_names (n + 1) = kNew.f (runM 1 1 (m_Cabinet_names)) := rfl
noncomputable def m_Cabinet_rows_within_v4 : SM :=
  badS
noncomputable def F_Cabinet_rows_within_v4 : Nat → Fm
  | 0 => fun _ _ => .bad
  | n + 1 => kPure.f (runM 4 7 (m_Cabinet_rows_within_v4))
noncomputable def m_Cabinet_rows_below_v4 (f_Cabinet_rows_within f_fitting f_names_on : Fm) : SM :=
  seqM (ifM (tbM (binM eqF (binM ixF (vM 1) (cM (.int 0))) (cM (.str "leaf")))) (retM (argM lstF (consA (argM tupF (consA (cM (.str "one")) (consA (binM ixF (vM 1) (cM (.int 1))) (consA (binM isnNF (callM f_fitting (consA (vM 2) (consA (binM ixF (fldM "Cabinet" "kept" (vM 0)) (binM ixF (vM 1) (cM (.int 1)))) nilA))) (cM .non)) nilA)))) nilA))) (passM)) (seqM (ifM (tbM (binM isnNF (callM f_fitting (consA (vM 2) (consA (binM ixF (vM 1) (cM (.int 1))) nilA))) (cM .non))) (retM (argM lstF (consA (argM tupF (consA (cM (.str "all")) (consA (callM f_names_on (consA (vM 1) nilA)) nilA))) nilA))) (passM)) (retM (methM "Cabinet" "rows_within" f_Cabinet_rows_within (vM 0) (consA (vM 1) (consA (vM 2) (consA (cM (.str "below")) nilA))))))
noncomputable def F_Cabinet_rows_below_v4 : Nat → Fm
  | 0 => fun _ _ => .bad
  | n + 1 => kRaw.f (runM 3 3 (m_Cabinet_rows_below_v4 (F_Cabinet_rows_within_v4 n) (F_fitting n) (F_names_on n)))
theorem S_Cabinet_rows_below_v4 (n : Nat) : F_Cabinet_rows_below_v4 (n + 1) = kRaw.f (runM 3 3 (m_Cabinet_rows_below_v4 (F_Cabinet_rows_within_v4 n) (F_fitting n) (F_names_on n))) := rfl
noncomputable def m_Cabinet_answer_v3 : SM :=
  seqM (setM 2 (argM lstF (nilA))) (seqM (forM (valI (vM 1)) (nameG 3) (ifM (tbM (binM eqF (binM ixF (vM 3) (cM (.int 0))) (cM (.str "all")))) (setM 2 (binM addF (vM 2) (binM ixF (vM 3) (cM (.int 1))))) (ifM (andM (tbM (binM eqF (binM ixF (vM 3) (cM (.int 0))) (cM (.str "one")))) (truM (binM ixF (vM 3) (cM (.int 2))))) (exprM (mtMc ckList appendF (vM 2) (consA (binM ixF (vM 3) (cM (.int 1))) nilA))) (passM)))) (retM (argM tupF (consA (argM sortSF (consA (vM 2) nilA)) (consA (vM 1) nilA)))))
noncomputable def F_Cabinet_answer_v3 : Nat → Fm
  | 0 => fun _ _ => .bad
  | n + 1 => kRaw.f (runM 2 4 (m_Cabinet_answer_v3))
theorem S_Cabinet_answer_v3 (n : Nat) : F_Cabinet_answer_v3 (n + 1) = kRaw.f (runM 2 4 (m_Cabinet_answer_v3)) := rfl
noncomputable def m_Cabinet_below_v4 (f_Cabinet_answer f_Cabinet_rows_below : Fm) : SM :=
  seqM (ifM (tbM (binM isNF (fldM "Cabinet" "root" (vM 0)) (cM .non))) (retM (argM tupF (consA (argM lstF (nilA)) (consA (argM lstF (nilA)) nilA)))) (passM)) (retM (methM "Cabinet" "answer" f_Cabinet_answer (vM 0) (consA (methM "Cabinet" "rows_below" f_Cabinet_rows_below (vM 0) (consA (fldM "Cabinet" "root" (vM 0)) (consA (vM 1) nilA))) nilA)))
noncomputable def F_Cabinet_below_v4 : Nat → Fm
  | 0 => fun _ _ => .bad
  | n + 1 => kRaw.f (runM 2 2 (m_Cabinet_below_v4 (F_Cabinet_answer_v3 n) (F_Cabinet_rows_below_v4 n)))
theorem S_Cabinet_below_v4 (n : Nat) : F_Cabinet_below_v4 (n + 1) = kRaw.f (runM 2 2 (m_Cabinet_below_v4 (F_Cabinet_answer_v3 n) (F_Cabinet_rows_below_v4 n))) := rfl
noncomputable def m_Cabinet_change_v6 (f_Cabinet_put f_Cabinet_take f_knots_of f_depth_of f_Cabinet_form_of f_put_at : Fm) : SM :=
  seqM (setM 4 (callM f_put_at (consA (methM "Cabinet" "form_of" f_Cabinet_form_of (vM 0) (consA (vM 1) nilA)) (consA (vM 2) (consA (vM 3) nilA))))) (seqM (ifM (orM (tbM (binM gtF (callM f_knots_of (consA (vM 4) nilA)) (cM (.int 200)))) (tbM (binM gtF (callM f_depth_of (consA (vM 4) nilA)) (cM (.int 30))))) (raiseM "TooLong") (passM)) (seqM (exprM (methM "Cabinet" "take" f_Cabinet_take (vM 0) (consA (vM 1) nilA))) (exprM (methM "Cabinet" "put" f_Cabinet_put (vM 0) (consA (vM 1) (consA (vM 4) nilA))))))
noncomputable def F_Cabinet_change_v6 : Nat → Fm
  | 0 => fun _ _ => .bad
  | n + 1 => kRaw.f (runM 4 5 (m_Cabinet_change_v6 (F_Cabinet_put n) (F_Cabinet_take n) (F_knots_of n) (F_depth_of n) (F_Cabinet_form_of n) (F_put_at n)))
theorem S_Cabinet_change_v6 (n : Nat) : F_Cabinet_change_v6 (n + 1) = kRaw.f (runM 4 5 (m_Cabinet_change_v6 (F_Cabinet_put n) (F_Cabinet_take n) (F_knots_of n) (F_depth_of n) (F_Cabinet_form_of n) (F_put_at n))) := rfl
noncomputable def m__law_of_knots : SM :=
  seqM (setM 1 (argM tupF (consA (cM (.str "block")) (consA (cM (.str "u")) (consA (argM tupF (nilA)) nilA))))) (seqM (setM 2 (vM 1)) (seqM (setM 3 (cM (.int 1))) (seqM (whileM (tbM (binM leF (binM addF (vM 3) (cM (.int 9))) (vM 0))) (seqM (setM 2 (argM tupF (consA (cM (.str "block")) (consA (cM (.str "u")) (consA (binM addF (argM tupF (consA (vM 2) nilA)) (binM mulXF (argM tupF (consA (vM 1) nilA)) (cM (.int 8)))) nilA))))) (setM 3 (binM addF (vM 3) (cM (.int 9))))) FUEL) (seqM (ifM (tbM (binM ltF (vM 3) (vM 0))) (setM 2 (argM tupF (consA (cM (.str "block")) (consA (cM (.str "u")) (consA (binM addF (argM tupF (consA (vM 2) nilA)) (binM mulXF (argM tupF (consA (vM 1) nilA)) (binM subF (binM subF (vM 0) (vM 3)) (cM (.int 1))))) nilA))))) (passM)) (retM (vM 2))))))
noncomputable def F__law_of_knots : Nat → Fm
  | 0 => fun _ _ => .bad
  | n + 1 => kPure.f (runM 1 4 (m__law_of_knots))
theorem S__law_of_knots (n : Nat) : F__law_of_knots (n + 1) = kPure.f (runM 1 4 (m__law_of_knots)) := rfl
noncomputable def m__law_chain_v3 : SM :=
  seqM (setM 1 (argM tupF (consA (cM (.str "block")) (consA (cM (.str "c")) (consA (argM tupF (nilA)) nilA))))) (seqM (forM (rngI rng1 (consA (binM subF (vM 0) (cM (.int 1))) nilA)) (nameG 2) (setM 1 (argM tupF (consA (cM (.str "block")) (consA (cM (.str "c")) (consA (argM tupF (consA (vM 1) nilA)) nilA)))))) (retM (vM 1)))
noncomputable def F__law_chain_v3 : Nat → Fm
  | 0 => fun _ _ => .bad
  | n + 1 => kPure.f (runM 1 3 (m__law_chain_v3))
theorem S__law_chain_v3 (n : Nat) : F__law_chain_v3 (n + 1) = kPure.f (runM 1 3 (m__law_chain_v3)) := rfl
noncomputable def m__law_do (f_Cabinet_change f_Cabinet_form_of f_Cabinet_take f_Cabinet_put : Fm) : SM :=
  seqM (asgM (vM 1) (okG (tupG 4 (consG (nameG 2) (consG (nameG 3) (consG (nameG 4) (consG (nameG 5) (nilG)))))))) (seqM (ifM (tbM (binM eqF (vM 2) (cM (.str "put")))) (retM (methM "Cabinet" "put" f_Cabinet_put (vM 0) (consA (vM 3) (consA (vM 5) nilA)))) (passM)) (seqM (ifM (tbM (binM eqF (vM 2) (cM (.str "take")))) (retM (methM "Cabinet" "take" f_Cabinet_take (vM 0) (consA (vM 3) nilA))) (passM)) (seqM (ifM (tbM (binM eqF (vM 2) (cM (.str "form")))) (retM (methM "Cabinet" "form_of" f_Cabinet_form_of (vM 0) (consA (vM 3) nilA))) (passM)) (retM (methM "Cabinet" "change" f_Cabinet_change (vM 0) (consA (vM 3) (consA (vM 4) (consA (vM 5) nilA))))))))
noncomputable def F__law_do : Nat → Fm
  | 0 => fun _ _ => .bad
  | n + 1 => kRaw.f (runM 2 6 (m__law_do (F_Cabinet_change_v6 n) (F_Cabinet_form_of n) (F_Cabinet_take n) (F_Cabinet_put n)))
theorem S__law_do (n : Nat) : F__law_do (n + 1) = kRaw.f (runM 2 6 (m__law_do (F_Cabinet_change_v6 n) (F_Cabinet_form_of n) (F_Cabinet_take n) (F_Cabinet_put n))) := rfl
noncomputable def m__law_refused_v4 (f__law_do : Fm) : SM :=
  seqM (setM 2 (cM .non)) (seqM (tryM (some 3) [("FormError", true), ("NoPlace", true), ("BadText", true), ("TooLong", true), ("BadPaper", true), ("BadName", true), ("Twice", true), ("NoForm", true)] (exprM (callM f__law_do (consA (vM 0) (consA (vM 1) nilA)))) (seqM (setM 2 (argM lstF (consA (unM (isXF [("FormError", false), ("NoPlace", false), ("BadText", false), ("TooLong", false), ("BadPaper", false), ("BadName", true), ("Twice", false), ("NoForm", false)]) (vM 3)) (consA (unM (isXF [("FormError", false), ("NoPlace", false), ("BadText", false), ("TooLong", false), ("BadPaper", false), ("BadName", false), ("Twice", true), ("NoForm", false)]) (vM 3)) (consA (unM (isXF [("FormError", false), ("NoPlace", false), ("BadText", false), ("TooLong", true), ("BadPaper", false), ("BadName", false), ("Twice", false), ("NoForm", false)]) (vM 3)) (consA (unM (isXF [("FormError", false), ("NoPlace", false), ("BadText", false), ("TooLong", false), ("BadPaper", false), ("BadName", false), ("Twice", false), ("NoForm", true)]) (vM 3)) nilA)))))) (seqM (setM 2 (binM addF (vM 2) (argM lstF (consA (unM (isXF [("FormError", false), ("NoPlace", true), ("BadText", false), ("TooLong", false), ("BadPaper", false), ("BadName", false), ("Twice", false), ("NoForm", false)]) (vM 3)) (consA (unM (isXF [("FormError", false), ("NoPlace", false), ("BadText", false), ("TooLong", false), ("BadPaper", true), ("BadName", false), ("Twice", false), ("NoForm", false)]) (vM 3)) (consA (unM (isXF [("FormError", false), ("NoPlace", false), ("BadText", true), ("TooLong", false), ("BadPaper", false), ("BadName", false), ("Twice", false), ("NoForm", false)]) (vM 3)) nilA)))))) (setM 2 (binM addF (vM 2) (argM lstF (consA (unM (isXF [("FormError", true), ("NoPlace", true), ("BadText", true), ("TooLong", true), ("BadPaper", true), ("BadName", true), ("Twice", true), ("NoForm", true)]) (vM 3)) nilA))))))) (retM (vM 2)))
noncomputable def F__law_refused_v4 : Nat → Fm
  | 0 => fun _ _ => .bad
  | n + 1 => kRaw.f (runM 2 4 (m__law_refused_v4 (F__law_do n)))
theorem S__law_refused_v4 (n : Nat) : F__law_refused_v4 (n + 1) = kRaw.f (runM 2 4 (m__law_refused_v4 (F__law_do n))) := rfl
noncomputable def m__law_case (f__law_chain f__law_of_knots : Fm) : SM :=
  seqM (setM 2 (argM tupF (consA (cM (.str "block")) (consA (cM (.str "a")) (consA (argM tupF (nilA)) nilA))))) (seqM (setM 3 (binM addF (cM (.str "p")) (argM strT (consA (binM modF (vM 1) (cM (.int 40))) nilA)))) (seqM (ifM (tbM (binM eqF (vM 0) (cM (.int 0)))) (retM (argM tupF (consA (cM (.int 0)) (consA (argM lstF (nilA)) (consA (argM tupF (consA (cM (.str "put")) (consA (binM ixF (argM lstF (consA (cM (.str "")) (consA (cM (.str "A")) (consA (cM (.str "a b")) (consA (cM (.str "toolongname12")) nilA))))) (binM modF (vM 1) (cM (.int 4)))) (consA (argM tupF (nilA)) (consA (vM 2) nilA))))) nilA))))) (passM)) (seqM (ifM (tbM (binM eqF (vM 0) (cM (.int 1)))) (retM (argM tupF (consA (cM (.int 1)) (consA (argM lstF (nilA)) (consA (argM tupF (consA (cM (.str "put")) (consA (vM 3) (consA (argM tupF (nilA)) (consA (vM 2) nilA))))) nilA))))) (passM)) (seqM (ifM (tbM (binM eqF (vM 0) (cM (.int 2)))) (retM (argM tupF (consA (cM (.int 2)) (consA (argM lstF (consA (argM tupF (consA (cM (.str "take")) (consA (vM 3) (consA (argM tupF (nilA)) (consA (vM 2) nilA))))) nilA)) (consA (argM tupF (consA (cM (.str "put")) (consA (cM (.str "new")) (consA (argM tupF (nilA)) (consA (vM 2) nilA))))) nilA))))) (passM)) (seqM (ifM (tbM (binM eqF (vM 0) (cM (.int 3)))) (retM (argM tupF (consA (cM (.int 3)) (consA (argM lstF (consA (argM tupF (consA (cM (.str "put")) (consA (cM (.str "x")) (consA (argM tupF (nilA)) (consA (vM 2) nilA))))) nilA)) (consA (argM tupF (consA (cM (.str "take")) (consA (cM (.str "x")) (consA (argM tupF (nilA)) (consA (vM 2) nilA))))) nilA))))) (passM)) (seqM (ifM (tbM (binM eqF (vM 0) (cM (.int 4)))) (retM (argM tupF (consA (cM (.int 3)) (consA (argM lstF (consA (argM tupF (consA (cM (.str "put")) (consA (cM (.str "x")) (consA (argM tupF (nilA)) (consA (vM 2) nilA))))) nilA)) (consA (argM tupF (consA (cM (.str "form")) (consA (cM (.str "x")) (consA (argM tupF (nilA)) (consA (vM 2) nilA))))) nilA))))) (passM)) (seqM (ifM (tbM (binM eqF (vM 0) (cM (.int 5)))) (retM (argM tupF (consA (cM (.int 3)) (consA (argM lstF (consA (argM tupF (consA (cM (.str "put")) (consA (cM (.str "x")) (consA (argM tupF (nilA)) (consA (callM f__law_chain (consA (cM (.int 3)) nilA)) nilA))))) nilA)) (consA (argM tupF (consA (cM (.str "change")) (consA (cM (.str "x")) (consA (binM ixF (argM lstF (consA (argM tupF (nilA)) (consA (argM tupF (consA (cM (.int 0)) nilA)) (consA (argM tupF (consA (cM (.int 0)) (consA (cM (.int 0)) nilA))) nilA)))) (binM modF (vM 1) (cM (.int 3)))) (consA (vM 2) nilA))))) nilA))))) (passM)) (seqM (ifM (tbM (binM eqF (vM 0) (cM (.int 6)))) (seqM (setM 4 (binM ixF (argM lstF (consA (argM tupF (consA (cM (.int 1)) nilA)) (consA (argM tupF (consA (unM negF (cM (.int 1))) nilA)) (consA (argM tupF (consA (cM (.int 0)) (consA (cM (.int 0)) (consA (cM (.int 0)) nilA)))) (consA (argM tupF (consA (cM (.int 0)) (consA (cM (.int 9)) nilA))) (consA (argM tupF (consA (cM (.int 0)) (consA (binM addF (cM (.int 1)) (binM modF (vM 1) (binM powF (cM (.int 10)) (cM (.int 9))))) nilA))) nilA)))))) (binM modF (vM 1) (cM (.int 5))))) (retM (argM tupF (consA (cM (.int 4)) (consA (argM lstF (nilA)) (consA (argM tupF (consA (cM (.str "change")) (consA (cM (.str "m")) (consA (vM 4) (consA (callM f__law_of_knots (consA (cM (.int 200)) nilA)) nilA))))) nilA)))))) (passM)) (seqM (ifM (tbM (binM eqF (vM 0) (cM (.int 7)))) (retM (argM tupF (consA (cM (.int 4)) (consA (argM lstF (consA (argM tupF (consA (cM (.str "change")) (consA (cM (.str "m")) (consA (argM tupF (consA (cM (.int 0)) (consA (cM (.int 0)) nilA))) (consA (callM f__law_chain (consA (cM (.int 2)) nilA)) nilA))))) nilA)) (consA (argM tupF (consA (cM (.str "change")) (consA (cM (.str "m")) (consA (argM tupF (consA (cM (.int 0)) (consA (cM (.int 0)) (consA (cM (.int 0)) nilA)))) (consA (vM 2) nilA))))) nilA))))) (passM)) (seqM (ifM (tbM (binM eqF (vM 0) (cM (.int 8)))) (retM (argM tupF (consA (cM (.int 2)) (consA (argM lstF (consA (argM tupF (consA (cM (.str "change")) (consA (cM (.str "m")) (consA (argM tupF (consA (cM (.int 0)) (consA (cM (.int 0)) nilA))) (consA (vM 2) nilA))))) nilA)) (consA (argM tupF (consA (cM (.str "change")) (consA (cM (.str "m")) (consA (argM tupF (consA (cM (.int 0)) (consA (cM (.int 0)) nilA))) (consA (callM f__law_of_knots (consA (cM (.int 199)) nilA)) nilA))))) nilA))))) (passM)) (retM (argM tupF (consA (cM (.int 2)) (consA (argM lstF (consA (argM tupF (consA (cM (.str "change")) (consA (cM (.str "m")) (consA (argM tupF (consA (cM (.int 0)) (consA (cM (.int 0)) nilA))) (consA (vM 2) nilA))))) nilA)) (consA (argM tupF (consA (cM (.str "change")) (consA (cM (.str "m")) (consA (argM tupF (consA (cM (.int 0)) (consA (cM (.int 0)) nilA))) (consA (callM f__law_chain (consA (cM (.int 29)) nilA)) nilA))))) nilA)))))))))))))))
noncomputable def F__law_case : Nat → Fm
  | 0 => fun _ _ => .bad
  | n + 1 => kRaw.f (runM 2 5 (m__law_case (F__law_chain_v3 n) (F__law_of_knots n)))
theorem S__law_case (n : Nat) : F__law_case (n + 1) = kRaw.f (runM 2 5 (m__law_case (F__law_chain_v3 n) (F__law_of_knots n))) := rfl
noncomputable def m__law_opened (f_Cabinet_put f__law_chain f_Cabinet___init__ : Fm) : SM :=
  seqM (setM 1 (newM "Cabinet" f_Cabinet___init__ nilA)) (seqM (ifM (tbM (binM ltF (vM 0) (cM (.int 3)))) (forM (rngI rng1 (consA (cM (.int 40)) nilA)) (nameG 2) (exprM (methM "Cabinet" "put" f_Cabinet_put (vM 1) (consA (binM addF (cM (.str "p")) (argM strT (consA (vM 2) nilA))) (consA (argM tupF (consA (cM (.str "block")) (consA (cM (.str "a")) (consA (argM tupF (nilA)) nilA)))) nilA))))) (passM)) (seqM (ifM (tbM (binM gtF (vM 0) (cM (.int 5)))) (exprM (methM "Cabinet" "put" f_Cabinet_put (vM 1) (consA (cM (.str "m")) (consA (callM f__law_chain (consA (cM (.int 3)) nilA)) nilA)))) (passM)) (retM (vM 1))))
noncomputable def F__law_opened : Nat → Fm
  | 0 => fun _ _ => .bad
  | n + 1 => kRaw.f (runM 1 3 (m__law_opened (F_Cabinet_put n) (F__law_chain_v3 n) (F_Cabinet___init__ (n - 1))))
theorem S__law_opened (n : Nat) : F__law_opened (n + 1) = kRaw.f (runM 1 3 (m__law_opened (F_Cabinet_put n) (F__law_chain_v3 n) (F_Cabinet___init__ (n - 1)))) := rfl
noncomputable def m__law_less (f__law_chain f__law_of_knots : Fm) : SM :=
  seqM (ifM (tbM (binM eqF (vM 0) (cM (.int 8)))) (retM (argM tupF (consA (cM (.str "change")) (consA (cM (.str "m")) (consA (argM tupF (consA (cM (.int 0)) (consA (cM (.int 0)) nilA))) (consA (callM f__law_of_knots (consA (cM (.int 198)) nilA)) nilA)))))) (passM)) (seqM (ifM (tbM (binM eqF (vM 0) (cM (.int 9)))) (retM (argM tupF (consA (cM (.str "change")) (consA (cM (.str "m")) (consA (argM tupF (consA (cM (.int 0)) (consA (cM (.int 0)) nilA))) (consA (callM f__law_chain (consA (cM (.int 28)) nilA)) nilA)))))) (passM)) (retM (vM 1)))
noncomputable def F__law_less : Nat → Fm
  | 0 => fun _ _ => .bad
  | n + 1 => kPure.f (runM 2 2 (m__law_less (F__law_chain_v3 n) (F__law_of_knots n)))
theorem S__law_less (n : Nat) : F__law_less (n + 1) = kPure.f (runM 2 2 (m__law_less (F__law_chain_v3 n) (F__law_of_knots n))) := rfl
noncomputable def m_law_k61 (f__law_less f__law_do f_Cabinet_below f__law_refused f_Cabinet_names f__law_opened f__law_case f__law_mixed : Fm) : SM :=
  seqM (forM (valI (slM (binM addF (vM 0) (argM lstF (consA (cM (.int 2)) nilA))) (noP) (someP (cM (.int 21))))) (nameG 1) (seqM (setM 2 (callM f__law_mixed (consA (vM 1) nilA))) (seqM (setM 3 (binM modF (vM 2) (cM (.int 10)))) (seqM (asgM (callM f__law_case (consA (vM 3) (consA (binM fdivF (vM 2) (cM (.int 10))) nilA))) (okG (tupG 3 (consG (nameG 4) (consG (nameG 5) (consG (nameG 6) (nilG))))))) (seqM (setM 7 (callM f__law_opened (consA (vM 3) nilA))) (seqM (setM 8 (methM "Cabinet" "names" f_Cabinet_names (vM 7) nilA)) (seqM (ifM (orM (tbM (binM neF (callM f__law_refused (consA (vM 7) (consA (vM 6) nilA))) (binM addF (lcM [9] (rngI rng1 (consA (cM (.int 7)) nilA)) (nameG 9) (yesM) (binM eqF (vM 9) (vM 4))) (argM lstF (consA (cM (.bl true)) nilA))))) (tbM (binM neF (methM "Cabinet" "names" f_Cabinet_names (vM 7) nilA) (vM 8)))) (retM (cM (.bl false))) (passM)) (seqM (ifM (tbM (binM neF (binM ixF (methM "Cabinet" "below" f_Cabinet_below (vM 7) (consA (argM tupF (consA (cM (.str "blank")) (consA (binM addF (cM (.int 1)) (binM modF (vM 2) (binM powF (cM (.int 10)) (cM (.int 9))))) nilA))) nilA)) (cM (.int 0))) (vM 8))) (retM (cM (.bl false))) (passM)) (seqM (forM (valI (vM 5)) (nameG 10) (exprM (callM f__law_do (consA (vM 7) (consA (vM 10) nilA))))) (ifM (tbM (binM neF (vM 5) (argM lstF (nilA)))) (seqM (setM 11 (callM f__law_do (consA (vM 7) (consA (callM f__law_less (consA (vM 3) (consA (vM 6) nilA))) nilA)))) (ifM (orM (andM (tbM (binM neF (vM 3) (cM (.int 4)))) (tbM (binM isnNF (vM 11) (cM .non)))) (andM (tbM (binM eqF (vM 3) (cM (.int 4)))) (tbM (binM neF (vM 11) (argM tupF (consA (cM (.str "block")) (consA (cM (.str "a")) (consA (argM tupF (nilA)) nilA)))))))) (retM (cM (.bl false))) (passM))) (passM))))))))))) (retM (cM (.bl true)))
noncomputable def F_law_k61 : Nat → Fm
  | 0 => fun _ _ => .bad
  | n + 1 => kPure.f (runM 1 12 (m_law_k61 (F__law_less n) (F__law_do n) (F_Cabinet_below_v4 n) (F__law_refused_v4 n) (F_Cabinet_names n) (F__law_opened n) (F__law_case n) (F__law_mixed n)))
theorem S_law_k61 (n : Nat) : F_law_k61 (n + 1) = kPure.f (runM 1 12 (m_law_k61 (F__law_less n) (F__law_do n) (F_Cabinet_below_v4 n) (F__law_refused_v4 n) (F_Cabinet_names n) (F__law_opened n) (F__law_case n) (F__law_mixed n))) := rfl
end DV
namespace DV
open PySem PySem.Spec PyProof.Rows L2
/-- a text's signs in the alphabets -/
abbrev smallS : Str := "abcdefghijklmnopqrstuvwxyz"
abbrev figS : Str := "0123456789"
def okSign (c : Nat) : Bool := decide (c ∈ smallS.cps) || decide (c ∈ figS.cps)
def nameL : List Nat → Bool
  | [] => false
  | c :: r => decide (c ∈ smallS.cps) && r.all okSign
def nameB (s : Str) : Bool := decide (1 ≤ s.length ∧ s.length ≤ 12) && nameL s.cps.toList
theorem str_len (s : Str) : s.length = s.cps.toList.length := by rw [Array.length_toList]; rfl
theorem hL : LIM = 16777216 := rfl
/-- the sign at a place fits -/
def okAt (i c : Nat) : Bool := decide (c ∈ smallS.cps) || (decide (i ≠ 0) && decide (c ∈ figS.cps))
theorem nameL_iff (l : List Nat) : nameL l = true ↔ l ≠ [] ∧ ∀ i c, l[i]? = some c → okAt i c = true := by
  cases l with
  | nil => simp [nameL]
  | cons a r =>
    simp only [nameL, Bool.and_eq_true, decide_eq_true_eq, List.all_eq_true, ne_eq, reduceCtorEq, not_false_eq_true, true_and]
    constructor
    · rintro ⟨h1, h2⟩ i c e
      cases i with
      | zero => simp at e; subst e; simp [okAt, h1]
      | succ i =>
        simp at e
        have := h2 c (List.mem_of_getElem? e)
        simpa [okAt, okSign] using this
    · intro h
      refine ⟨by simpa [okAt] using h 0 a rfl, fun c hc => ?_⟩
      obtain ⟨i, hi⟩ := List.mem_iff_getElem?.mp hc
      have := h (i + 1) c (by simpa using hi)
      simpa [okAt, okSign] using this
theorem app_len (a b : Str) : (a ++ b).length = a.length + b.length := by
  show (a.cps ++ b.cps).size = _
  rw [Array.size_append]; rfl
theorem cut_len (s : Str) (lo hi : Option Int) : (cutS s lo hi).length ≤ s.length := by
  show Array.size (List.toArray _) ≤ s.cps.size
  rw [List.size_toArray, List.length_take, List.length_drop, Array.length_toList]
  omega
theorem rep_size (s : Str) (k : Nat) : (repS s k).length = s.length * k := by
  show Array.size (List.toArray _) = _
  rw [List.size_toArray, rep_len, ← str_len]
end DV
namespace DV
open PySem PySem.Spec PyProof.Rows L2
inductive Tr where
  | bl (k : Int)
  | bk (s : Str) (ps : List Tr)
def Tr.parts : Tr → List Tr
  | .bl _ => []
  | .bk _ ps => ps
mutual
def tD : Tr → D
  | .bl k => .tup [.str "blank", .int k]
  | .bk s ps => .tup [.str "block", .str s, .tup (tDs ps)]
def tDs : List Tr → List D
  | [] => []
  | t :: ts => tD t :: tDs ts
end
theorem tDs_map : ∀ ts : List Tr, tDs ts = ts.map tD
  | [] => by simp [tDs]
  | t :: ts => by rw [tDs, tDs_map ts]; rfl
@[simp] theorem tDs_len (ts : List Tr) : (tDs ts).length = ts.length := by rw [tDs_map, List.length_map]
theorem tDs_get {ts : List Tr} {i : Nat} {d : D} (e : (tDs ts)[i]? = some d) : ∃ t, ts[i]? = some t ∧ d = tD t := by
  rw [tDs_map, List.getElem?_map] at e
  cases q : ts[i]? with
  | none => rw [q] at e; cases e
  | some t => rw [q] at e; cases e; exact ⟨t, rfl, rfl⟩
mutual
theorem noloc_tD : ∀ t : Tr, noloc (tD t) = true
  | .bl k => rfl
  | .bk s ps => by simp [tD, noloc, nolocL, noloc_tDs ps]
theorem noloc_tDs : ∀ ts : List Tr, nolocL (tDs ts) = true
  | [] => by simp [tDs, nolocL]
  | t :: ts => by simp [tDs, nolocL, noloc_tD t, noloc_tDs ts]
end
mutual
def Tr.knots : Tr → Nat
  | .bl _ => 1
  | .bk _ ps => 1 + knotsL ps
def knotsL : List Tr → Nat
  | [] => 0
  | t :: ts => t.knots + knotsL ts
end
mutual
def Tr.depth : Tr → Nat
  | .bl _ => 1
  | .bk _ ps => 1 + depthL ps
def depthL : List Tr → Nat
  | [] => 0
  | t :: ts => max t.depth (depthL ts)
end
theorem knots_parts (t : Tr) : t.knots = 1 + knotsL t.parts := by cases t <;> simp [Tr.knots, Tr.parts, knotsL]
theorem depth_parts (t : Tr) : t.depth = 1 + depthL t.parts := by cases t <;> simp [Tr.depth, Tr.parts, depthL]
theorem knots_pos (t : Tr) : 1 ≤ t.knots := by rw [knots_parts]; omega
theorem depth_mem {t : Tr} : ∀ {ts : List Tr}, t ∈ ts → t.depth ≤ depthL ts
  | [], h => nomatch h
  | u :: ts, h => by
    rw [depthL]
    rcases List.mem_cons.mp h with rfl | h
    · exact Nat.le_max_left _ _
    · exact Nat.le_trans (depth_mem h) (Nat.le_max_right _ _)
theorem knots_mem {t : Tr} : ∀ {ts : List Tr}, t ∈ ts → t.knots ≤ knotsL ts
  | [], h => nomatch h
  | u :: ts, h => by
    rw [knotsL]
    rcases List.mem_cons.mp h with rfl | h
    · omega
    · have := knots_mem h; omega
theorem knotsL_sum : ∀ ts : List Tr, knotsL ts = (ts.map Tr.knots).sum
  | [] => rfl
  | t :: ts => by rw [knotsL, knotsL_sum ts]; simp
theorem len_knotsL : ∀ ts : List Tr, ts.length ≤ knotsL ts
  | [] => by simp
  | t :: ts => by rw [knotsL]; have := len_knotsL ts; have := knots_pos t; simp; omega
@[simp] theorem ok_block : PyData.strOk "block" = true := by decide +kernel
@[simp] theorem ok_blank : PyData.strOk "blank" = true := by decide +kernel
theorem bk_bl : ¬ ("block" : Str) = "blank" := by decide +kernel
theorem bl_bk : ¬ ("blank" : Str) = "block" := by decide +kernel
@[simp] theorem eq_bl1 {h : Hs} : eqF (.str "blank") (.str "blank") h = some (.bl true, h) := by rw [eq_strs ok_blank ok_blank]; simp
@[simp] theorem eq_bl2 {h : Hs} : eqF (.str "block") (.str "blank") h = some (.bl false, h) := by rw [eq_strs ok_block ok_blank, decide_eq_false bk_bl]
@[simp] theorem eq_bk1 {h : Hs} : eqF (.str "block") (.str "block") h = some (.bl true, h) := by rw [eq_strs ok_block ok_block]; simp
@[simp] theorem eq_bk2 {h : Hs} : eqF (.str "blank") (.str "block") h = some (.bl false, h) := by rw [eq_strs ok_blank ok_block, decide_eq_false bl_bk]
@[simp] theorem at0 {α : Type} {a : α} {l : List α} : atI (a :: l) 0 = some a := by
  have : (0 : Int) = ((0 : Nat) : Int) := rfl
  rw [this, atI_nat (by simp)]; rfl
@[simp] theorem at1 {α : Type} {a b : α} {l : List α} : atI (a :: b :: l) 1 = some b := by
  have : (1 : Int) = ((1 : Nat) : Int) := rfl
  rw [this, atI_nat (by simp)]; rfl
@[simp] theorem at2 {α : Type} {a b c : α} {l : List α} : atI (a :: b :: c :: l) 2 = some c := by
  have : (2 : Int) = ((2 : Nat) : Int) := rfl
  rw [this, atI_nat (by simp)]; rfl
theorem parts_of_ok (n : Nat) (h : Hs) (t : Tr) : F_parts_of (n + 1) [tD t] h = .ok (.tup (tDs t.parts)) h := by
  refine R.wp_eq.mp ?_
  cases t with
  | bl k => simp [F_parts_of, wp_pure, wp_run, m_parts_of, startD, wp_v, tD, noloc, nolocL, Tr.parts, tDs]
  | bk s ps => simp [F_parts_of, wp_pure, wp_run, m_parts_of, startD, wp_v, tD, noloc, noloc_tDs, Tr.parts]
theorem intsOf_nat {α : Type} (f : α → Nat) : ∀ ts : List α, intsOf (ts.map fun p => D.int (f p : Int)) = some (ts.map fun p => (f p : Int))
  | [] => rfl
  | t :: ts => by rw [List.map_cons]; unfold intsOf; rw [intsOf_nat f ts]; rfl
theorem sum_nat {α : Type} (f : α → Nat) : ∀ ts : List α, (ts.map fun p => (f p : Int)).sum = (((ts.map f).sum : Nat) : Int)
  | [] => rfl
  | t :: ts => by rw [List.map_cons, List.sum_cons, sum_nat f ts]; simp
theorem knots_of_ok (h : Hs) : ∀ (n : Nat) (t : Tr), t.depth + 1 ≤ n → t.knots ≤ 1000000 → F_knots_of n [tD t] h = .ok (.int t.knots) h
  | 0, t, hn, _ => by omega
  | n + 1, t, hn, hk => by
    have dp := depth_parts t
    have kp := knots_parts t
    obtain ⟨n, rfl⟩ : ∃ m, n = m + 1 := ⟨n - 1, by omega⟩
    have hl := len_knotsL t.parts
    have lc := lc_map1 (h0 := h) (gd := fun _ => True) (i := 1) (ds := [some (tD t), none]) (A := callM (F_knots_of (n + 1)) (consA (vM 1) nilA)) (tDs t.parts) (t.parts.map fun p => .int (p.knots : Int)) (by simp) (by simp; omega) (fun _ => trivial) (fun k d y acc e1 e2 => by
      obtain ⟨p, hp, rfl⟩ := tDs_get e1
      rw [List.getElem?_map, hp] at e2
      cases e2
      have hm := List.mem_of_getElem? hp
      have := depth_mem hm
      have := knots_mem hm
      have ih := knots_of_ok (h ++ [.lst acc]) (n + 1) p (by omega) (by omega)
      refine R.wp_eq.mp ?_
      simp [wp_v, ih])
    rw [S_knots_of]
    refine R.wp_eq.mp ?_
    have es := intsOf_nat Tr.knots t.parts
    have se := sum_nat Tr.knots t.parts
    simp [wp_pure, wp_run, m_knots_of, startD, wp_v, parts_of_ok, lc, sumF, es, se, noloc, kp, knotsL_sum]
theorem max_nat {α : Type} (f : α → Nat) : ∀ (ts : List α) (a : Nat), maxI (a : Int) (ts.map fun p => (f p : Int)) = (((ts.map f).foldl max a : Nat) : Int)
  | [], a => rfl
  | t :: ts, a => by
    show maxI (if (a : Int) < (f t : Int) then (f t : Int) else (a : Int)) _ = _
    have e : (if (a : Int) < (f t : Int) then (f t : Int) else (a : Int)) = ((max a (f t) : Nat) : Int) := by split <;> omega
    rw [e, max_nat f ts]
    rfl
theorem foldl_max {α : Type} (f : α → Nat) : ∀ (ts : List α) (a : Nat), (ts.map f).foldl max a = max a ((ts.map f).foldl max 0)
  | [], a => by simp
  | t :: ts, a => by
    simp only [List.map_cons, List.foldl_cons]
    rw [foldl_max f ts (max a (f t)), foldl_max f ts (max 0 (f t))]
    omega
theorem depthL_max : ∀ ts : List Tr, depthL ts = (ts.map Tr.depth).foldl max 0
  | [] => rfl
  | t :: ts => by
    rw [depthL, depthL_max ts, List.map_cons, List.foldl_cons, foldl_max Tr.depth ts (max 0 t.depth)]
    omega
theorem depth_of_ok (h : Hs) : ∀ (n : Nat) (t : Tr), t.depth + 1 ≤ n → t.knots ≤ 1000000 → F_depth_of n [tD t] h = .ok (.int t.depth) h
  | 0, t, hn, _ => by omega
  | n + 1, t, hn, hk => by
    have dp := depth_parts t
    have kp := knots_parts t
    obtain ⟨n, rfl⟩ : ∃ m, n = m + 1 := ⟨n - 1, by omega⟩
    have hl := len_knotsL t.parts
    have lc := lc_map1 (h0 := h) (gd := fun _ => True) (i := 1) (ds := [some (tD t), none]) (A := callM (F_depth_of (n + 1)) (consA (vM 1) nilA)) (tDs t.parts) (t.parts.map fun p => .int (p.depth : Int)) (by simp) (by simp; omega) (fun _ => trivial) (fun k d y acc e1 e2 => by
      obtain ⟨p, hp, rfl⟩ := tDs_get e1
      rw [List.getElem?_map, hp] at e2
      cases e2
      have hm := List.mem_of_getElem? hp
      have := depth_mem hm
      have := knots_mem hm
      have ih := depth_of_ok (h ++ [.lst acc]) (n + 1) p (by omega) (by omega)
      refine R.wp_eq.mp ?_
      simp [wp_v, ih])
    rw [S_depth_of]
    refine R.wp_eq.mp ?_
    have mx := fun (h : Hs) (l : Nat) (e : h[l]? = some (.lst (t.parts.map fun p => .int (p.depth : Int)))) => maxd_lst (k := 0) e (intsOf_nat Tr.depth t.parts)
    have fin : maxOr 0 (t.parts.map fun p => (p.depth : Int)) = ((depthL t.parts : Nat) : Int) := by
      cases q : t.parts with
      | nil => simp [depthL, maxOr]
      | cons p ps =>
        simp only [List.map_cons, maxOr]
        rw [max_nat, foldl_max, depthL, depthL_max]
    rw [fin] at mx
    simp [wp_pure, wp_run, m_depth_of, startD, wp_v, parts_of_ok, lc, mx, noloc, dp]
end DV
namespace DV
open PySem PySem.Spec PyProof.Rows L2
end DV
namespace DV
open PySem PySem.Spec PyProof.Rows L2
mutual
/-- names, counts of parts and numbers are as the document has them -/
def Tr.good : Tr → Prop
  | .bl k => 1 ≤ k ∧ k ≤ 1000000000
  | .bk s ps => nameB s = true ∧ ps.length ≤ 9 ∧ goodL ps
def goodL : List Tr → Prop
  | [] => True
  | t :: ts => t.good ∧ goodL ts
end
theorem goodL_iff : ∀ {ts : List Tr}, goodL ts ↔ ∀ t ∈ ts, t.good
  | [] => by simp [goodL]
  | t :: ts => by rw [goodL, goodL_iff]; simp
end DV
namespace DV
open PySem PySem.Spec PyProof.Rows L2
abbrev Fr := Str × Nat × List Tr
def fD (f : Fr) : D := .tup [.str f.1, .loc f.2.1]
/-- what stands in the heap: the old things, the names, the cells, the frames and their lists -/
structure FrI (h : Hs) (ns : List Str) (its : List D) (fr : List Fr) (h' : Hs) : Prop where
  pre : h'.take h.length = h
  nam : h'[h.length]? = some (.lst (ns.map D.str))
  cel : h'[h.length + 3]? = some (.lst its)
  frm : h'[h.length + 2]? = some (.lst (fr.map fD))
  par : ∀ f ∈ fr, h'[f.2.1]? = some (.lst (tDs f.2.2))
  dis : (fr.map (·.2.1)).Nodup
  low : ∀ f ∈ fr, h.length ≤ f.2.1 ∧ f.2.1 ≠ h.length ∧ f.2.1 ≠ h.length + 2 ∧ f.2.1 ≠ h.length + 3
section
variable {h h' : Hs} {ns : List Str} {its : List D} {fr : List Fr}
theorem FrI.lt (I : FrI h ns its fr h') : h.length + 3 < h'.length := (List.getElem?_eq_some_iff.mp I.cel).1
theorem FrI.plt (I : FrI h ns its fr h') {f : Fr} (hf : f ∈ fr) : f.2.1 < h'.length := (List.getElem?_eq_some_iff.mp (I.par f hf)).1
theorem take_set_ge {α : Type} {l : List α} {n k : Nat} {a : α} (hk : n ≤ k) : (l.set k a).take n = l.take n := by
  apply List.ext_getElem?
  intro i
  rw [List.getElem?_take, List.getElem?_take]
  split
  · rw [List.getElem?_set_ne (by omega)]
  · rfl
theorem FrI.grow (I : FrI h ns its fr h') (r : Hs) : FrI h ns its fr (h' ++ r) where
  pre := by rw [List.take_append_of_le_length (by have := I.lt; omega)]; exact I.pre
  nam := get_app I.nam
  cel := get_app I.cel
  frm := get_app I.frm
  par := fun f hf => get_app (I.par f hf)
  dis := I.dis
  low := I.low
/-- the frames' list written -/
theorem FrI.put (I : FrI h ns its fr h') (fr2 : List Fr) (hp : ∀ f ∈ fr2, h'[f.2.1]? = some (.lst (tDs f.2.2))) (hd : (fr2.map (·.2.1)).Nodup)
    (hl : ∀ f ∈ fr2, h.length ≤ f.2.1 ∧ f.2.1 ≠ h.length ∧ f.2.1 ≠ h.length + 2 ∧ f.2.1 ≠ h.length + 3) : FrI h ns its fr2 (h'.set (h.length + 2) (.lst (fr2.map fD))) where
  pre := by rw [take_set_ge (by omega)]; exact I.pre
  nam := by rw [List.getElem?_set_ne (by omega)]; exact I.nam
  cel := by rw [List.getElem?_set_ne (by omega)]; exact I.cel
  frm := by rw [List.getElem?_set_self (by have := I.lt; omega)]
  par := fun f hf => by rw [List.getElem?_set_ne (Ne.symm (hl f hf).2.2.1)]; exact hp f hf
  dis := hd
  low := hl
theorem FrI.push (I : FrI h ns its fr h') (s : Str) (ps : List Tr) : FrI h ns its (fr ++ [(s, h'.length, ps)]) ((h' ++ [AO.lst (tDs ps)] : Hs).set (h.length + 2) (.lst ((fr ++ [(s, h'.length, ps)]).map fD))) := by
  refine (I.grow [AO.lst (tDs ps)]).put _ (fun f hf => ?_) ?_ fun f hf => ?_
  · rcases List.mem_append.mp hf with hf | hf
    · exact get_app (I.par f hf)
    · cases List.mem_singleton.mp hf
      simp
  · rw [List.map_append]
    refine List.nodup_append.mpr ⟨I.dis, by simp, fun a ha b hb => ?_⟩
    obtain ⟨g, hg, rfl⟩ := List.mem_map.mp ha
    have : b = h'.length := by simpa using hb
    have := I.plt hg
    omega
  · rcases List.mem_append.mp hf with hf | hf
    · exact I.low f hf
    · cases List.mem_singleton.mp hf
      have := I.lt
      show h.length ≤ h'.length ∧ h'.length ≠ _ ∧ h'.length ≠ _ ∧ h'.length ≠ _
      omega
theorem FrI.app {s : Str} {l : Nat} {ps : List Tr} (I : FrI h ns its (fr ++ [(s, l, ps)]) h') (t : Tr) : FrI h ns its (fr ++ [(s, l, ps ++ [t])]) (h'.set l (.lst (tDs (ps ++ [t])))) := by
  have mem : (s, l, ps) ∈ fr ++ [(s, l, ps)] := by simp
  obtain ⟨l1, l2, l3, l4⟩ := I.low _ mem
  have ll := I.plt mem
  simp only at l1 l2 l3 l4 ll
  have dd : ∀ g ∈ fr, g.2.1 ≠ l := fun g hg z => by
    have := I.dis
    rw [List.map_append] at this
    exact (List.nodup_append.mp this).2.2 g.2.1 (List.mem_map.mpr ⟨g, hg, rfl⟩) l (by simp) z
  refine ⟨by rw [take_set_ge l1]; exact I.pre, by rw [List.getElem?_set_ne l2]; exact I.nam, by rw [List.getElem?_set_ne l4]; exact I.cel, ?_, fun f hf => ?_, ?_, fun f hf => ?_⟩
  · rw [List.getElem?_set_ne l3, I.frm, List.map_append, List.map_append]; rfl
  · rcases List.mem_append.mp hf with hf | hf
    · rw [List.getElem?_set_ne (Ne.symm (dd f hf))]; exact I.par f (List.mem_append_left _ hf)
    · cases List.mem_singleton.mp hf
      rw [List.getElem?_set_self ll]
  · have := I.dis
    rw [List.map_append] at this ⊢
    exact this
  · rcases List.mem_append.mp hf with hf | hf
    · exact I.low f (List.mem_append_left _ hf)
    · cases List.mem_singleton.mp hf
      exact ⟨l1, l2, l3, l4⟩
end
theorem depthL_le {ps : List Tr} {n : Nat} : depthL ps ≤ n ↔ ∀ t ∈ ps, t.depth ≤ n := by
  induction ps with
  | nil => simp [depthL]
  | cons t ts ih => rw [depthL, Nat.max_le, ih]; simp
/-- the trees in frames: good, few; the lowest first -/
structure FrT (w : Nat) (fr : List Fr) (top : Fr) : Prop where
  nm : ∀ f ∈ fr ++ [top], nameB f.1 = true ∧ ∀ t ∈ f.2.2, t.good
  few : ∀ f ∈ fr, f.2.2.length ≤ 8
  few1 : top.2.2.length ≤ 9
  len : fr.length ≤ 9
  dep : ∀ j f, (fr ++ [top])[j]? = some f → ∀ t ∈ f.2.2, t.depth + j ≤ 10 + w
section
variable {w : Nat} {fr : List Fr} {top g : Fr}
theorem FrT.good (T : FrT w fr top) : (Tr.bk top.1 top.2.2).good := by
  have := T.nm top (by simp)
  exact ⟨this.1, T.few1, goodL_iff.mpr this.2⟩
theorem FrT.depth (T : FrT w fr top) : (Tr.bk top.1 top.2.2).depth + fr.length ≤ 11 + w := by
  have : depthL top.2.2 + fr.length ≤ 10 + w := by
    by_cases z : fr.length ≤ 10 + w
    · have := depthL_le.mpr (fun t ht => by have := T.dep fr.length top (by simp) t ht; show t.depth ≤ 10 + w - fr.length; omega)
      omega
    · have := T.len; omega
  rw [Tr.depth]; omega
end
end DV
namespace DV
open PySem PySem.Spec PyProof.Rows L2
theorem tup_loc {h : Hs} {l : Nat} {xs : List D} (e : h[l]? = some (.lst xs)) : tupT [.loc l] h = some (.tup xs, h) := by simp [tupT, e]
theorem eqB_empty {h : Hs} {l : Nat} {xs : List D} (e : h[l]? = some (.lst xs)) : eqB (.loc l) (.loc h.length) (h ++ [AO.lst []]) = some xs.isEmpty := by
  have e1 : (h ++ [AO.lst []])[l]? = some (.lst xs) := get_app e
  have e2 : (h ++ [AO.lst []])[h.length]? = some (.lst []) := by simp
  cases xs with
  | nil =>
    rw [eqB_lst e1 e2 rfl rfl (Nat.zero_le _)]; simp
  | cons x xs => rw [eqB_len e1 e2 (by simp)]; rfl
end DV
namespace DV
open PySem PySem.Spec PyProof.Rows L2
def plInts (p : List Nat) : List D := p.map fun (k : Nat) => D.int (k : Int)
@[simp] theorem rng3_int {i j : Int} : rng3 [.int i, .int j, .int (-1)] = if inR i = true ∧ inR j = true then some ((List.range (i - j).toNat).map fun (t : Nat) => .int (i - (t : Int))) else none := by
  unfold rng3
  simp
end DV
namespace DV
open PySem PySem.Spec PyProof.Rows L2
theorem strOk_name {s : Str} (h : nameB s = true) : PyData.strOk s = true := by
  unfold nameB at h
  rw [Bool.and_eq_true, nameL_iff] at h
  obtain ⟨_, _, h⟩ := h
  unfold PyData.strOk
  rw [Array.all_eq_true]
  intro i hi
  have e : s.cps.toList[i]? = some s.cps[i] := by rw [Array.getElem?_toList]; exact Array.getElem?_eq_getElem hi
  have := h i _ e
  unfold okAt at this
  simp only [Bool.or_eq_true, Bool.and_eq_true, decide_eq_true_eq] at this
  have small : ∀ c, c ∈ smallS.cps → c < 0x110000 := by decide +kernel
  have fig : ∀ c, c ∈ figS.cps → c < 0x110000 := by decide +kernel
  rcases this with z | ⟨_, z⟩
  · exact decide_eq_true (small _ z)
  · exact decide_eq_true (fig _ z)
mutual
theorem dep_tD : ∀ t : Tr, depD (tD t) ≤ 2 * t.depth
  | .bl k => by simp [tD, depD, depL, Tr.depth]
  | .bk s ps => by
    have := dep_tDs ps
    simp [tD, depD, depL, Tr.depth]
    omega
theorem dep_tDs : ∀ ts : List Tr, depL (tDs ts) ≤ 2 * depthL ts
  | [] => by simp [tDs, depL]
  | t :: ts => by
    have := dep_tD t
    have := dep_tDs ts
    simp only [tDs, depL, depthL]
    omega
end
end DV
namespace DV
open PySem PySem.Spec PyProof.Rows L2
@[simp] theorem ix_ro {h : Hs} {ns : List Int} {i : Int} : ixF (.ro ns) (.int i) h = (atI ns i).map fun n => (.int n, h) := rfl
theorem slF_tup {h : Hs} {xs : List D} {lo hi : Option Int} : slF (.tup xs) lo hi h = some (.tup (cutL xs lo hi), h) := rfl
theorem slF_lst {h : Hs} {l : Nat} {xs : List D} {lo hi : Option Int} (e : h[l]? = some (.lst xs)) : slF (.loc l) lo hi h = some (.loc h.length, h ++ [.lst (cutL xs lo hi)]) := by simp [slF, e]
theorem cut_from {α : Type} (xs : List α) (k : Nat) : cutL xs (some (k : Int)) none = xs.drop k := by
  unfold cutL
  have e1 : HT.sIx xs.length xs.length none = xs.length := rfl
  rw [e1, HT.sIx_nat]
  by_cases c : k ≤ xs.length
  · rw [Nat.min_eq_left c]
    exact List.take_of_length_le (by rw [List.length_drop]; omega)
  · rw [Nat.min_eq_right (by omega), List.drop_length, List.drop_eq_nil_of_le (by omega)]; simp
theorem cut1 {α : Type} (xs : List α) : cutL xs (some 1) none = xs.drop 1 := cut_from xs 1
@[simp] theorem p109 : cPow 10 9 = true := cPow_of (by decide) (by decide) (by decide)
@[simp] theorem p108 : cPow 10 8 = true := cPow_of (by decide) (by decide) (by decide)
@[simp] theorem p106 : cPow 10 6 = true := cPow_of (by decide) (by decide) (by decide)
@[simp] theorem m109 (i : Int) : cMod i 1000000000 = true := cMod_of (by decide)
@[simp] theorem pl_len (p : List Nat) : (plInts p).length = p.length := by simp [plInts]
end DV
namespace DV
open PySem PySem.Spec PyProof.Rows L2
def Tr.at_ : Tr → List Int → Option Tr
  | t, [] => some t
  | t, k :: p => if 0 ≤ k ∧ k < t.parts.length then (t.parts[k.toNat]?).bind fun u => u.at_ p else none
def plZ (p : List Int) : List D := p.map D.int
end DV
namespace DV
open PySem PySem.Spec PyProof.Rows L2
end DV
namespace DV
open PySem PySem.Spec PyProof.Rows L2
end DV
namespace DV
open PySem PySem.Spec PyProof.Rows L2
section
variable {α : Type}
def mD (f : α → D) (fs : List (Int × α)) : List (Key × D) := fs.map fun p => (.inl p.1, f p.2)
def mAt (fs : List (Int × α)) (k : Int) : Option α := (fs.find? fun p => decide (p.1 = k)).map (·.2)
def mPut (fs : List (Int × α)) (k : Int) (t : α) : List (Int × α) := if (fs.any fun p => decide (p.1 = k)) = true then fs.map (fun p => if p.1 = k then (p.1, t) else p) else fs ++ [(k, t)]
@[simp] theorem mD_len (f : α → D) (fs : List (Int × α)) : (mD f fs).length = fs.length := List.length_map _
theorem val_mD (f : α → D) (k : Int) : ∀ fs : List (Int × α), valD (mD f fs) (.inl k : Key) = (mAt fs k).map f
  | [] => rfl
  | (j, a) :: fs => by
    have ih := val_mD f k fs
    unfold valD mAt mD at ih ⊢
    rw [List.map_cons, List.find?_cons, List.find?_cons]
    by_cases c : j = k
    · subst c; simp
    · simp only [c, Sum.inl.injEq, decide_false]
      exact ih
theorem put_mD (f : α → D) (fs : List (Int × α)) (k : Int) (t : α) : putD (mD f fs) (.inl k : Key) (f t) = mD f (mPut fs k t) := by
  have e : ((mD f fs).any fun p => decide (p.1 = (.inl k : Key))) = fs.any fun p => decide (p.1 = k) := by
    unfold mD
    rw [List.any_map]
    congr 1
    funext p
    simp
  unfold putD mPut
  rw [e]
  split
  · unfold mD
    rw [List.map_map, List.map_map]
    congr 1
    funext p
    simp only [Function.comp_apply, Sum.inl.injEq]
    split <;> rfl
  · unfold mD
    rw [List.map_append]; rfl
theorem mAt_cons (j k : Int) (a : α) (fs : List (Int × α)) : mAt ((j, a) :: fs) k = if j = k then some a else mAt fs k := by
  unfold mAt
  rw [List.find?_cons]
  by_cases c : j = k
  · simp [c]
  · simp [c]
theorem mAt_none {fs : List (Int × α)} {k : Int} : mAt fs k = none ↔ k ∉ fs.map (·.1) := by
  induction fs with
  | nil => simp [mAt]
  | cons p fs ih =>
    obtain ⟨j, a⟩ := p
    rw [mAt_cons]
    by_cases c : j = k
    · simp [c]
    · have : ¬ k = j := fun e => c e.symm
      simp [c, ih, this]
theorem mAt_mem {fs : List (Int × α)} {k : Int} {a : α} (h : mAt fs k = some a) : (k, a) ∈ fs := by
  induction fs with
  | nil => simp [mAt] at h
  | cons p fs ih =>
    obtain ⟨j, b⟩ := p
    rw [mAt_cons] at h
    split at h
    · rename_i c
      cases h
      rw [c]; exact List.mem_cons_self
    · exact List.mem_cons_of_mem _ (ih h)
theorem any_key {fs : List (Int × α)} {k : Int} : (fs.any fun p => decide (p.1 = k)) = decide (k ∈ fs.map (·.1)) := by
  induction fs with
  | nil => rfl
  | cons p fs ih =>
    rw [List.any_cons, ih]
    by_cases c : p.1 = k
    · simp [c]
    · have : ¬ k = p.1 := fun e => c e.symm
      simp [c, this]
theorem mPut_new {fs : List (Int × α)} {k : Int} {a : α} (h : k ∉ fs.map (·.1)) : mPut fs k a = fs ++ [(k, a)] := by
  unfold mPut
  rw [any_key, decide_eq_false h]; rfl
theorem mPut_keys (fs : List (Int × α)) (k : Int) (a : α) : (mPut fs k a).map (·.1) = if k ∈ fs.map (·.1) then fs.map (·.1) else fs.map (·.1) ++ [k] := by
  unfold mPut
  rw [any_key]
  by_cases c : k ∈ fs.map (·.1)
  · rw [decide_eq_true c, if_pos rfl, if_pos c, List.map_map]
    congr 1
    funext p
    simp only [Function.comp_apply]
    split <;> rfl
  · rw [decide_eq_false c, if_neg (by simp), if_neg c, List.map_append]; rfl
theorem mPut_nodup {fs : List (Int × α)} (k : Int) (a : α) (nd : (fs.map (·.1)).Nodup) : ((mPut fs k a).map (·.1)).Nodup := by
  rw [mPut_keys]
  split
  · exact nd
  · rename_i c
    refine List.nodup_append.mpr ⟨nd, by simp, fun x hx y hy e => c ?_⟩
    have : y = k := by simpa using hy
    rw [← this, ← e]; exact hx
end
mutual
def Tr.fill (f : Int → Option Tr) : Tr → Tr
  | .bl k => (f k).getD (.bl k)
  | .bk s ps => .bk s (fillL f ps)
def fillL (f : Int → Option Tr) : List Tr → List Tr
  | [] => []
  | t :: ts => t.fill f :: fillL f ts
end
theorem fillL_map (f : Int → Option Tr) : ∀ ts : List Tr, fillL f ts = ts.map (Tr.fill f)
  | [] => rfl
  | t :: ts => by rw [fillL, fillL_map f ts]; rfl
@[simp] theorem fillL_len (f : Int → Option Tr) (ts : List Tr) : (fillL f ts).length = ts.length := by rw [fillL_map, List.length_map]
def numF (i : Nat) : List Int → List (Int × Tr)
  | [] => []
  | b :: bs => (b, .bl ((i : Int) + 1)) :: numF (i + 1) bs
@[simp] theorem numF_len : ∀ (bs : List Int) (i : Nat), (numF i bs).length = bs.length
  | [], _ => rfl
  | b :: bs, i => by rw [numF, List.length_cons, numF_len bs]; rfl
end DV
namespace DV
open PySem PySem.Spec PyProof.Rows L2
end DV
namespace DV
open PySem PySem.Spec PyProof.Rows L2
def Tr.size (t : Tr) : Nat × Nat := (t.knots, t.depth)
theorem knotsL_snoc (u : Tr) : ∀ ts : List Tr, knotsL (ts ++ [u]) = knotsL ts + u.knots
  | [] => by simp [knotsL]
  | t :: ts => by rw [List.cons_append, knotsL, knotsL, knotsL_snoc u ts]; omega
def Tr.great (t : Tr) : Prop := 400 < t.knots ∨ 60 < t.depth
instance (t : Tr) : Decidable t.great := inferInstanceAs (Decidable (_ ∨ _))
end DV
namespace DV
open PySem PySem.Spec PyProof.Rows L2
end DV
namespace DV
open PySem PySem.Spec PyProof.Rows L2
end DV
namespace DV
open PySem PySem.Spec PyProof.Rows L2
theorem R.wp_exc_eq {α : Type} {r : R α} {c : Str} {h : Hs} (w : r.wp (fun _ _ => False) (fun c' h' => c' = c ∧ h' = h)) : r = .exc c h := by
  cases r with
  | ok a h' => exact w.elim
  | exc c' h' => obtain ⟨rfl, rfl⟩ := w; rfl
  | bad => exact w.elim
def Tr.setPart : Tr → Nat → Tr → Tr
  | .bl k, _, _ => .bl k
  | .bk s ps, k, w => .bk s (ps.set k w)
def Tr.put : Tr → List Int → Tr → Option Tr
  | _, [], u => some u
  | t, k :: p, u => if 0 ≤ k ∧ k < t.parts.length then (t.parts[k.toNat]?).bind fun v => (v.put p u).map fun w => t.setPart k.toNat w else none
theorem put_nil (t u : Tr) : t.put [] u = some u := by unfold Tr.put; rfl
theorem put_cons (t u : Tr) (k : Int) (p : List Int) : t.put (k :: p) u = if 0 ≤ k ∧ k < t.parts.length then (t.parts[k.toNat]?).bind fun v => (v.put p u).map fun w => t.setPart k.toNat w else none := by rw [Tr.put]
@[simp] theorem plZ_len (p : List Int) : (plZ p).length = p.length := by simp [plZ]
def exR (r : Option Tr) (h : Hs) : R D := match r with
  | some w => .ok (tD w) h
  | none => .exc "NoPlace" h
theorem tDs_at {ts : List Tr} {k : Int} {v : Tr} (h0 : 0 ≤ k) (hv : ts[k.toNat]? = some v) : atI (tDs ts) k = some (tD v) := by
  obtain ⟨m, rfl⟩ := Int.eq_ofNat_of_zero_le h0
  have hv : ts[m]? = some v := hv
  rw [atI_nat (by rw [tDs_len]; exact (List.getElem?_eq_some_iff.mp hv).1), tDs_map, List.getElem?_map, hv]; rfl
theorem tDs_set (ts : List Tr) (k : Nat) (w : Tr) : (tDs ts).set k (tD w) = tDs (ts.set k w) := by rw [tDs_map, tDs_map, List.map_set]
theorem cut1Z (k : Int) (p : List Int) : cutL (plZ (k :: p)) (some 1) none = plZ p := by rw [cut1]; rfl
theorem put_at_ok : ∀ (p : List Int) (n : Nat) (h : Hs) (t u : Tr), p.length + 2 ≤ n → t.knots ≤ 1000000 → F_put_at n [tD t, .tup (plZ p), tD u] h = exR (t.put p u) h
  | [], n, h, t, u, hn, _ => by
    obtain ⟨n, rfl⟩ : ∃ m, n = m + 1 := ⟨n - 1, by omega⟩
    rw [S_put_at, put_nil]
    refine R.wp_eq.mp ?_
    simp [wp_pure, wp_run, m_put_at, startD, wp_v, plZ, noloc_tD]
  | k :: p, n, h, t, u, hn, hk => by
    obtain ⟨n, rfl⟩ : ∃ m, n = m + 2 := ⟨n - 2, by simp at hn; omega⟩
    rw [S_put_at, put_cons]
    have po := parts_of_ok n h t
    have kp := knots_parts t
    have lp := len_knotsL t.parts
    have ne : ¬ ((p.length : Int) + 1 = 0) := by omega
    by_cases c1 : 0 ≤ k
    · by_cases c2 : k < t.parts.length
      · rw [if_pos ⟨c1, c2⟩]
        obtain ⟨v, hv⟩ : ∃ v, t.parts[k.toNat]? = some v := ⟨_, List.getElem?_eq_getElem (by omega)⟩
        cases t with
        | bl b => simp [Tr.parts] at hv
        | bk s ps =>
          simp only [Tr.parts] at hv c2 po lp kp
          have av := tDs_at c1 hv
          have kv := knots_mem (List.mem_of_getElem? hv)
          have ih := fun h => put_at_ok p (n + 1) h v u (by simp at hn ⊢; omega) (by omega)
          obtain ⟨m, rfl⟩ := Int.eq_ofNat_of_zero_le c1
          have c3 : m < ps.length := by omega
          have hm : (Int.ofNat m).toNat = m := rfl
          have st := fun (v : D) => set_lst (h := h ++ [AO.lst (tDs ps)]) (l := h.length) (k := m) (xs := tDs ps) (v := v) (by simp) (by rw [tDs_len]; exact c3)
          have c4 : (m : Int) < (ps.length : Int) := by omega
          have cz := cut1Z (m : Int) p
          have lz : (plZ ((m : Int) :: p)).length = p.length + 1 := by simp [plZ]
          have a0 : atI (plZ ((m : Int) :: p)) 0 = some (.int m) := by simp [plZ]
          have ixm : ∀ h' : Hs, h'[h.length]? = some (.lst (tDs ps)) → ixF (.loc h.length) (.int m) h' = some (tD v, h') := fun h' e => by
            rw [ix_lst e]
            have : atI (tDs ps) (m : Int) = some (tD v) := av
            rw [this]; rfl
          have hv' : ps[m]? = some v := hv
          simp only [Int.ofNat_eq_natCast, Tr.parts]
          simp only [Int.toNat_natCast, hv', Option.bind_some]
          cases q : v.put p u with
          | some w =>
            rw [q] at ih
            refine R.wp_eq.mp ?_
            have s2 := st (tD w)
            rw [tDs_set] at s2
            simp [tD] at po
            simp [wp_pure, wp_run, m_put_at, startD, wp_v, tD, lz, a0, ne, po, c4, lstT, ixm, slF_tup, cz, ih, exR, s2, tupT, Tr.setPart, noloc, nolocL, noloc_tDs]
          | none =>
            rw [q] at ih
            refine R.wp_exc_eq ?_
            simp [tD] at po
            simp [wp_pure, wp_run, m_put_at, startD, wp_v, tD, lz, a0, ne, po, c4, lstT, ixm, slF_tup, cz, ih, exR]
      · rw [if_neg (fun z => c2 z.2)]
        have c3 : ¬ k < (t.parts.length : Int) := c2
        refine R.wp_exc_eq ?_
        simp [wp_pure, wp_run, m_put_at, startD, wp_v, plZ, ne, po, c1, c3]
    · rw [if_neg (fun z => c1 z.1)]
      refine R.wp_exc_eq ?_
      simp [wp_pure, wp_run, m_put_at, startD, wp_v, plZ, ne, po, c1]
end DV
namespace DV
open PySem PySem.Spec PyProof.Rows L2
@[simp] theorem xn_FormError_NoPlace : (("FormError" : Str) = "NoPlace") = False := eq_false (by decide +kernel)
@[simp] theorem xn_FormError_BadText : (("FormError" : Str) = "BadText") = False := eq_false (by decide +kernel)
@[simp] theorem xn_FormError_TooLong : (("FormError" : Str) = "TooLong") = False := eq_false (by decide +kernel)
@[simp] theorem xn_FormError_BadPaper : (("FormError" : Str) = "BadPaper") = False := eq_false (by decide +kernel)
@[simp] theorem xn_FormError_BadName : (("FormError" : Str) = "BadName") = False := eq_false (by decide +kernel)
@[simp] theorem xn_FormError_Twice : (("FormError" : Str) = "Twice") = False := eq_false (by decide +kernel)
@[simp] theorem xn_FormError_NoForm : (("FormError" : Str) = "NoForm") = False := eq_false (by decide +kernel)
@[simp] theorem xn_NoPlace_FormError : (("NoPlace" : Str) = "FormError") = False := eq_false (by decide +kernel)
@[simp] theorem xn_NoPlace_BadText : (("NoPlace" : Str) = "BadText") = False := eq_false (by decide +kernel)
@[simp] theorem xn_NoPlace_TooLong : (("NoPlace" : Str) = "TooLong") = False := eq_false (by decide +kernel)
@[simp] theorem xn_NoPlace_BadPaper : (("NoPlace" : Str) = "BadPaper") = False := eq_false (by decide +kernel)
@[simp] theorem xn_NoPlace_BadName : (("NoPlace" : Str) = "BadName") = False := eq_false (by decide +kernel)
@[simp] theorem xn_NoPlace_Twice : (("NoPlace" : Str) = "Twice") = False := eq_false (by decide +kernel)
@[simp] theorem xn_NoPlace_NoForm : (("NoPlace" : Str) = "NoForm") = False := eq_false (by decide +kernel)
@[simp] theorem xn_BadText_FormError : (("BadText" : Str) = "FormError") = False := eq_false (by decide +kernel)
@[simp] theorem xn_BadText_NoPlace : (("BadText" : Str) = "NoPlace") = False := eq_false (by decide +kernel)
@[simp] theorem xn_BadText_TooLong : (("BadText" : Str) = "TooLong") = False := eq_false (by decide +kernel)
@[simp] theorem xn_BadText_BadPaper : (("BadText" : Str) = "BadPaper") = False := eq_false (by decide +kernel)
@[simp] theorem xn_BadText_BadName : (("BadText" : Str) = "BadName") = False := eq_false (by decide +kernel)
@[simp] theorem xn_BadText_Twice : (("BadText" : Str) = "Twice") = False := eq_false (by decide +kernel)
@[simp] theorem xn_BadText_NoForm : (("BadText" : Str) = "NoForm") = False := eq_false (by decide +kernel)
@[simp] theorem xn_TooLong_FormError : (("TooLong" : Str) = "FormError") = False := eq_false (by decide +kernel)
@[simp] theorem xn_TooLong_NoPlace : (("TooLong" : Str) = "NoPlace") = False := eq_false (by decide +kernel)
@[simp] theorem xn_TooLong_BadText : (("TooLong" : Str) = "BadText") = False := eq_false (by decide +kernel)
@[simp] theorem xn_TooLong_BadPaper : (("TooLong" : Str) = "BadPaper") = False := eq_false (by decide +kernel)
@[simp] theorem xn_TooLong_BadName : (("TooLong" : Str) = "BadName") = False := eq_false (by decide +kernel)
@[simp] theorem xn_TooLong_Twice : (("TooLong" : Str) = "Twice") = False := eq_false (by decide +kernel)
@[simp] theorem xn_TooLong_NoForm : (("TooLong" : Str) = "NoForm") = False := eq_false (by decide +kernel)
@[simp] theorem xn_BadPaper_FormError : (("BadPaper" : Str) = "FormError") = False := eq_false (by decide +kernel)
@[simp] theorem xn_BadPaper_NoPlace : (("BadPaper" : Str) = "NoPlace") = False := eq_false (by decide +kernel)
@[simp] theorem xn_BadPaper_BadText : (("BadPaper" : Str) = "BadText") = False := eq_false (by decide +kernel)
@[simp] theorem xn_BadPaper_TooLong : (("BadPaper" : Str) = "TooLong") = False := eq_false (by decide +kernel)
@[simp] theorem xn_BadPaper_BadName : (("BadPaper" : Str) = "BadName") = False := eq_false (by decide +kernel)
@[simp] theorem xn_BadPaper_Twice : (("BadPaper" : Str) = "Twice") = False := eq_false (by decide +kernel)
@[simp] theorem xn_BadPaper_NoForm : (("BadPaper" : Str) = "NoForm") = False := eq_false (by decide +kernel)
@[simp] theorem xn_BadName_FormError : (("BadName" : Str) = "FormError") = False := eq_false (by decide +kernel)
@[simp] theorem xn_BadName_NoPlace : (("BadName" : Str) = "NoPlace") = False := eq_false (by decide +kernel)
@[simp] theorem xn_BadName_BadText : (("BadName" : Str) = "BadText") = False := eq_false (by decide +kernel)
@[simp] theorem xn_BadName_TooLong : (("BadName" : Str) = "TooLong") = False := eq_false (by decide +kernel)
@[simp] theorem xn_BadName_BadPaper : (("BadName" : Str) = "BadPaper") = False := eq_false (by decide +kernel)
@[simp] theorem xn_BadName_Twice : (("BadName" : Str) = "Twice") = False := eq_false (by decide +kernel)
@[simp] theorem xn_BadName_NoForm : (("BadName" : Str) = "NoForm") = False := eq_false (by decide +kernel)
@[simp] theorem xn_Twice_FormError : (("Twice" : Str) = "FormError") = False := eq_false (by decide +kernel)
@[simp] theorem xn_Twice_NoPlace : (("Twice" : Str) = "NoPlace") = False := eq_false (by decide +kernel)
@[simp] theorem xn_Twice_BadText : (("Twice" : Str) = "BadText") = False := eq_false (by decide +kernel)
@[simp] theorem xn_Twice_TooLong : (("Twice" : Str) = "TooLong") = False := eq_false (by decide +kernel)
@[simp] theorem xn_Twice_BadPaper : (("Twice" : Str) = "BadPaper") = False := eq_false (by decide +kernel)
@[simp] theorem xn_Twice_BadName : (("Twice" : Str) = "BadName") = False := eq_false (by decide +kernel)
@[simp] theorem xn_Twice_NoForm : (("Twice" : Str) = "NoForm") = False := eq_false (by decide +kernel)
@[simp] theorem xn_NoForm_FormError : (("NoForm" : Str) = "FormError") = False := eq_false (by decide +kernel)
@[simp] theorem xn_NoForm_NoPlace : (("NoForm" : Str) = "NoPlace") = False := eq_false (by decide +kernel)
@[simp] theorem xn_NoForm_BadText : (("NoForm" : Str) = "BadText") = False := eq_false (by decide +kernel)
@[simp] theorem xn_NoForm_TooLong : (("NoForm" : Str) = "TooLong") = False := eq_false (by decide +kernel)
@[simp] theorem xn_NoForm_BadPaper : (("NoForm" : Str) = "BadPaper") = False := eq_false (by decide +kernel)
@[simp] theorem xn_NoForm_BadName : (("NoForm" : Str) = "BadName") = False := eq_false (by decide +kernel)
@[simp] theorem xn_NoForm_Twice : (("NoForm" : Str) = "Twice") = False := eq_false (by decide +kernel)
@[simp] theorem tabF_nil {c : Str} : tabF [] c = none := rfl
@[simp] theorem tabF_cons {x c : Str} {b : Bool} {r : List (Str × Bool)} : tabF ((x, b) :: r) c = if x = c then some b else tabF r c := by
  unfold tabF
  rw [List.find?_cons]
  by_cases e : x = c
  · rw [if_pos e]; simp [e]
  · rw [if_neg e]; simp [e]
@[simp] theorem isX_exn {tb : List (Str × Bool)} {c : Str} {h : Hs} : isXF tb (.exn c) h = (tabF tb c).map fun b => (.bl b, h) := rfl
theorem pyWL_bools (φ : Nat → Option PyData) : ∀ bs : List Bool, pyWL φ (bs.map D.bl) = some (bs.map PyData.bool)
  | [] => rfl
  | b :: bs => by rw [List.map_cons]; unfold pyWL; rw [pyWL_bools φ bs]; rfl
theorem eqv_bools : ∀ bs cs : List Bool, PyData.eqvAll (bs.map PyData.bool) (cs.map PyData.bool) = decide (bs = cs)
  | [], [] => by simp [PyData.eqvAll]
  | [], _ :: _ => by simp [PyData.eqvAll]
  | _ :: _, [] => by simp [PyData.eqvAll]
  | b :: bs, c :: cs => by
    have ih := eqv_bools bs cs
    simp only [List.map_cons, PyData.eqvAll, ih, PyData.eqv]
    cases b <;> cases c <;> simp
theorem canLay_bools : ∀ bs : List Bool, PyData.canLayAll0 (bs.map PyData.bool) = true
  | [] => rfl
  | b :: bs => by rw [List.map_cons]; unfold PyData.canLayAll0; rw [canLay_bools bs]; rfl
theorem dep_bools : ∀ bs : List Bool, PyData.depthAll (bs.map PyData.bool) = 0
  | [] => rfl
  | b :: bs => by rw [List.map_cons]; unfold PyData.depthAll; rw [dep_bools bs]; rfl
theorem eqB_bools {h : Hs} {i j : Nat} {bs cs : List Bool} (ei : h[i]? = some (.lst (bs.map D.bl))) (ej : h[j]? = some (.lst (cs.map D.bl))) : eqB (.loc i) (.loc j) h = some (decide (bs = cs)) := by
  unfold eqB lenNe
  simp only [ei, ej]
  split
  · rename_i c
    have c := of_decide_eq_true c
    rw [List.length_map, List.length_map] at c
    rw [decide_eq_false fun e => c (by rw [e])]
  · have e1 : pyH h (.loc i) = some (.list (bs.map PyData.bool)) := by
      unfold pyH pyW pyLoc
      simp only [ei, pyWL_bools]; rfl
    have e2 : pyH h (.loc j) = some (.list (cs.map PyData.bool)) := by
      unfold pyH pyW pyLoc
      simp only [ej, pyWL_bools]; rfl
    rw [e1, e2]
    simp only
    have d1 : (PyData.list (bs.map PyData.bool)).depth = 1 := by
      show PyData.depthAll (bs.map PyData.bool) + 1 = _
      rw [dep_bools]
    rw [if_pos ⟨canLay_bools bs, canLay_bools cs, by rw [d1]; decide⟩]
    congr 1
    exact eqv_bools bs cs
theorem ne_bools {h : Hs} {i j : Nat} {bs cs : List Bool} (ei : h[i]? = some (.lst (bs.map D.bl))) (ej : h[j]? = some (.lst (cs.map D.bl))) : neF (.loc i) (.loc j) h = some (.bl (!decide (bs = cs)), h) := by
  unfold neF; rw [eqB_bools ei ej]; rfl
theorem add_lsts {h : Hs} {i j : Nat} {xs ys : List D} (ei : h[i]? = some (.lst xs)) (ej : h[j]? = some (.lst ys)) (z : xs.length + ys.length ≤ 16777216) : addF (.loc i) (.loc j) h = some (.loc h.length, h ++ [.lst (xs ++ ys)]) := by
  simp [addF, ei, ej, z]
end DV
namespace DV
open PySem PySem.Spec PyProof.Rows L2
end DV
namespace DV
open PySem PySem.Spec PyProof.Rows L2
end DV
namespace DV
open PySem PySem.Spec PyProof.Rows L2
mutual
theorem tD_inj : ∀ {t u : Tr}, tD t = tD u → t = u
  | .bl k, .bl j, h => by simp [tD] at h; rw [h]
  | .bl _, .bk _ _, h => by simp [tD] at h
  | .bk _ _, .bl _, h => by simp [tD] at h
  | .bk s ps, .bk s' ps', h => by
    simp [tD] at h
    rw [h.1, tDs_inj h.2]
theorem tDs_inj : ∀ {ts us : List Tr}, tDs ts = tDs us → ts = us
  | [], [], _ => rfl
  | [], _ :: _, h => by simp [tDs] at h
  | _ :: _, [], h => by simp [tDs] at h
  | t :: ts, u :: us, h => by
    simp [tDs] at h
    rw [tD_inj h.1, tDs_inj h.2]
end
/-- what the law's filling is -/
structure FilOk (fs : List (Int × Tr)) : Prop where
  nd : (fs.map (·.1)).Nodup
  len : fs.length ≤ 6
  ok : ∀ p ∈ fs, p.2.good ∧ p.2.knots ≤ 190 ∧ p.2.depth ≤ 28
theorem FilOk.at_ {fs : List (Int × Tr)} (F : FilOk fs) {k : Int} {u : Tr} (e : mAt fs k = some u) : u.good ∧ u.knots ≤ 190 ∧ u.depth ≤ 28 := F.ok _ (mAt_mem e)
theorem noloc_mD {α : Type} {f : α → D} (hf : ∀ a, noloc (f a) = true) : ∀ fs : List (Int × α), nolocL ((mD f fs).map (·.2)) = true
  | [] => rfl
  | p :: fs => by
    have := noloc_mD hf fs
    simp only [mD, List.map_cons, nolocL, hf, Bool.true_and] at this ⊢
    exact this
end DV
namespace DV
open PySem PySem.Spec PyProof.Rows L2
end DV
namespace DV
open PySem PySem.Spec PyProof.Rows L2
end DV
namespace DV
open PySem PySem.Spec PyProof.Rows L2
end DV
namespace DV
open PySem PySem.Spec PyProof.Rows L2
end DV
namespace DV
open PySem PySem.Spec PyProof.Rows L2
mutual
def Tr.nam : Tr → Prop
  | .bl _ => True
  | .bk s ps => nameB s = true ∧ ps.length ≤ 9 ∧ namL ps
def namL : List Tr → Prop
  | [] => True
  | t :: ts => t.nam ∧ namL ts
end
noncomputable instance : DecidableEq Tr := fun _ _ => Classical.propDecidable _
theorem st_for {N : Sl → Hs → Prop} {Q : D → Hs → Prop} {X : QX} {ds : Sl} {h : Hs} {I : IM} {T : GM} {B S : SM} (its : List D) (gd : Hs → Prop) (h1 : Hs) (J : Nat → Sl → Hs → Prop) (e : (I ds h).wp (fun p h' => p = (its, gd) ∧ h' = h1) xF) (start : J 0 ds h1) (guard : ∀ i ds h, J i ds h → gd h)
    (turn : ∀ i d ds h, its[i]? = some d → J i ds h → (T d ds h).wp (fun ds h => (B ds h).wp (J (i + 1)) Q X) (fun _ _ => False) xF) (done : ∀ ds h, J its.length ds h → (S ds h).wp N Q X) : (seqM (forM I T B) S ds h).wp N Q X := by
  rw [ws_seq, ws_for, R.wp_eq.mp e]
  exact ws_loop its J start guard turn done
theorem ne_lst_same {h : Hs} {i j : Nat} {xs : List D} (ei : h[i]? = some (.lst xs)) (ej : h[j]? = some (.lst xs)) (a : pyOkL xs = true) (z : depL xs ≤ 189) : neF (.loc i) (.loc j) h = some (.bl false, h) := by
  unfold neF
  rw [eqB_lst ei ej a a z]
  simp
end DV
namespace DV
open PySem PySem.Spec PyProof.Rows L2
end DV
namespace DV
open PySem PySem.Spec PyProof.Rows L2
mutual
def Tr.sok : Tr → Prop
  | .bl _ => True
  | .bk s ps => PyData.strOk s = true ∧ sokL ps
def sokL : List Tr → Prop
  | [] => True
  | t :: ts => t.sok ∧ sokL ts
end
theorem sokL_iff : ∀ {ts : List Tr}, sokL ts ↔ ∀ t ∈ ts, t.sok
  | [] => by simp [sokL]
  | t :: ts => by rw [sokL, sokL_iff]; simp
mutual
theorem pyOk_sok : ∀ {t : Tr}, t.sok → pyOk (tD t) = true
  | .bl k, _ => by simp only [tD, pyOk, pyOkL, Bool.and_true]; decide +kernel
  | .bk s ps, g => by
    obtain ⟨g1, g3⟩ := g
    have e : PyData.strOk "block" = true := by decide +kernel
    simp only [tD, pyOk, pyOkL, Bool.and_true, e, g1, pyOk_sokL g3]
theorem pyOk_sokL : ∀ {ts : List Tr}, sokL ts → pyOkL (tDs ts) = true
  | [], _ => rfl
  | t :: ts, g => by simp [tDs, pyOkL, pyOk_sok g.1, pyOk_sokL g.2]
end
/-- a tree that can be compared -/
def Tr.eqk (t : Tr) : Prop := t.sok ∧ t.depth ≤ 95
theorem eq_treeS {h : Hs} {t u : Tr} (g : t.eqk) (g' : u.eqk) : eqF (tD t) (tD u) h = some (.bl (decide (t = u)), h) := by
  classical
  have := dep_tD t
  have := g.2
  rw [eq_of (pyOk_sok g.1) (pyOk_sok g'.1) (by omega)]
  congr 3
  by_cases c : t = u
  · rw [decide_eq_true c, decide_eq_true (congrArg tD c)]
  · rw [decide_eq_false c, decide_eq_false fun e => c (tD_inj e)]
theorem ne_treeS {h : Hs} {t u : Tr} (g : t.eqk) (g' : u.eqk) : neF (tD t) (tD u) h = some (.bl (!decide (t = u)), h) := by
  classical
  have := dep_tD t
  have := g.2
  rw [ne_of' (pyOk_sok g.1) (pyOk_sok g'.1) (by omega)]
  congr 4
  by_cases c : t = u
  · rw [decide_eq_true c, decide_eq_true (congrArg tD c)]
  · rw [decide_eq_false c, decide_eq_false fun e => c (tD_inj e)]
theorem eqk_mem {s : Str} {ps : List Tr} {t : Tr} (g : (Tr.bk s ps).eqk) (m : t ∈ ps) : t.eqk := by
  obtain ⟨⟨_, g1⟩, g2⟩ := g
  rw [Tr.depth] at g2
  have := depth_mem m
  exact ⟨sokL_iff.mp g1 t m, by omega⟩
noncomputable def sameB : Tr → Tr → Bool
  | .bk s ps, .bk s' qs => open Classical in decide (s = s' ∧ ps.length = qs.length)
  | _, _ => false
mutual
noncomputable def fitU : Tr → Tr → List (Int × Tr) → Bool × List (Int × Tr)
  | .bl k, t, fs => match mAt fs k with
    | some u => (decide (u = t), fs)
    | none => (true, fs ++ [(k, t)])
  | .bk s ps, t, fs => if sameB (.bk s ps) t = true then fitL ps t.parts fs else (false, fs)
noncomputable def fitL : List Tr → List Tr → List (Int × Tr) → Bool × List (Int × Tr)
  | [], _, fs => (true, fs)
  | _ :: _, [], fs => (false, fs)
  | p :: ps, q :: qs, fs => if (fitU p q fs).1 = true then fitL ps qs (fitU p q fs).2 else fitU p q fs
end
theorem fitL_app : ∀ (a b c d : List Tr) (fs : List (Int × Tr)), a.length = b.length → fitL (a ++ c) (b ++ d) fs = if (fitL a b fs).1 = true then fitL c d (fitL a b fs).2 else fitL a b fs
  | [], [], c, d, fs, _ => by simp [fitL]
  | [], _ :: _, _, _, _, h => by cases h
  | _ :: _, [], _, _, _, h => by cases h
  | p :: a, q :: b, c, d, fs, h => by
    rw [List.cons_append, List.cons_append, fitL, fitL]
    by_cases z : (fitU p q fs).1 = true
    · rw [if_pos z, if_pos z, fitL_app a b c d _ (by simpa using h)]
    · rw [if_neg z, if_neg z, if_neg z]
theorem fitL_one (p q : Tr) (fs : List (Int × Tr)) : fitL [p] [q] fs = fitU p q fs := by
  rw [fitL, fitL]
  by_cases z : (fitU p q fs).1 = true
  · rw [if_pos z]; exact Prod.ext z.symm rfl
  · rw [if_neg z]
mutual
theorem fitU_ok (P : Tr → Prop) (hP : ∀ s ps, P (.bk s ps) → ∀ t ∈ ps, P t) : ∀ (f t : Tr) (fs : List (Int × Tr)), (∀ p ∈ fs, P p.2) → P t → (∀ p ∈ (fitU f t fs).2, P p.2) ∧ (fitU f t fs).2.length ≤ fs.length + f.knots ∧ ((fs.map (·.1)).Nodup → ((fitU f t fs).2.map (·.1)).Nodup)
  | .bl k, t, fs, h, ht => by
    rw [fitU]
    cases e : mAt fs k with
    | some u => exact ⟨h, by simp, id⟩
    | none =>
      refine ⟨fun p hp => ?_, by simp [Tr.knots], fun nd => ?_⟩
      · rcases List.mem_append.mp hp with hp | hp
        · exact h p hp
        · have : p = (k, t) := by simpa using hp
          rw [this]; exact ht
      · have := mPut_nodup k t nd
        rw [mPut_new (mAt_none.mp e)] at this
        exact this
  | .bk s ps, t, fs, h, ht => by
    rw [fitU, Tr.knots]
    by_cases c : sameB (.bk s ps) t = true
    · rw [if_pos c]
      have hq : ∀ q ∈ t.parts, P q := by
        cases t with
        | bl k => exact fun q hq => by simp [Tr.parts] at hq
        | bk s' qs => exact hP s' qs ht
      obtain ⟨h1, h2, h3⟩ := fitL_ok P hP ps t.parts fs h hq
      exact ⟨h1, by omega, h3⟩
    · rw [if_neg c]; exact ⟨h, by simp, id⟩
theorem fitL_ok (P : Tr → Prop) (hP : ∀ s ps, P (.bk s ps) → ∀ t ∈ ps, P t) : ∀ (a b : List Tr) (fs : List (Int × Tr)), (∀ p ∈ fs, P p.2) → (∀ q ∈ b, P q) → (∀ p ∈ (fitL a b fs).2, P p.2) ∧ (fitL a b fs).2.length ≤ fs.length + knotsL a ∧ ((fs.map (·.1)).Nodup → ((fitL a b fs).2.map (·.1)).Nodup)
  | [], b, fs, h, _ => by rw [fitL]; exact ⟨h, by simp, id⟩
  | _ :: _, [], fs, h, _ => by rw [fitL]; exact ⟨h, by simp, id⟩
  | p :: a, q :: b, fs, h, hb => by
    obtain ⟨h1, h2, h3⟩ := fitU_ok P hP p q fs h (hb q List.mem_cons_self)
    rw [fitL, knotsL]
    by_cases z : (fitU p q fs).1 = true
    · rw [if_pos z]
      obtain ⟨h4, h5, h6⟩ := fitL_ok P hP a b _ h1 fun x hx => hb x (List.mem_cons_of_mem _ hx)
      exact ⟨h4, by omega, fun nd => h6 (h3 nd)⟩
    · rw [if_neg z]; exact ⟨h1, by omega, h3⟩
end
theorem same_blocks_ok (n : Nat) (h : Hs) (f t : Tr) (gf : f.sok) (gt : t.sok) (kf : f.knots ≤ 1000000) : F_same_blocks (n + 1) [tD f, tD t] h = .ok (.bl (sameB f t)) h := by
  rw [S_same_blocks]
  refine R.wp_eq.mp ?_
  cases f with
  | bl k =>
    cases t with
    | bl j => simp [wp_pure, wp_run, m_same_blocks, startD, wp_v, tD, sameB, noloc]
    | bk s qs => simp [wp_pure, wp_run, m_same_blocks, startD, wp_v, tD, sameB, noloc]
  | bk s ps =>
    cases t with
    | bl j => simp [wp_pure, wp_run, m_same_blocks, startD, wp_v, tD, sameB, noloc]
    | bk s' qs =>
      classical
      have e := eq_strs (h := h) gf.1 gt.1
      by_cases c : s = s'
      · subst c
        simp [wp_pure, wp_run, m_same_blocks, startD, wp_v, tD, sameB, noloc, e]
        omega
      · simp [wp_pure, wp_run, m_same_blocks, startD, wp_v, tD, sameB, noloc, e, c]
end DV
namespace DV
open PySem PySem.Spec PyProof.Rows L2
theorem noloc_mDt (fs : List (Int × Tr)) : nolocO (.dct (mD tD fs)) = true := noloc_mD noloc_tD fs
theorem eqk_parts : ∀ s ps, (Tr.bk s ps).eqk → ∀ t ∈ ps, t.eqk := fun s ps g t m => eqk_mem g m
theorem set_same_keep {h : Hs} {l : Nat} {fs : List (Int × Tr)} : ∀ (i : Nat) (o : AO), i < h.length → (h.set l (.dct (mD tD fs)))[i]? = some o → h[i]? = some o ∨ nolocO o = true := by
  intro i o hi e
  by_cases c : i = l
  · subst c
    rw [List.getElem?_set_self hi] at e
    cases e
    exact .inr (noloc_mDt fs)
  · rw [List.getElem?_set_ne (Ne.symm c)] at e
    exact .inl e
theorem fit_under_ok : ∀ (n : Nat) (h : Hs) (l : Nat) (fs : List (Int × Tr)) (f t : Tr), h[l]? = some (.dct (mD tD fs)) → (∀ p ∈ fs, p.2.eqk) → t.eqk → f.sok → f.depth + 1 ≤ n → fs.length + f.knots ≤ 1000000 →
    F_fit_under n [tD f, tD t, .loc l] h = .ok (.bl (fitU f t fs).1) (h.set l (.dct (mD tD (fitU f t fs).2)))
  | 0, h, l, fs, f, t, _, _, _, _, hn, _ => by omega
  | n + 1, h, l, fs, .bl k, t, e, hf, ht, sf, hn, hk => by
    rw [S_fit_under]
    refine R.wp_eq.mp (wp_eff ?_)
    have lt : l < h.length := (List.getElem?_eq_some_iff.mp e).1
    have sd := setd_dct (x := tD t) (k := .int k) (kk := .inl k) e rfl (by rw [mD_len]; omega)
    rw [val_mD] at sd
    rw [fitU]
    cases z : mAt fs k with
    | some u =>
      rw [z] at sd
      have eu := hf _ (mAt_mem z)
      have eq := eq_treeS (h := h) eu ht
      have hs : h.set l (.dct (mD tD fs)) = h := by
        obtain ⟨q, e⟩ := List.getElem?_eq_some_iff.mp e
        rw [← e]; exact List.set_getElem_self q
      simp at sd
      simp [wp_run, m_fit_under, startD, wp_v, tD, ck_dct e, sd, eq, noloc, hs]
      exact fun i o _ e => .inl e
    | none =>
      rw [z] at sd
      have pm := put_mD tD fs k t
      rw [mPut_new (mAt_none.mp z)] at pm
      have eq := fun h => eq_treeS (h := h) ht ht
      simp [pm] at sd
      simp [wp_run, m_fit_under, startD, wp_v, tD, ck_dct e, sd, eq, noloc]
      exact ⟨fun i o hi e => set_same_keep i o hi e, List.take_of_length_le (by simp)⟩
  | n + 1, h, l, fs, .bk s ps, t, e, hf, ht, sf, hn, hk => by
    obtain ⟨n, rfl⟩ : ∃ m, n = m + 1 := ⟨n - 1, by rw [Tr.depth] at hn; omega⟩
    rw [S_fit_under]
    refine R.wp_eq.mp (wp_eff ?_)
    have lt : l < h.length := (List.getElem?_eq_some_iff.mp e).1
    have sb := fun h => same_blocks_ok n h (.bk s ps) t sf ht.1 (by omega)
    rw [fitU]
    by_cases c : sameB (.bk s ps) t = true
    · rw [if_pos c]
      rw [c] at sb
      cases t with
      | bl j => cases c
      | bk s' qs =>
        have cl : ps.length = qs.length := by
          unfold sameB at c
          exact (of_decide_eq_true c).2
        rw [Tr.depth] at hn
        rw [Tr.knots] at hk
        simp only [Tr.parts]
        simp [wp_run, m_fit_under, startD, wp_v]
        simp [tD] at sb
        simp [tD, wp_v, sb, enumF, truD]
        have hs : h.set l (.dct (mD tD fs)) = h := by
          obtain ⟨q, e⟩ := List.getElem?_eq_some_iff.mp e
          rw [← e]; exact List.set_getElem_self q
        obtain ⟨J, hJ⟩ : ∃ J : Nat → Sl → Hs → Prop, J = fun i ds h' => (fitL (ps.take i) (qs.take i) fs).1 = true ∧ h' = h.set l (.dct (mD tD (fitL (ps.take i) (qs.take i) fs).2)) ∧ ∃ a b, ds = [some (tD (.bk s ps)), some (tD (.bk s' qs)), some (.loc l), a, b] := ⟨_, rfl⟩
        refine ws_loop _ J (by rw [hJ]; exact ⟨by simp [fitL], by simp [fitL, hs], _, _, rfl⟩) (fun _ _ _ _ => trivial) ?_ ?_
        · intro i d ds h' hd hj
          rw [hJ] at hj
          obtain ⟨tr, rfl, a, b, rfl⟩ := hj
          obtain ⟨x, hx, rfl⟩ := numD_get hd
          obtain ⟨p, hp, rfl⟩ := tDs_get hx
          have mp := List.mem_of_getElem? hp
          have ip : i < ps.length := (List.getElem?_eq_some_iff.mp hp).1
          obtain ⟨q, hq⟩ : ∃ q, qs[i]? = some q := ⟨_, List.getElem?_eq_getElem (by omega)⟩
          have mq := List.mem_of_getElem? hq
          have dp := depth_mem mp
          have kp := knots_mem mp
          have e1 : ps.take (i + 1) = ps.take i ++ [p] := by rw [List.take_add_one, hp]; rfl
          have e2 : qs.take (i + 1) = qs.take i ++ [q] := by rw [List.take_add_one, hq]; rfl
          have tl : (ps.take i).length = (qs.take i).length := by rw [List.length_take, List.length_take, cl]
          have e3 : fitL (ps.take (i + 1)) (qs.take (i + 1)) fs = fitU p q (fitL (ps.take i) (qs.take i) fs).2 := by
            rw [e1, e2, fitL_app _ _ _ _ _ tl, if_pos tr, fitL_one]
          obtain ⟨o1, o2, _⟩ := fitL_ok Tr.eqk eqk_parts (ps.take i) (qs.take i) fs hf fun q hq => eqk_mem ht (List.mem_of_mem_take hq)
          have ks : knotsL (ps.take i) + p.knots ≤ knotsL ps := by
            have : knotsL (ps.take (i + 1)) ≤ knotsL ps := by
              rw [knotsL_sum, knotsL_sum]
              have : (ps.map Tr.knots).sum = ((ps.take (i + 1)).map Tr.knots).sum + ((ps.drop (i + 1)).map Tr.knots).sum := by
                rw [← List.sum_append, ← List.map_append, List.take_append_drop]
              omega
            rw [e1, knotsL_snoc] at this
            exact this
          have ih := fit_under_ok (n + 1) (h.set l (.dct (mD tD (fitL (ps.take i) (qs.take i) fs).2))) l (fitL (ps.take i) (qs.take i) fs).2 p q (by simp [lt]) o1 (eqk_mem ht mq) (sokL_iff.mp sf.2 p mp) (by omega) (by omega)
          rw [← e3, List.set_set] at ih
          have ia : atI (tDs qs) (i : Int) = some (tD q) := by
            rw [atI_nat (by rw [tDs_len]; omega), tDs_map, List.getElem?_map, hq]; rfl
          generalize hA : fitL (ps.take (i + 1)) (qs.take (i + 1)) fs = A at ih e3
          by_cases z : A.1 = true
          · have fin : J (i + 1) [some (tD (.bk s ps)), some (tD (.bk s' qs)), some (.loc l), some (.int (i : Int)), some (tD p)] (h.set l (.dct (mD tD A.2))) := by
              rw [hJ]
              refine ⟨by rw [hA]; exact z, by rw [hA], _, _, rfl⟩
            rw [z] at ih
            simp [tD] at fin
            simp [wp_v, tD, ia, ih, truD, fin]
          · have z : A.1 = false := by simpa using z
            have fL : fitL ps qs fs = A := by
              have h1 : ps = ps.take (i + 1) ++ ps.drop (i + 1) := (List.take_append_drop _ _).symm
              have h2 : qs = qs.take (i + 1) ++ qs.drop (i + 1) := (List.take_append_drop _ _).symm
              rw [h1, h2, fitL_app _ _ _ _ _ (by rw [List.length_take, List.length_take, cl]), hA, if_neg (by rw [z]; exact Bool.false_ne_true)]
            rw [z] at ih
            rw [fL, z]
            simp [wp_v, tD, ia, ih, truD, noloc]
            exact ⟨fun i o hi e => set_same_keep i o hi e, List.take_of_length_le (by simp)⟩
        · intro ds h' hj
          rw [hJ] at hj
          obtain ⟨tr, rfl, a, b, rfl⟩ := hj
          have t1 : ps.take (numD (tDs ps)).length = ps := by rw [numD_len, tDs_len, List.take_length]
          have t2 : qs.take (numD (tDs ps)).length = qs := by rw [numD_len, tDs_len, cl, List.take_length]
          rw [t1, t2] at tr ⊢
          simp [wp_v, noloc, tr]
          exact ⟨fun i o hi e => set_same_keep i o hi e, List.take_of_length_le (by simp)⟩
    · rw [if_neg c]
      have c : sameB (.bk s ps) t = false := by simpa using c
      rw [c] at sb
      have hs : h.set l (.dct (mD tD fs)) = h := by
        obtain ⟨q, e⟩ := List.getElem?_eq_some_iff.mp e
        rw [← e]; exact List.set_getElem_self q
      simp [wp_run, m_fit_under, startD, wp_v]
      simp [tD] at sb
      simp [tD, wp_v, sb, truD, noloc, hs]
      exact fun i o _ e => .inl e
/-- fitting -/
def fitR (r : Bool × List (Int × Tr)) (h : Hs) : R D := .ok (if r.1 = true then .loc h.length else .non) (h ++ [.dct (mD tD r.2)])
theorem fitting_ok (n : Nat) (h : Hs) (f t : Tr) (ht : t.eqk) (sf : f.sok) (hn : f.depth + 1 ≤ n) (hk : f.knots ≤ 1000000) : F_fitting (n + 1) [tD f, tD t] h = fitR (fitU f t []) h := by
  rw [S_fitting]
  refine R.wp_eq.mp ?_
  show (runM 2 3 (m_fitting (F_fit_under n)) [tD f, tD t] h).wp _ _
  have fu := fit_under_ok n (h ++ [.dct []]) h.length [] f t (by simp; rfl) (by simp) ht sf hn (by simpa using hk)
  simp at fu
  generalize fitU f t [] = r at fu
  cases z : r.1 with
  | true =>
    rw [z] at fu
    simp [wp_run, m_fitting, startD, wp_v, fu, truD]
  | false =>
    rw [z] at fu
    simp [wp_run, m_fitting, startD, wp_v, fu, truD]
end DV
namespace DV
open PySem PySem.Spec PyProof.Rows L2
structure Okt (s : Str) (n : Nat) : Prop where
  len : s.length ≤ n
  sg : ∀ c ∈ s.cps.toList, c < 0x110000
theorem Okt.strOk {s : Str} {n : Nat} (h : Okt s n) : PyData.strOk s = true := by
  unfold PyData.strOk
  rw [Array.all_eq_true]
  intro i hi
  exact decide_eq_true (h.sg _ (by simp))
theorem Okt.app {a b : Str} {n m : Nat} (h : Okt a n) (g : Okt b m) : Okt (a ++ b) (n + m) := by
  refine ⟨by rw [app_len]; have := h.len; have := g.len; omega, fun c hc => ?_⟩
  have e : (a ++ b).cps.toList = a.cps.toList ++ b.cps.toList := Array.toList_append
  rw [e] at hc
  rcases List.mem_append.mp hc with hc | hc
  · exact h.sg c hc
  · exact g.sg c hc
theorem Okt.cut {a : Str} {n : Nat} (lo hi : Option Int) (h : Okt a n) : Okt (cutS a lo hi) n := by
  refine ⟨Nat.le_trans (cut_len a lo hi) h.len, fun c hc => h.sg c ?_⟩
  have e : (cutS a lo hi).cps.toList = cutL a.cps.toList lo hi := by
    unfold cutL
    simp [cutS]
    rfl
  rw [e] at hc
  exact List.mem_of_mem_drop (List.mem_of_mem_take hc)
theorem Okt.rep {a : Str} {n : Nat} (k : Nat) (h : Okt a n) : Okt (repS a k) (n * k) := by
  refine ⟨by rw [rep_size]; exact Nat.mul_le_mul_right _ h.len, fun c hc => h.sg c ?_⟩
  have e : (repS a k).cps.toList = (List.replicate k a.cps.toList).flatten := by simp [repS]
  rw [e] at hc
  obtain ⟨l, hl, hc⟩ := List.mem_flatten.mp hc
  rw [List.eq_of_mem_replicate hl] at hc
  exact hc
theorem Okt.mono {a : Str} {n m : Nat} (h : Okt a n) (l : n ≤ m) : Okt a m := ⟨Nat.le_trans h.len l, h.sg⟩
def mixI (c : Int) : Int := (c + 1) * 1357913579135791357 % 2305843009213693951
theorem mixI_lt (c : Int) : 0 ≤ mixI c ∧ mixI c < 2305843009213693951 := ⟨Int.emod_nonneg _ (by decide), Int.emod_lt_of_pos _ (by decide)⟩
theorem mixed_ok (n : Nat) (h : Hs) (c : Int) : F__law_mixed (n + 1) [.int c] h = .ok (.int (mixI c)) h := by
  rw [S__law_mixed]
  refine R.wp_eq.mp ?_
  have m1 : cMul (c + 1) 1357913579135791357 = true := cMul_r (by decide) (by decide)
  have m2 : ∀ i, cMod i 2305843009213693951 = true := fun _ => cMod_of (by decide)
  simp [wp_pure, wp_run, m__law_mixed, startD, wp_v, m1, m2, noloc, mixI]
theorem noloc_strs (xs : List Str) : nolocL (xs.map D.str) = true := by
  induction xs with
  | nil => rfl
  | cons x xs ih => simp [nolocL, noloc, ih]
end DV
namespace DV
open PySem PySem.Spec PyProof.Rows L2
end DV
namespace DV
open PySem PySem.Spec PyProof.Rows L2
end DV
namespace DV
open PySem PySem.Spec PyProof.Rows L2
end DV
namespace DV
open PySem PySem.Spec PyProof.Rows L2
end DV
namespace DV
open PySem PySem.Spec PyProof.Rows L2
end DV
namespace DV
open PySem PySem.Spec PyProof.Rows L2
end DV
namespace DV
open PySem PySem.Spec PyProof.Rows L2
end DV
namespace DV
open PySem PySem.Spec PyProof.Rows L2
def sm (c : Nat) : Bool := decide (c ∈ smallS.cps.toList)
def fg (c : Nat) : Bool := decide (c ∈ figS.cps.toList)
def nmS (c : Nat) : Bool := sm c || fg c
end DV
namespace DV
open PySem PySem.Spec PyProof.Rows L2
end DV
namespace DV
open PySem PySem.Spec PyProof.Rows L2
end DV
namespace DV
open PySem PySem.Spec PyProof.Rows L2
end DV
namespace DV
open PySem PySem.Spec PyProof.Rows L2
end DV
namespace DV
open PySem PySem.Spec PyProof.Rows L2
theorem sm_arr (c : Nat) : decide (c ∈ smallS.cps) = sm c := by unfold sm; exact decide_eq_decide.mpr Array.mem_toList_iff.symm
theorem fg_arr (c : Nat) : decide (c ∈ figS.cps) = fg c := by unfold fg; exact decide_eq_decide.mpr Array.mem_toList_iff.symm
theorem name_list {s : Str} : nameB s = true ↔ ∃ c r, s.cps.toList = c :: r ∧ sm c = true ∧ r.all nmS = true ∧ r.length ≤ 11 := by
  have ok : ∀ c, okSign c = nmS c := fun c => by unfold okSign nmS; rw [sm_arr, fg_arr]
  have okf : okSign = nmS := funext ok
  unfold nameB
  rw [Bool.and_eq_true, decide_eq_true_eq, str_len]
  constructor
  · rintro ⟨⟨h1, h2⟩, h3⟩
    cases e : s.cps.toList with
    | nil => rw [e] at h1; simp at h1
    | cons c r =>
      rw [e, nameL, Bool.and_eq_true, sm_arr, okf] at h3
      rw [e] at h2
      exact ⟨c, r, rfl, h3.1, h3.2, by simpa using h2⟩
  · rintro ⟨c, r, e, h1, h2, h3⟩
    rw [e, nameL, sm_arr, okf, h1, h2]
    simp; omega
end DV
namespace DV
open PySem PySem.Spec PyProof.Rows L2
end DV
namespace DV
open PySem PySem.Spec PyProof.Rows L2
theorem app_list (a b : Str) : (a ++ b).cps.toList = a.cps.toList ++ b.cps.toList := Array.toList_append
end DV
namespace DV
open PySem PySem.Spec PyProof.Rows L2
end DV
namespace DV
open PySem PySem.Spec PyProof.Rows L2
end DV
namespace DV
open PySem PySem.Spec PyProof.Rows L2
inductive Md where
  | bg
  | nm (k : Nat)
  | nr (n : Int)
  | en
def fin (cs : List Nat) (m : Md) : Str := match m with
  | .bg => "BadText"
  | .nr n => if n = 0 then "BadText" else if cs = [] then "" else "BadText"
  | _ => if cs = [] then "" else "BadText"
end DV
namespace DV
open PySem PySem.Spec PyProof.Rows L2
def s1 (c : Nat) : Str := ⟨#[c]⟩
end DV
namespace DV
open PySem PySem.Spec PyProof.Rows L2
/-- the heap behind, with the counts in its first new place -/
def Kp (h h' : Hs) (C : List D) : Prop := h'.take h.length = h ∧ h'[h.length]? = some (.lst C)
theorem Kp.lt {h h' : Hs} {C : List D} (k : Kp h h' C) : h.length < h'.length := (List.getElem?_eq_some_iff.mp k.2).1
theorem Kp.app {h h' : Hs} {C : List D} (k : Kp h h' C) (q : Hs) : Kp h (h' ++ q) C := ⟨by rw [List.take_append_of_le_length (Nat.le_of_lt k.lt)]; exact k.1, get_app k.2⟩
theorem Kp.set {h h' : Hs} {C : List D} (k : Kp h h' C) (C' : List D) : Kp h (h'.set h.length (.lst C')) C' := ⟨by rw [List.take_set_of_le (Nat.le_refl _)]; exact k.1, by rw [List.getElem?_set_self k.lt]⟩
theorem neempty {h : Hs} {l : Nat} {xs : List D} (e : h[l]? = some (.lst xs)) : neF (.loc l) (.loc h.length) (h ++ [AO.lst []]) = some (.bl (!xs.isEmpty), h ++ [AO.lst []]) := by
  unfold neF
  rw [eqB_empty e]; rfl
end DV
namespace DV
open PySem PySem.Spec PyProof.Rows L2
end DV
namespace DV
open PySem PySem.Spec PyProof.Rows L2
theorem nbk {h : Hs} : neF (.str "block") (.str "block") h = some (.bl false, h) := by rw [ne_strs ok_block ok_block, decide_eq_true rfl]; rfl
theorem depth_bk {s : Str} {ps : List Tr} : (Tr.bk s ps).depth = 1 + depthL ps := rfl
end DV
namespace DV
open PySem PySem.Spec PyProof.Rows L2
end DV
namespace DV
open PySem PySem.Spec PyProof.Rows L2
end DV
namespace DV
open PySem PySem.Spec PyProof.Rows L2
structure SgOk (N : Nat) (s : Str) : Prop where
  len : s.length ≤ N
  sg : ∀ c ∈ s.cps.toList, c < 0x110000
theorem SgOk.mono {N M : Nat} {s : Str} (h : SgOk N s) (hN : N ≤ M) : SgOk M s := ⟨by have := h.len; omega, h.sg⟩
theorem SgOk.app {N M : Nat} {a b : Str} (h : SgOk N a) (k : SgOk M b) : SgOk (N + M) (a ++ b) := ⟨by rw [app_len]; have := h.len; have := k.len; omega, fun c hc => by
  rw [app_list] at hc
  rcases List.mem_append.mp hc with hc | hc
  · exact h.sg c hc
  · exact k.sg c hc⟩
theorem cut_list (s : Str) (lo hi : Option Int) : (cutS s lo hi).cps.toList = cutL s.cps.toList lo hi := by
  unfold cutL
  simp [cutS]
  rfl
theorem SgOk.cut {N : Nat} {s : Str} (h : SgOk N s) (lo hi : Option Int) : SgOk N (cutS s lo hi) := by
  have sl := str_len s
  refine ⟨?_, fun c hc => ?_⟩
  · rw [str_len, cut_list]
    unfold cutL
    have := h.len
    rw [List.length_take, List.length_drop]
    omega
  · rw [cut_list] at hc
    unfold cutL at hc
    exact h.sg c (List.mem_of_mem_drop (List.mem_of_mem_take hc))
theorem sl_str {h : Hs} {s : Str} {lo hi : Option Int} (z : s.length ≤ 16777216) : slF (.str s) lo hi h = some (.str (cutS s lo hi), h) := by
  unfold slF
  simp only [hL, if_pos z]
end DV
namespace DV
open PySem PySem.Spec PyProof.Rows L2
theorem rep_list (s : Str) (k : Nat) : (repS s k).cps.toList = (List.replicate k s.cps.toList).flatten := rfl
theorem SgOk.rep {N : Nat} {s : Str} (h : SgOk N s) (k : Nat) : SgOk (k * N) (repS s k) := by
  refine ⟨?_, fun c hc => ?_⟩
  · rw [str_len, rep_list]
    have := h.len
    rw [str_len] at this
    rw [List.length_flatten, List.map_replicate, List.sum_replicate_nat]
    exact Nat.mul_le_mul_left _ this
  · rw [rep_list] at hc
    obtain ⟨l, hl, hc⟩ := List.mem_flatten.mp hc
    rw [(List.mem_replicate.mp hl).2] at hc
    exact h.sg c hc
end DV
namespace DV
open PySem PySem.Spec PyProof.Rows L2
end DV
namespace DV
open PySem PySem.Spec PyProof.Rows L2
end DV
namespace DV
open PySem PySem.Spec PyProof.Rows L2
theorem cut_toN {α : Type} (xs : List α) (k : Nat) : cutL xs none (some (k : Int)) = xs.take k := by
  unfold cutL
  have e1 : HT.sIx xs.length 0 none = 0 := rfl
  have e2 : HT.sIx xs.length xs.length (some (k : Int)) = min k xs.length := HT.sIx_nat _ _ k
  rw [e1, e2, List.drop_zero, Nat.sub_zero, ← List.take_take, List.take_length]
end DV
namespace DV
open PySem PySem.Spec PyProof.Rows L2
end DV
namespace DV
open PySem PySem.Spec PyProof.Rows L2
end DV
namespace DV
open PySem PySem.Spec PyProof.Rows L2
end DV
namespace DV
open PySem PySem.Spec PyProof.Rows L2
end DV
namespace DV
open PySem PySem.Spec PyProof.Rows L2
end DV
namespace DV
open PySem PySem.Spec PyProof.Rows L2
end DV
namespace DV
open PySem PySem.Spec PyProof.Rows L2
end DV
namespace DV
open PySem PySem.Spec PyProof.Rows L2
end DV
namespace DV
open PySem PySem.Spec PyProof.Rows L2
end DV
namespace DV
open PySem PySem.Spec PyProof.Rows L2
end DV
namespace DV
open PySem PySem.Spec PyProof.Rows L2
end DV
namespace DV
open PySem PySem.Spec PyProof.Rows L2
end DV
namespace DV
open PySem PySem.Spec PyProof.Rows L2
end DV
namespace DV
open PySem PySem.Spec PyProof.Rows L2
end DV
namespace DV
open PySem PySem.Spec PyProof.Rows L2
end DV
namespace DV
open PySem PySem.Spec PyProof.Rows L2
end DV
namespace DV
open PySem PySem.Spec PyProof.Rows L2
end DV
namespace DV
open PySem PySem.Spec PyProof.Rows L2
theorem kRaw_f (φ : Fm) : kRaw.f φ = φ := rfl
end DV
namespace DV
open PySem PySem.Spec PyProof.Rows L2
end DV
namespace DV
open PySem PySem.Spec PyProof.Rows L2
end DV
namespace DV
open PySem PySem.Spec PyProof.Rows L2
end DV
namespace DV
open PySem PySem.Spec PyProof.Rows L2
end DV
namespace DV
open PySem PySem.Spec PyProof.Rows L2
end DV
namespace DV
open PySem PySem.Spec PyProof.Rows L2
end DV
namespace DV
open PySem PySem.Spec PyProof.Rows L2
end DV
namespace DV
open PySem PySem.Spec PyProof.Rows L2
end DV
namespace DV
open PySem PySem.Spec PyProof.Rows L2
end DV
namespace DV
open PySem PySem.Spec PyProof.Rows L2
inductive Bo where
  | leaf (s : Str)
  | knot (bs : List Bo)
def tLf : Tr := .bk "a" []
mutual
def BR (h : Hs) : D → Bo → Prop
  | d, .leaf s => d = .tup [.str "leaf", .str s]
  | d, .knot bs => ∃ l ds, d = .tup [.str "knot", tD tLf, .loc l] ∧ h[l]? = some (.lst ds) ∧ BRL h ds bs
def BRL (h : Hs) : List D → List Bo → Prop
  | ds, [] => ds = []
  | ds, b :: bs => ∃ d r, ds = d :: r ∧ BR h d b ∧ BRL h r bs
end
mutual
def Bo.names : Bo → List Str
  | .leaf s => [s]
  | .knot bs => namesL bs
def namesL : List Bo → List Str
  | [] => []
  | b :: bs => b.names ++ namesL bs
end
mutual
def Bo.height : Bo → Nat
  | .leaf _ => 1
  | .knot bs => 1 + heightL bs
def heightL : List Bo → Nat
  | [] => 0
  | b :: bs => max b.height (heightL bs)
end
mutual
def Bo.wf : Bo → Prop
  | .leaf _ => True
  | .knot bs => 2 ≤ bs.length ∧ bs.length ≤ 4 ∧ wfL bs
def wfL : List Bo → Prop
  | [] => True
  | b :: bs => b.wf ∧ wfL bs
end
/-- what lies in lists stays: the heap grows, or a thing that is no list is changed -/
def Keeps (h h' : Hs) : Prop := ∀ (l : Nat) (ds : List D), h[l]? = some (.lst ds) → h'[l]? = some (.lst ds)
theorem Keeps.refl (h : Hs) : Keeps h h := fun _ _ e => e
theorem Keeps.trans {a b c : Hs} (k : Keeps a b) (g : Keeps b c) : Keeps a c := fun l ds e => g l ds (k l ds e)
theorem Keeps.app (h q : Hs) : Keeps h (h ++ q) := fun l ds e => get_app e
theorem Keeps.set {h : Hs} {i : Nat} {o o' : AO} (e : h[i]? = some o) (n : ∀ ds, o ≠ .lst ds) : Keeps h (h.set i o') := fun l ds e' => by
  by_cases c : i = l
  · subst c
    rw [e] at e'
    exact absurd (Option.some.inj e') (n ds)
  · rw [List.getElem?_set_ne c]; exact e'
mutual
theorem BR.keep {h h' : Hs} (k : Keeps h h') : ∀ {b : Bo} {d : D}, BR h d b → BR h' d b
  | .leaf s, d, r => by unfold BR at r ⊢; exact r
  | .knot bs, d, r => by
    unfold BR at r ⊢
    obtain ⟨l, ds, e, g, r⟩ := r
    exact ⟨l, ds, e, k l ds g, BRL.keep k r⟩
theorem BRL.keep {h h' : Hs} (k : Keeps h h') : ∀ {bs : List Bo} {ds : List D}, BRL h ds bs → BRL h' ds bs
  | [], ds, r => by unfold BRL at r ⊢; exact r
  | b :: bs, ds, r => by
    unfold BRL at r ⊢
    obtain ⟨d, x, e, r1, r2⟩ := r
    exact ⟨d, x, e, BR.keep k r1, BRL.keep k r2⟩
end
theorem BRL.len {h : Hs} : ∀ {bs : List Bo} {ds : List D}, BRL h ds bs → ds.length = bs.length
  | [], ds, r => by unfold BRL at r; subst r; rfl
  | b :: bs, ds, r => by
    unfold BRL at r
    obtain ⟨d, x, rfl, r1, r2⟩ := r
    rw [List.length_cons, List.length_cons, BRL.len r2]
theorem BRL.get {h : Hs} : ∀ {bs : List Bo} {ds : List D} {i : Nat} {d : D}, BRL h ds bs → ds[i]? = some d → ∃ b, bs[i]? = some b ∧ BR h d b
  | [], ds, i, d, r, e => by unfold BRL at r; subst r; cases e
  | b :: bs, ds, i, d, r, e => by
    unfold BRL at r
    obtain ⟨d0, x, rfl, r1, r2⟩ := r
    cases i with
    | zero => cases e; exact ⟨b, rfl, r1⟩
    | succ i => exact BRL.get (bs := bs) r2 e
theorem BRL.snoc {h : Hs} {b : Bo} {d : D} (r1 : BR h d b) : ∀ {bs : List Bo} {ds : List D}, BRL h ds bs → BRL h (ds ++ [d]) (bs ++ [b])
  | [], ds, r => by
    unfold BRL at r
    subst r
    unfold BRL
    exact ⟨d, [], rfl, r1, by unfold BRL; rfl⟩
  | c :: bs, ds, r => by
    unfold BRL at r
    obtain ⟨d0, x, rfl, r2, r3⟩ := r
    rw [List.cons_append]
    unfold BRL
    exact ⟨d0, x ++ [d], rfl, r2, BRL.snoc r1 r3⟩
theorem namesL_app : ∀ (bs : List Bo) (b : Bo), namesL (bs ++ [b]) = namesL bs ++ b.names
  | [], b => by simp [namesL]
  | c :: bs, b => by rw [List.cons_append, namesL, namesL, namesL_app bs b, List.append_assoc]
theorem wfL_iff {bs : List Bo} : wfL bs ↔ ∀ b ∈ bs, b.wf := by
  induction bs with
  | nil => simp [wfL]
  | cons b bs ih => rw [wfL, ih]; simp
theorem heightL_le {bs : List Bo} {n : Nat} : heightL bs ≤ n ↔ ∀ b ∈ bs, b.height ≤ n := by
  induction bs with
  | nil => simp [heightL]
  | cons b bs ih => rw [heightL, Nat.max_le, ih]; simp
theorem height_mem {bs : List Bo} {b : Bo} (m : b ∈ bs) : b.height ≤ heightL bs := heightL_le.mp (Nat.le_refl _) b m
theorem height_pos (b : Bo) : 1 ≤ b.height := by cases b <;> simp [Bo.height]
theorem names_mem {bs : List Bo} {b : Bo} {s : Str} (m : b ∈ bs) (hs : s ∈ b.names) : s ∈ namesL bs := by
  induction bs with
  | nil => cases m
  | cons c bs ih =>
    rw [namesL]
    rcases List.mem_cons.mp m with rfl | m
    · exact List.mem_append_left _ hs
    · exact List.mem_append_right _ (ih m)
theorem names_len_mem {bs : List Bo} {b : Bo} (m : b ∈ bs) : b.names.length ≤ (namesL bs).length := by
  induction bs with
  | nil => cases m
  | cons c bs ih =>
    rw [namesL, List.length_append]
    rcases List.mem_cons.mp m with rfl | m
    · omega
    · have := ih m; omega
theorem namesL_take : ∀ (bs : List Bo) (i : Nat) (b : Bo), bs[i]? = some b → namesL (bs.take (i + 1)) = namesL (bs.take i) ++ b.names
  | bs, i, b, e => by
    have : bs.take (i + 1) = bs.take i ++ [b] := by rw [List.take_add_one, e]; rfl
    rw [this, namesL_app]
theorem namesL_take_le : ∀ (bs : List Bo) (i : Nat), (namesL (bs.take i)).length ≤ (namesL bs).length
  | [], i => by simp [namesL]
  | c :: bs, 0 => by simp [namesL]
  | c :: bs, i + 1 => by
    have := namesL_take_le bs i
    simp only [List.take_succ_cons, namesL, List.length_append]
    omega
theorem ok_leaf : PyData.strOk "leaf" = true := by decide +kernel
theorem ok_knot : PyData.strOk "knot" = true := by decide +kernel
theorem e_leaf {h : Hs} : eqF (.str "leaf") (.str "leaf") h = some (.bl true, h) := by rw [eq_strs ok_leaf ok_leaf, decide_eq_true rfl]
theorem e_knot {h : Hs} : eqF (.str "knot") (.str "leaf") h = some (.bl false, h) := by rw [eq_strs ok_knot ok_leaf, decide_eq_false (by decide +kernel)]
theorem sortS_lst {h : Hs} {l : Nat} {ss : List Str} (e : h[l]? = some (.lst (ss.map D.str))) (z : ss.length < 64) : sortSF [.loc l] h = some (.loc h.length, h ++ [.lst ((srtS ss).map D.str)]) := by
  unfold sortSF
  simp only [e, strsOf_map, Option.bind_some, if_pos z]
theorem names_on_ok : ∀ (n : Nat) (b : Bo) (h : Hs) (d : D), BR h d b → b.height ≤ n → b.names.length < 64 → ∃ ss : List Str, F_names_on n [d] h = .ok (.loc h.length) (h ++ [.lst (ss.map D.str)]) ∧ ss.Perm b.names
  | 0, b, h, d, r, hn, _ => by have := height_pos b; omega
  | n + 1, .leaf s, h, d, r, hn, hz => by
    unfold BR at r
    subst r
    refine ⟨[s], ?_, by simp [Bo.names]⟩
    rw [S_names_on]
    refine R.wp_eq.mp (wp_new ?_)
    rw [wp_run]
    refine ⟨rfl, ?_⟩
    unfold m_names_on
    simp only [startD, List.map_cons, List.map_nil, List.length_cons, List.length_nil]
    simp [wp_v, e_leaf, nolocO, nolocL, noloc]
  | n + 1, .knot bs, h, d, r, hn, hz => by
    unfold BR at r
    obtain ⟨l, ds, rfl, el, r⟩ := r
    have hn : heightL bs ≤ n := by
      rw [Bo.height] at hn; omega
    have hz : (namesL bs).length < 64 := hz
    have w : (F_names_on (n + 1) [.tup [.str "knot", tD tLf, .loc l]] h).wp (fun d' h' => ∃ ss : List Str, d' = .loc h.length ∧ h' = h ++ [.lst (ss.map D.str)] ∧ ss.Perm (namesL bs)) xF := by
      rw [S_names_on]
      refine wp_new ?_
      rw [wp_run]
      refine ⟨rfl, ?_⟩
      unfold m_names_on
      simp only [startD, List.map_cons, List.map_nil, List.length_cons, List.length_nil]
      simp only [List.set_cons_succ, List.set_cons_zero, List.replicate, List.cons_append, List.nil_append]
      obtain ⟨dk, hdk⟩ : ∃ dk, dk = D.tup [.str "knot", tD tLf, .loc l] := ⟨_, rfl⟩
      have k0 : ∀ h, ixF dk (.int 0) h = some (.str "knot", h) := fun h => by rw [hdk]; rfl
      have k2 : ∀ h, ixF dk (.int 2) h = some (.loc l, h) := fun h => by rw [hdk]; rfl
      rw [← hdk]
      clear hdk
      refine st_guard h (by simp [wp_v, k0, e_knot]) ?_
      refine st_set (.loc h.length) (h ++ [.lst []]) (by simp [wp_v]) ?_
      simp only [List.set_cons_succ, List.set_cons_zero]
      obtain ⟨J, hJ⟩ : ∃ J : Nat → Sl → Hs → Prop, J = fun i ds' h' => ∃ (q : Hs) (x : Nat) (y : Option D) (acc : List Str), h' = h ++ q ∧ ds' = [some dk, some (.loc x), y] ∧ (h ++ q)[x]? = some (.lst (acc.map D.str)) ∧ acc.Perm (namesL (bs.take i)) := ⟨_, rfl⟩
      refine st_for ds (fun h' => h'[l]? = some (.lst ds)) (h ++ [.lst []]) J ?_ (by rw [hJ]; exact ⟨[.lst []], h.length, none, [], rfl, rfl, by simp, by simp [namesL]⟩) (fun i ds' h' hj => by rw [hJ] at hj; obtain ⟨q, x, y, acc, rfl, _⟩ := hj; exact get_app el) ?_ ?_
      · have it := its_lst (h := h ++ [AO.lst []]) (get_app el)
        simp [wp_v, k2, it]
      · intro i d ds' h' hi hj
        rw [hJ] at hj
        obtain ⟨q, x, y, acc, rfl, rfl, ex, pa⟩ := hj
        obtain ⟨b, eb, rb⟩ := r.get hi
        have bm := List.mem_of_getElem? eb
        have hb := height_mem bm
        have lb := names_len_mem bm
        obtain ⟨ss, ess, pss⟩ := names_on_ok n b (h ++ q) d (rb.keep (Keeps.app _ _)) (by omega) (by omega)
        have lt := namesL_take bs i b eb
        have lle := namesL_take_le bs i
        have pl := pa.length_eq
        have sl := pss.length_eq
        have ad := add_lsts (h := h ++ q ++ [.lst (ss.map D.str)]) (i := x) (j := (h ++ q).length) (xs := acc.map D.str) (ys := ss.map D.str) (get_app ex) (by simp) (by simp; omega)
        have fin : J (i + 1) [some dk, some (.loc ((h ++ q ++ [AO.lst (ss.map D.str)]).length)), some d] (h ++ q ++ [AO.lst (ss.map D.str)] ++ [AO.lst (acc.map D.str ++ ss.map D.str)]) := by
          rw [hJ]
          refine ⟨q ++ [AO.lst (ss.map D.str)] ++ [AO.lst (acc.map D.str ++ ss.map D.str)], _, _, acc ++ ss, by simp, rfl, by simp, ?_⟩
          rw [lt]
          exact pa.append pss
        generalize AO.lst (ss.map D.str) = O1 at *
        generalize AO.lst (acc.map D.str ++ ss.map D.str) = O2 at *
        generalize h ++ q = G at *
        simp [wp_v, ess, ad, -List.append_assoc, -List.length_append]
        exact fin
      · intro ds' h' hj
        rw [hJ] at hj
        obtain ⟨q, x, y, acc, rfl, rfl, ex, pa⟩ := hj
        have ll := r.len
        rw [ll, List.take_length] at pa
        have so := sortS_lst ex (by have := pa.length_eq; omega)
        have nl : nolocO (.lst ((srtS acc).map D.str)) = true := noloc_strs _
        have pp : (srtS acc).Perm (namesL bs) := (srtS_perm acc).trans pa
        simp [wp_v, so, -List.append_assoc, -List.length_append]
        exact ⟨by simp, by simp, nl, srtS acc, rfl, pp⟩
    obtain ⟨d', h', e, ss, rfl, rfl, p⟩ := R.wp_ex w
    exact ⟨ss, e, p⟩
end DV
namespace DV
open PySem PySem.Spec PyProof.Rows L2
theorem dLf : tD tLf = .tup [.str "block", .str "a", .tup []] := by simp [tLf, tD, tDs]
theorem lf0 {h : Hs} : ixF (tD tLf) (.int 0) h = some (.str "block", h) := by rw [dLf]; rfl
theorem lf1 {h : Hs} : ixF (tD tLf) (.int 1) h = some (.str "a", h) := by rw [dLf]; rfl
theorem lf2 {h : Hs} : ixF (tD tLf) (.int 2) h = some (.tup [], h) := by rw [dLf]; rfl
theorem ok_a : PyData.strOk "a" = true := by decide +kernel
theorem ne_aa {h : Hs} : neF (.str "a") (.str "a") h = some (.bl false, h) := by rw [ne_strs ok_a ok_a, decide_eq_true rfl]; rfl
theorem rep_get {k i : Nat} {d e : D} (h : (List.replicate k d)[i]? = some e) : e = d := by
  rw [List.getElem?_replicate] at h
  split at h
  · exact (Option.some.inj h).symm
  · cases h
theorem one_kind_ok (n : Nat) (h : Hs) (l k : Nat) (e : h[l]? = some (.lst (List.replicate (k + 1) (tD tLf)))) : F_of_one_kind (n + 1) [.loc l] h = .ok (.bl true) h := by
  rw [S_of_one_kind]
  refine R.wp_eq.mp ?_
  rw [wp_pure, wp_run]
  refine ⟨rfl, ?_⟩
  unfold m_of_one_kind
  simp only [startD, List.map_cons, List.map_nil, List.length_cons, List.length_nil]
  simp only [List.set_cons_succ, List.set_cons_zero, List.replicate, List.cons_append, List.nil_append]
  have i0 : ixF (.loc l) (.int 0) h = some (tD tLf, h) := by
    rw [ix_lst e, show (0 : Int) = ((0 : Nat) : Int) from rfl, atI_nat (by simp)]
    simp
  have a0 := fun h => lf0 (h := h)
  have a1 := fun h => lf1 (h := h)
  have a2 := fun h => lf2 (h := h)
  have it := its_lst e
  have nl := noloc_tD tLf
  generalize tD tLf = T at *
  refine st_set T h (by simp [wp_v, i0]) ?_
  simp only [List.set_cons_succ, List.set_cons_zero]
  obtain ⟨J, hJ⟩ : ∃ J : Nat → Sl → Hs → Prop, J = fun i ds h' => ∃ (x : Option D), h' = h ∧ ds = [some (.loc l), some T, x] := ⟨_, rfl⟩
  refine st_for (List.replicate (k + 1) T) (fun h' => h'[l]? = some (.lst (List.replicate (k + 1) T))) h J (by simp [wp_v, it]) (by rw [hJ]; exact ⟨none, rfl, rfl⟩) (fun i ds h' hj => by rw [hJ] at hj; obtain ⟨x, rfl, _⟩ := hj; exact e) ?_ ?_
  · intro i d ds h' hi hj
    rw [hJ] at hj
    obtain ⟨x, rfl, rfl⟩ := hj
    have := rep_get hi
    subst this
    have fin : J (i + 1) [some (.loc l), some d, some d] h' := by rw [hJ]; exact ⟨_, rfl, rfl⟩
    simp [wp_v, a0, a1, a2, nbk, ne_aa, fin]
  · intro ds h' hj
    rw [hJ] at hj
    obtain ⟨x, rfl, rfl⟩ := hj
    simp [wp_v, noloc]
theorem go_down_ok (n : Nat) (h : Hs) (l r k : Nat) (e : h[l]? = some (.lst (List.replicate (k + 1) (tD tLf)))) : F_go_down (n + 2) [.loc l, .loc r] h = .ok (tD tLf) h := by
  rw [show F_go_down (n + 2) = _ from S_go_down (n + 1)]
  refine R.wp_eq.mp ?_
  have ok := fun q : Hs => one_kind_ok n (h ++ q) l k (get_app e)
  have ok0 := one_kind_ok n h l k e
  have i0 : ∀ q : Hs, ixF (.loc l) (.int 0) (h ++ q) = some (tD tLf, h ++ q) := fun q => by
    rw [ix_lst (get_app e), show (0 : Int) = ((0 : Nat) : Int) from rfl, atI_nat (by simp)]
    simp
  have a1 := fun h => lf1 (h := h)
  have a2 := fun h => lf2 (h := h)
  have tl := dLf
  have nl := noloc_tD tLf
  have tp : tupT [.loc h.length] (h ++ [AO.lst []]) = some (.tup [], h ++ [AO.lst []]) := tup_loc (by simp)
  rw [wp_pure, wp_run]
  refine ⟨rfl, ?_⟩
  unfold m_go_down
  simp only [startD, List.map_cons, List.map_nil, List.length_cons, List.length_nil]
  simp only [List.set_cons_succ, List.set_cons_zero, List.replicate, List.cons_append, List.nil_append]
  have i0a := i0 [.lst []]
  have ir : inR 0 = true := inR_of (by decide) (by decide)
  rw [ws_seq, ws_if]
  rw [R.wp_eq.mp (show ((truM (callM (F_of_one_kind (n + 1)) (consA (vM 0) nilA))) [some (.loc l), some (.loc r), none, none, none, none] h).wp (fun a b => a = true ∧ b = h) xF by simp [wp_v, ok0, truD])]
  simp only [wp_ok, if_true]
  refine st_set (.loc h.length) (h ++ [.lst []]) (by simp [wp_v]) ?_
  simp only [List.set_cons_succ, List.set_cons_zero]
  refine st_for [] (fun _ => True) (h ++ [.lst []]) (fun _ ds h' => ds = [some (.loc l), some (.loc r), some (.loc h.length), none, none, none] ∧ h' = h ++ [.lst []]) (by simp [wp_v, i0a, a2, ir]) ⟨rfl, rfl⟩ (fun _ _ _ _ => trivial) (fun i d ds h' hi _ => by cases hi) ?_
  rintro ds h' ⟨rfl, rfl⟩
  simp [wp_v, i0a, a1, tp, noloc, nolocL, tl]
theorem nearest_ok (n : Nat) (h : Hs) (l k : Nat) (e : h[l]? = some (.lst (List.replicate (k + 1) (tD tLf)))) (hk : k ≤ 1000) : ∃ x q, F_nearest_of (n + 3) [.loc l] h = .ok (.tup [tD tLf, .loc x]) (h ++ q) := by
  have w : (F_nearest_of (n + 3) [.loc l] h).wp (fun d h' => ∃ x q, d = .tup [tD tLf, .loc x] ∧ h' = h ++ q) xF := by
    rw [show F_nearest_of (n + 3) = _ from S_nearest_of (n + 2)]
    rw [kRaw_f, wp_run]
    refine ⟨rfl, ?_⟩
    unfold m_nearest_of
    simp only [startD, List.map_cons, List.map_nil, List.length_cons, List.length_nil]
    simp only [List.set_cons_succ, List.set_cons_zero, List.replicate, List.cons_append, List.nil_append]
    have gd := go_down_ok n (h ++ [.dct []]) l h.length k (get_app e)
    have le : ∀ q : Hs, lenF [.loc l] (h ++ q) = some (.int ((k + 1 : Nat) : Int), h ++ q) := fun q => by
      have := len_lst (get_app (r := q) e)
      rwa [List.length_replicate] at this
    have ir : inR ((k + 1 : Nat) : Int) = true := inR_of (by omega) (by omega)
    generalize tD tLf = T at *
    refine st_set (.loc h.length) (h ++ [.dct []]) (by simp [wp_v]) ?_
    refine st_set T (h ++ [.dct []]) (by simp [wp_v, gd]) ?_
    refine st_set (.loc (h.length + 1)) (h ++ [.dct [], .lst []]) (by simp [wp_v]) ?_
    simp only [List.set_cons_succ, List.set_cons_zero]
    obtain ⟨J, hJ⟩ : ∃ J : Nat → Sl → Hs → Prop, J = fun i ds h' => ∃ (acc : List D) (q : Hs) (x y : Option D), acc.length = i ∧ h' = h ++ (.dct [] :: .lst acc :: q) ∧ ds = [some (.loc l), some (.loc h.length), some T, some (.loc (h.length + 1)), x, y, none, none] := ⟨_, rfl⟩
    refine st_for ((List.range (k + 1)).map fun i : Nat => D.int i) (fun _ => True) (h ++ [.dct [], .lst []]) J (by
      have le := le [.dct [], .lst []]
      simp at le ir
      simp [wp_v, le, ir]) (by rw [hJ]; exact ⟨[], [], none, none, rfl, rfl, rfl⟩) (fun _ _ _ _ => trivial) ?_ ?_
    · intro i d ds h' hi hj
      rw [hJ] at hj
      obtain ⟨acc, q, x, y, al, rfl, rfl⟩ := hj
      have il : i < k + 1 := by
        have := (List.getElem?_eq_some_iff.mp hi).1
        rwa [List.length_map, List.length_range] at this
      rw [List.getElem?_map, List.getElem?_range il] at hi
      cases hi
      refine st_set (.loc (h ++ (.dct [] :: .lst acc :: q)).length) (h ++ (.dct [] :: .lst acc :: (q ++ [.dct []]))) (by simp [wp_v]) ?_
      simp only [List.set_cons_succ, List.set_cons_zero]
      obtain ⟨G, hG⟩ : ∃ G : AO → List D → Hs, G = fun o acc => h ++ (o :: .lst acc :: (q ++ [.dct []])) := ⟨_, rfl⟩
      have gl : ∀ o acc, (G o acc)[h.length]? = some o := fun o acc => by rw [hG]; simp
      have gs : ∀ o o' acc, (G o acc).set h.length o' = G o' acc := fun o o' acc => by rw [hG]; simp
      have ga : ∀ acc, (G (.dct []) acc)[h.length + 1]? = some (.lst acc) := fun acc => by rw [hG]; simp
      have gt : ∀ o acc acc', (G o acc).set (h.length + 1) (.lst acc') = G o acc' := fun o acc acc' => by rw [hG]; simp
      rw [show h ++ (.dct [] :: .lst acc :: (q ++ [.dct []])) = G (.dct []) acc by rw [hG]]
      rw [ws_seq]
      refine ws_lock (kvs := []) (l := h.length) rfl (gl _ _) ?_
      rw [gs, ws_for, R.wp_eq.mp (show (fdItI 1 [some (.loc l), some (.loc h.length), some T, some (.loc (h.length + 1)), some (.int (i : Int)), some (.loc (h ++ (.dct [] :: .lst acc :: q)).length), none, none] (G (.fdc []) acc)).wp (fun p h' => p = ([], fun _ => True) ∧ h' = G (.fdc []) acc) xF by
        unfold fdItI
        simp only [List.getElem?_cons_succ, List.getElem?_cons_zero, gl]
        exact ⟨rfl, rfl⟩)]
      refine ws_loop [] (fun _ ds h' => ds = [some (.loc l), some (.loc h.length), some T, some (.loc (h.length + 1)), some (.int (i : Int)), some (.loc (h ++ (.dct [] :: .lst acc :: q)).length), none, none] ∧ h' = G (.fdc []) acc) ⟨rfl, rfl⟩ (fun _ _ _ _ => trivial) (fun i d ds h' hi _ => by cases hi) ?_
      rintro ds h' ⟨rfl, rfl⟩
      refine ⟨gl _ _, ?_⟩
      rw [gs]
      have ck := ck_lst (ga acc)
      have ap := append_lst (v := .loc (h ++ (.dct [] :: .lst acc :: q)).length) (ga acc) (by omega)
      rw [gt] at ap
      have fin : J (i + 1) [some (.loc l), some (.loc h.length), some T, some (.loc (h.length + 1)), some (.int (i : Int)), some (.loc (h ++ (.dct [] :: .lst acc :: q)).length), none, none] (G (.dct []) (acc ++ [.loc (h ++ (.dct [] :: .lst acc :: q)).length])) := by
        rw [hJ]
        exact ⟨acc ++ [.loc (h ++ (.dct [] :: .lst acc :: q)).length], q ++ [.dct []], _, _, by simp [al], by rw [hG], rfl⟩
      generalize (h ++ (.dct [] :: .lst acc :: q)).length = lz at *
      generalize G (.dct []) (acc ++ [.loc lz]) = G2 at *
      generalize G (.dct []) acc = G1 at *
      simp [wp_v, ck, ap, fin]
    · intro ds h' hj
      rw [hJ] at hj
      obtain ⟨acc, q, x, y, al, rfl, rfl⟩ := hj
      simp [wp_v]
  obtain ⟨d, h', e', x, q, rfl, rfl⟩ := R.wp_ex w
  exact ⟨x, q, e'⟩
end DV
namespace DV
open PySem PySem.Spec PyProof.Rows L2
def allA (kvs : List (Key × D)) (ss : List Str) : Prop := ∀ s ∈ ss, valD kvs (.inr s) = some (tD tLf)
theorem form_on_ok (n : Nat) (h : Hs) (d : D) (b : Bo) (dk : Nat) (kvs : List (Key × D)) (r : BR h d b) (ek : h[dk]? = some (.dct kvs)) (al : allA kvs b.names) : F_form_on (n + 1) [d, .loc dk] h = .ok (tD tLf) h := by
  rw [S_form_on]
  refine R.wp_eq.mp ?_
  have nl := noloc_tD tLf
  rw [wp_pure, wp_run]
  refine ⟨rfl, ?_⟩
  unfold m_form_on
  simp only [startD, List.map_cons, List.map_nil, List.length_cons, List.length_nil]
  cases b with
  | leaf s =>
    unfold BR at r
    subst r
    have ix := ix_dct (k := .str s) ek rfl
    rw [al s (by simp [Bo.names])] at ix
    have ix : ixF (.loc dk) (.str s) h = some (tD tLf, h) := ix
    generalize tD tLf = T at *
    simp [wp_v, e_leaf, ix, nl]
  | knot bs =>
    unfold BR at r
    obtain ⟨l, ds, rfl, _, _⟩ := r
    generalize tD tLf = T at *
    simp [wp_v, e_knot, nl]
theorem knot_one (n : Nat) (h : Hs) (l dk : Nat) (d : D) (e : h[l]? = some (.lst [d])) : F_knot_of (n + 1) [.loc l, .loc dk] h = .ok d h := by
  rw [S_knot_of]
  refine R.wp_eq.mp ?_
  rw [kRaw_f, wp_run]
  refine ⟨rfl, ?_⟩
  unfold m_knot_of
  simp only [startD, List.map_cons, List.map_nil, List.length_cons, List.length_nil]
  have le := len_lst e
  have i0 : ixF (.loc l) (.int 0) h = some (d, h) := by rw [ix_lst e]; rfl
  simp at le
  simp [wp_v, le, i0]
theorem knot_of_ok (n : Nat) (h : Hs) (l dk : Nat) (kvs : List (Key × D)) (ds : List D) (bs : List Bo) (e : h[l]? = some (.lst ds)) (r : BRL h ds bs) (ek : h[dk]? = some (.dct kvs)) (al : allA kvs (namesL bs)) (l2 : 2 ≤ bs.length) (l4 : bs.length ≤ 100) :
    ∃ q, F_knot_of (n + 4) [.loc l, .loc dk] h = .ok (.tup [.str "knot", tD tLf, .loc l]) (h ++ q) := by
  have w : (F_knot_of (n + 4) [.loc l, .loc dk] h).wp (fun d h' => ∃ q, d = .tup [.str "knot", tD tLf, .loc l] ∧ h' = h ++ q) xF := by
    rw [show F_knot_of (n + 4) = _ from S_knot_of (n + 3)]
    rw [kRaw_f, wp_run]
    refine ⟨rfl, ?_⟩
    unfold m_knot_of
    simp only [startD, List.map_cons, List.map_nil, List.length_cons, List.length_nil]
    simp only [List.set_cons_succ, List.set_cons_zero, List.replicate, List.cons_append, List.nil_append]
    have dl := r.len
    have le := len_lst e
    have lc := lc_map1 (h0 := h) (gd := fun h' => h'[l]? = some (.lst ds)) (i := 2) (A := callM (F_form_on (n + 3)) (consA (vM 2) (consA (vM 1) nilA))) (ds := [some (.loc l), some (.loc dk), none])
      ds (List.replicate ds.length (tD tLf)) (by simp) (by omega) (fun acc => get_app e) (fun i d y acc h1 h2 => by
        have := rep_get h2
        subst this
        obtain ⟨b, eb, rb⟩ := r.get h1
        have fo := form_on_ok (n + 2) (h ++ [.lst acc]) d b dk kvs (rb.keep (Keeps.app _ _)) (get_app ek) (fun s hs => al s (names_mem (List.mem_of_getElem? eb) hs))
        generalize tD tLf = T at *
        refine R.wp_eq.mp ?_
        simp [wp_v, fo])
    obtain ⟨k, hk⟩ : ∃ k, ds.length = k + 1 := ⟨ds.length - 1, by omega⟩
    rw [hk] at lc
    obtain ⟨x, q, ne⟩ := nearest_ok n (h ++ [.lst (List.replicate (k + 1) (tD tLf))]) h.length k (by simp) (by omega)
    have it := its_lst e
    have n1 : ¬ (ds.length : Int) = 1 := by omega
    generalize AO.lst (List.replicate (k + 1) (tD tLf)) = O1 at *
    generalize tD tLf = T at *
    simp at lc ne
    simp [wp_v, le, n1, it, wipeD, lc, ne]
  obtain ⟨d, h', e', q, rfl, rfl⟩ := R.wp_ex w
  exact ⟨q, e'⟩
theorem kn_lf : tLf.knots = 1 := by simp [tLf, Tr.knots, knotsL]
theorem de_lf : tLf.depth = 1 := by simp [tLf, Tr.depth, depthL]
theorem best_ok (n : Nat) (h : Hs) (l dk : Nat) (kvs : List (Key × D)) (ds : List D) (bs : List Bo) (dl : D) (s : Str) (e : h[l]? = some (.lst ds)) (r : BRL h ds bs) (ek : h[dk]? = some (.dct kvs)) (al : allA kvs (namesL bs)) (rl : BR h dl (.leaf s)) (as : valD kvs (.inr s) = some (tD tLf)) (l4 : bs.length ≤ 100) :
    F_best_bough (n + 4) [.loc l, dl, .loc dk] h = .ok (.int 0) h := by
  rw [show F_best_bough (n + 4) = _ from S_best_bough (n + 3)]
  refine R.wp_eq.mp ?_
  rw [wp_pure, wp_run]
  refine ⟨rfl, ?_⟩
  unfold m_best_bough
  simp only [startD, List.map_cons, List.map_nil, List.length_cons, List.length_nil]
  simp only [List.set_cons_succ, List.set_cons_zero, List.replicate, List.cons_append, List.nil_append]
  refine st_set (.int 0) h ⟨rfl, rfl⟩ ?_
  refine st_set (.int 0) h ⟨rfl, rfl⟩ ?_
  simp only [List.set_cons_succ, List.set_cons_zero]
  have blen := r.len
  obtain ⟨J, hJ⟩ : ∃ J : Nat → Sl → Hs → Prop, J = fun i ds' h' => ∃ (q : Hs) (m : Int) (x y z : Option D), h' = h ++ q ∧ m = (if i = 0 then 0 else 1) ∧ ds' = [some (.loc l), some dl, some (.loc dk), some (.int 0), some (.int m), x, y, z] := ⟨_, rfl⟩
  have en : enumF (.loc l) h = some (numD ds, fun h => h[l]? = some (.lst ds)) := by unfold enumF; simp only [e]
  refine st_for (numD ds) (fun h' => h'[l]? = some (.lst ds)) h J (by simp [wp_v, en]) (by rw [hJ]; exact ⟨[], 0, none, none, none, by simp, rfl, rfl⟩) (fun i ds' h' hj => by rw [hJ] at hj; obtain ⟨q, m, x, y, z, rfl, _⟩ := hj; exact get_app e) ?_ ?_
  · intro i d ds' h' hi hj
    rw [hJ] at hj
    obtain ⟨q, m, x, y, z, rfl, hm, rfl⟩ := hj
    obtain ⟨v, ev, rfl⟩ := numD_get hi
    obtain ⟨b, eb, rb⟩ := r.get ev
    have f1 := form_on_ok (n + 2) (h ++ q) v b dk kvs (rb.keep (Keeps.app _ _)) (get_app ek) (fun s hs => al s (names_mem (List.mem_of_getElem? eb) hs))
    have f2 := form_on_ok (n + 2) (h ++ q) dl (.leaf s) dk kvs (rl.keep (Keeps.app _ _)) (get_app ek) (fun s' hs => by
      have : s' = s := by simpa [Bo.names] using hs
      subst this; exact as)
    obtain ⟨x1, q1, ne⟩ := nearest_ok n (h ++ q ++ [.lst (List.replicate 2 (tD tLf))]) (h ++ q).length 1 (by simp) (by omega)
    have ko := fun h => knots_of_ok h (n + 3) tLf (by rw [de_lf]; omega) (by rw [kn_lf]; omega)
    rw [kn_lf] at ko
    have fin : J (i + 1) [some (.loc l), some dl, some (.loc dk), some (.int 0), some (.int 1), some (.int (i : Int)), some v, some (.int 1)] (h ++ q ++ [.lst (List.replicate 2 (tD tLf))] ++ q1) := by
      rw [hJ]
      exact ⟨q ++ [.lst (List.replicate 2 (tD tLf))] ++ q1, 1, _, _, _, by simp, by simp, rfl⟩
    have rp : List.replicate 2 (tD tLf) = [tD tLf, tD tLf] := rfl
    rw [rp] at ne fin
    generalize tD tLf = T at *
    generalize h ++ q = G at *
    by_cases c : i = 0
    · subst c
      rw [if_pos rfl] at hm
      subst hm
      simp at fin ne
      simp [wp_v, f1, f2, ne, ko]
      exact fin
    · rw [if_neg c] at hm
      subst hm
      simp at fin ne
      simp [wp_v, f1, f2, ne, ko]
      exact fin
  · intro ds' h' hj
    rw [hJ] at hj
    obtain ⟨q, m, x, y, z, rfl, hm, rfl⟩ := hj
    simp [wp_v, noloc]
end DV
namespace DV
open PySem PySem.Spec PyProof.Rows L2
theorem sok_lf : tLf.sok := ⟨ok_a, trivial⟩
theorem fit_lf : fitU tLf tLf [] = (true, []) := by simp [tLf, fitU, sameB, fitL, Tr.parts]
theorem fitting_lf (n : Nat) (h : Hs) : F_fitting (n + 3) [tD tLf, tD tLf] h = .ok (.loc h.length) (h ++ [.dct []]) := by
  rw [fitting_ok (n + 2) h tLf tLf ⟨sok_lf, by rw [de_lf]; omega⟩ sok_lf (by rw [de_lf]; omega) (by rw [kn_lf]; omega), fit_lf]
  rfl
theorem keeps_swap {hx h : Hs} {ds : List D} {o : AO} {ds' : List D} (hl : hx.length = h.length) (n : ∀ ds, o ≠ .lst ds) (q : Hs) : Keeps (hx ++ [o] ++ q) (hx ++ [.lst ds'] ++ q) := fun l xs e => by
  by_cases c : l = hx.length
  · subst c
    simp at e
    exact absurd e (n xs)
  · rw [List.append_assoc] at e ⊢
    by_cases c2 : l < hx.length
    · rw [List.getElem?_append_left c2] at e ⊢; exact e
    · rw [List.getElem?_append_right (by omega)] at e ⊢
      obtain ⟨k, hk⟩ : ∃ k, l - hx.length = k + 1 := ⟨l - hx.length - 1, by omega⟩
      rw [hk] at e ⊢
      exact e
theorem keeps_app2 {a b q r : Hs} (hl : a.length = b.length) (k : Keeps a b) (k2 : Keeps q r) : Keeps (a ++ q) (b ++ r) := fun l xs e => by
  by_cases c : l < a.length
  · rw [List.getElem?_append_left c] at e
    rw [List.getElem?_append_left (by omega)]
    exact k l xs e
  · rw [List.getElem?_append_right (by omega)] at e
    rw [List.getElem?_append_right (by omega), ← hl]
    exact k2 _ xs e
theorem isn_loc {k : Nat} {h : Hs} : isNF (.loc k) .non h = some (.bl false, h) := rfl
def HungQ (h hx : Hs) (s : Str) (b : Bo) (d' : D) (h' : Hs) : Prop := ∃ (bs : List Bo) (q : Hs), h' = h ++ q ∧ BR (hx ++ q) d' (.knot bs) ∧ (Bo.knot bs).wf ∧ (namesL bs).Perm (b.names ++ [s]) ∧ (Bo.knot bs).height ≤ b.height + 1
theorem hung_ok : ∀ (m n : Nat) (b : Bo) (h hx : Hs) (d dl : D) (s : Str) (dk : Nat) (kvs : List (Key × D)), b.height ≤ m → m + 6 ≤ n → hx.length = h.length → Keeps hx h → BR hx d b → b.wf → (∀ h, BR h dl (.leaf s)) → h[dk]? = some (.dct kvs) → allA kvs b.names → valD kvs (.inr s) = some (tD tLf) →
    (F_hung n [d, dl, .loc dk] h).wp (HungQ h hx s b) xF
  | 0, n, b, h, hx, d, dl, s, dk, kvs, hb, _, _, _, _, _, _, _, _, _ => by have := height_pos b; omega
  | m + 1, n, b, h, hx, d, dl, s, dk, kvs, hb, hn, hxl, kp, r, wf, rl, ek, al, as => by
    obtain ⟨n, rfl⟩ : ∃ k, n = k + 6 := ⟨n - 6, by omega⟩
    rw [show F_hung (n + 6) = _ from S_hung (n + 5)]
    rw [kRaw_f, wp_run]
    refine ⟨rfl, ?_⟩
    unfold m_hung
    simp only [startD, List.map_cons, List.map_nil, List.length_cons, List.length_nil]
    simp only [List.set_cons_succ, List.set_cons_zero, List.replicate, List.cons_append, List.nil_append]
    have alS : ∀ s' ∈ (Bo.leaf s).names, valD kvs (.inr s') = some (tD tLf) := fun s' hs => by
      have : s' = s := by simpa [Bo.names] using hs
      subst this; exact as
    cases b with
    | leaf s0 =>
      have alB : allA kvs (namesL [.leaf s0, .leaf s]) := fun s' hs => by
        simp only [namesL, Bo.names, List.append_nil, List.mem_append] at hs
        rcases hs with hs | hs
        · exact al s' hs
        · exact alS s' hs
      have rb : ∀ g, Keeps h g → BRL g [d, dl] [.leaf s0, .leaf s] := fun g k => by
        unfold BRL
        refine ⟨d, [dl], rfl, (r.keep kp).keep k, ?_⟩
        unfold BRL
        exact ⟨dl, [], rfl, rl g, by unfold BRL; rfl⟩
      obtain ⟨q, kn⟩ := knot_of_ok (n + 1) (h ++ [.lst [d, dl]]) h.length dk kvs [d, dl] _ (by simp) (rb _ (Keeps.app _ _)) (get_app ek) alB (by simp) (by simp)
      have fin : HungQ h hx s (.leaf s0) (.tup [.str "knot", tD tLf, .loc h.length]) (h ++ [.lst [d, dl]] ++ q) := by
        refine ⟨[.leaf s0, .leaf s], [.lst [d, dl]] ++ q, by simp, ?_, ⟨by simp, by simp, by simp [wfL, Bo.wf]⟩, by simp [namesL, Bo.names], by simp [Bo.height, heightL]⟩
        unfold BR
        refine ⟨h.length, [d, dl], rfl, by rw [← hxl]; simp, ?_⟩
        unfold BRL
        refine ⟨d, [dl], rfl, r.keep (Keeps.app _ _), ?_⟩
        unfold BRL
        exact ⟨dl, [], rfl, rl _, by unfold BRL; rfl⟩
      unfold BR at r
      subst r
      generalize tD tLf = T at *
      simp at kn fin
      simp [wp_v, e_leaf, kn]
      exact fin
    | knot bs =>
      have r0 := r
      unfold BR at r
      obtain ⟨l, ds, rfl, el, rb⟩ := r
      obtain ⟨w2, w4, wl⟩ := wf
      have el := kp l ds el
      have dl_ := rb.len
      have hb : heightL bs ≤ m := by rw [Bo.height] at hb; omega
      have hh : (Bo.knot bs).height = 1 + heightL bs := by rw [Bo.height]
      have fo := form_on_ok (n + 4) h dl (.leaf s) dk kvs (rl h) ek alS
      have fi := fitting_lf (n + 2) h
      obtain ⟨dkt, hdk⟩ : ∃ dkt, dkt = D.tup [.str "knot", tD tLf, .loc l] := ⟨_, rfl⟩
      have k0 : ∀ h, ixF dkt (.int 0) h = some (.str "knot", h) := fun h => by rw [hdk]; rfl
      have k1 : ∀ h, ixF dkt (.int 1) h = some (tD tLf, h) := fun h => by rw [hdk]; rfl
      have k2 : ∀ h, ixF dkt (.int 2) h = some (.loc l, h) := fun h => by rw [hdk]; rfl
      rw [← hdk] at r0 ⊢
      clear hdk
      refine st_guard (h ++ [.dct []]) ?_ ?_
      · generalize tD tLf = T at *
        simp [wp_v, k0, k1, e_knot, fo, fi, isn_loc]
      have lt : lstT [.loc l] (h ++ [.dct []]) = some (.loc (h.length + 1), h ++ [.dct [], .lst ds]) := by
        have := get_app (r := [AO.dct []]) el
        simp [lstT, this]
      refine st_set (.loc (h.length + 1)) (h ++ [.dct [], .lst ds]) (by simp [wp_v, k2, lt]) ?_
      simp only [List.set_cons_succ, List.set_cons_zero]
      have le := len_lst (h := h ++ [.dct [], .lst ds]) (l := h.length + 1) (xs := ds) (by simp)
      have rbx : ∀ q, BRL (hx ++ q) ds bs := fun q => rb.keep (Keeps.app _ _)
      by_cases c4 : bs.length < 4
      · have c4' : (ds.length : Int) < 4 := by omega
        have ad := add_lsts (h := h ++ [.dct [], .lst ds, .lst [dl]]) (i := h.length + 1) (j := h.length + 2) (xs := ds) (ys := [dl]) (by simp) (by simp) (by simp; omega)
        have rb2 : ∀ g, Keeps hx g → BRL g (ds ++ [dl]) (bs ++ [.leaf s]) := fun g k => BRL.snoc (rl g) (rb.keep k)
        have alB : allA kvs (namesL (bs ++ [.leaf s])) := fun s' hs => by
          rw [namesL_app] at hs
          rcases List.mem_append.mp hs with hs | hs
          · exact al s' hs
          · exact alS s' hs
        obtain ⟨q, kn⟩ := knot_of_ok (n + 1) (h ++ [.dct [], .lst ds, .lst [dl], .lst (ds ++ [dl])]) (h.length + 3) dk kvs (ds ++ [dl]) (bs ++ [.leaf s]) (by simp) (rb2 _ (kp.trans (Keeps.app _ _))) (get_app ek) alB (by simp; omega) (by simp; omega)
        have fin : HungQ h hx s (.knot bs) (.tup [.str "knot", tD tLf, .loc (h.length + 3)]) (h ++ [.dct [], .lst ds, .lst [dl], .lst (ds ++ [dl])] ++ q) := by
          refine ⟨bs ++ [.leaf s], [.dct [], .lst ds, .lst [dl], .lst (ds ++ [dl])] ++ q, by simp, ?_, ⟨by simp; omega, by simp; omega, wfL_iff.mpr fun b hb => ?_⟩, by rw [namesL_app]; exact List.Perm.refl _, ?_⟩
          · unfold BR
            exact ⟨h.length + 3, ds ++ [dl], rfl, by rw [← hxl]; simp, rb2 _ (Keeps.app _ _)⟩
          · rcases List.mem_append.mp hb with hb | hb
            · exact wfL_iff.mp wl b hb
            · cases List.mem_singleton.mp hb; trivial
          · rw [Bo.height, hh]
            have : heightL (bs ++ [.leaf s]) ≤ heightL bs + 1 := heightL_le.mpr fun b hb => by
              rcases List.mem_append.mp hb with hb | hb
              · have := height_mem hb; omega
              · cases List.mem_singleton.mp hb; simp [Bo.height]
            omega
        generalize tD tLf = T at *
        simp at ad kn fin le
        simp [wp_v, le, c4', ad, kn]
        exact fin
      · have c4' : ¬ (ds.length : Int) < 4 := by omega
        refine st_guard (h ++ [.dct [], .lst ds]) (by simp [wp_v, le]; omega) ?_
        obtain ⟨d0, dr, rfl⟩ : ∃ d0 dr, ds = d0 :: dr := by
          cases ds with
          | nil => simp at dl_; omega
          | cons a b => exact ⟨a, b, rfl⟩
        cases bs with
        | nil => simp at w2
        | cons b0 br =>
          have rb' := rb
          unfold BRL at rb'
          obtain ⟨d0', dr', e1, r1, r2⟩ := rb'
          injection e1 with e1 e2
          subst e1 e2
          obtain ⟨H1, hH1⟩ : ∃ H1 : Hs, H1 = h ++ [.dct [], .lst (d0 :: dr)] := ⟨_, rfl⟩
          obtain ⟨X1, hX1⟩ : ∃ X1 : Hs, X1 = hx ++ [.dct [], .dct []] := ⟨_, rfl⟩
          have lX : X1.length = H1.length := by rw [hX1, hH1]; simp [hxl]
          have kX : Keeps X1 H1 := by
            rw [hX1, hH1]
            refine keeps_app2 hxl kp fun l xs e => ?_
            cases l with
            | zero => cases e
            | succ l =>
              cases l with
              | zero => cases e
              | succ l => cases e
          have bo := best_ok (n + 1) H1 (h.length + 1) dk kvs (d0 :: dr) (b0 :: br) dl s (by rw [hH1]; simp) ((rb.keep kp).keep (by rw [hH1]; exact Keeps.app _ _)) (by rw [hH1]; exact get_app ek) al (rl _) as (by omega)
          have i0 : ixF (.loc (h.length + 1)) (.int 0) H1 = some (d0, H1) := by
            rw [ix_lst (xs := d0 :: dr) (by rw [hH1]; simp), show (0 : Int) = ((0 : Nat) : Int) from rfl, atI_nat (by simp)]; rfl
          have hb0 : b0.height ≤ m := by rw [heightL] at hb; omega
          obtain ⟨d', h2, eh, bs2, q, rfl, rd, wd, pd, hd⟩ := R.wp_ex (hung_ok m (n + 5) b0 H1 X1 d0 dl s dk kvs hb0 (by omega) lX kX (r1.keep (by rw [hX1]; exact Keeps.app _ _)) wl.1 rl (by rw [hH1]; exact get_app ek) (fun s' hs => al s' (by simp only [Bo.names, namesL]; exact List.mem_append_left _ hs)) as)
          rw [← hH1]
          refine st_set (.int 0) H1 (by simp [wp_v, bo]) ?_
          simp only [List.set_cons_succ, List.set_cons_zero]
          obtain ⟨H2, hH2⟩ : ∃ H2 : Hs, H2 = h ++ (.dct [] :: .lst (d' :: dr) :: q) := ⟨_, rfl⟩
          obtain ⟨X2, hX2⟩ : ∃ X2 : Hs, X2 = hx ++ (.dct [] :: .lst (d' :: dr) :: q) := ⟨_, rfl⟩
          have sa : setAF (.loc (h.length + 1)) (.int 0) d' (H1 ++ q) = some H2 := by
            have e : (H1 ++ q)[h.length + 1]? = some (.lst (d0 :: dr)) := by rw [hH1]; simp
            have := set_lst (k := 0) (v := d') e (by simp)
            rw [show (0 : Int) = ((0 : Nat) : Int) from rfl, this, hH1, hH2]
            simp
          have kX2 : Keeps (X1 ++ q) X2 := by
            rw [hX1, hX2]
            have := keeps_swap (hx := hx ++ [.dct []]) (h := hx ++ [.dct []]) (ds := []) (o := .dct []) (ds' := d' :: dr) rfl (fun _ z => by cases z) q
            simpa using this
          have kH2 : Keeps X2 H2 := by
            rw [hX2, hH2]
            exact keeps_app2 hxl kp (Keeps.refl _)
          have rX2 : BRL X2 (d' :: dr) (.knot bs2 :: br) := by
            unfold BRL
            exact ⟨d', dr, rfl, rd.keep kX2, r2.keep (by rw [hX2]; exact Keeps.app _ _)⟩
          have pn : (namesL (.knot bs2 :: br)).Perm (namesL (b0 :: br) ++ [s]) := by
            rw [namesL, namesL, List.append_assoc]
            have p1 : (namesL bs2 ++ namesL br).Perm ((b0.names ++ [s]) ++ namesL br) := pd.append_right _
            refine p1.trans ?_
            rw [List.append_assoc]
            exact List.Perm.append_left _ (List.perm_append_comm)
          have alB : allA kvs (namesL (.knot bs2 :: br)) := fun s' hs => by
            have := pn.mem_iff.mp hs
            rcases List.mem_append.mp this with hs | hs
            · exact al s' hs
            · exact alS s' hs
          obtain ⟨q3, kn⟩ := knot_of_ok (n + 1) H2 (h.length + 1) dk kvs (d' :: dr) (.knot bs2 :: br) (by rw [hH2]; simp) (rX2.keep kH2) (by rw [hH2]; exact get_app ek) alB (by simpa using w2) (by simp at w4 ⊢; omega)
          have fin : HungQ h hx s (.knot (b0 :: br)) (.tup [.str "knot", tD tLf, .loc (h.length + 1)]) (H2 ++ q3) := by
            refine ⟨.knot bs2 :: br, (.dct [] :: .lst (d' :: dr) :: q) ++ q3, by rw [hH2]; simp, ?_, ⟨by simpa using w2, by simpa using w4, ⟨wd, wl.2⟩⟩, pn, ?_⟩
            · unfold BR
              refine ⟨h.length + 1, d' :: dr, rfl, by rw [← hxl]; simp, ?_⟩
              refine rX2.keep ?_
              rw [hX2, ← List.append_assoc]
              exact Keeps.app _ _
            · rw [hh, Bo.height, heightL, heightL]
              omega
          generalize tD tLf = T at *
          simp [wp_v, i0, eh, sa, kn]
          exact fin
end DV
namespace DV
open PySem PySem.Spec PyProof.Rows L2
theorem inFlat_strs (k : Str) : ∀ xs : List Str, inFlat (.str k) (xs.map D.str) = true ↔ k ∈ xs
  | [] => by simp [inFlat]
  | x :: xs => by
    have ih := inFlat_strs k xs
    unfold inFlat at ih ⊢
    rw [List.map_cons, List.any_cons, Bool.or_eq_true, ih, List.mem_cons]
    have : (eqV (toV (.str x)) (toV (.str k)) = true) ↔ k = x := by
      show ((x == k) = true) ↔ _
      rw [beq_iff_eq]
      exact eq_comm
    rw [this]
theorem strs_flat : ∀ xs : List Str, (xs.map D.str).all flatD = true
  | [] => rfl
  | x :: xs => by rw [List.map_cons, List.all_cons, strs_flat xs]; rfl
theorem nin_strs {h : Hs} {l : Nat} {xs : List Str} {k : Str} (e : h[l]? = some (.lst (xs.map D.str))) : ∃ b, ninF (.str k) (.loc l) h = some (.bl b, h) ∧ (b = true ↔ k ∉ xs) := by
  refine ⟨!inFlat (.str k) (xs.map D.str), ?_, ?_⟩
  · simp only [ninF, inB, e, strs_flat, flatD, Bool.and_self, if_true]
    rfl
  · rw [← inFlat_strs k xs]
    simp
theorem namesL_append : ∀ (a b : List Bo), namesL (a ++ b) = namesL a ++ namesL b
  | [], b => rfl
  | x :: a, b => by rw [List.cons_append, namesL, namesL, namesL_append a b, List.append_assoc]
theorem BRL.one {h : Hs} {ds : List D} {b : Bo} (r : BRL h ds [b]) : ∃ d, ds = [d] ∧ BR h d b := by
  unfold BRL at r
  obtain ⟨d, x, rfl, r1, r2⟩ := r
  unfold BRL at r2
  subst r2
  exact ⟨d, rfl, r1⟩
theorem BR.some {h : Hs} {d : D} {b : Bo} (r : BR h d b) : isNon d = false ∧ d ≠ .non := by
  cases b with
  | leaf s => unfold BR at r; subst r; exact ⟨rfl, fun z => by cases z⟩
  | knot bs => unfold BR at r; obtain ⟨_, _, rfl, _⟩ := r; exact ⟨rfl, fun z => by cases z⟩
open Classical in
noncomputable def without_ (s : Str) (ss : List Str) : List Str := ss.filter fun x => decide (x ≠ s)
def CutQ (h hx : Hs) (s : Str) (b : Bo) (d' : D) (h' : Hs) : Prop := ∃ q : Hs, h' = h ++ q ∧ ((d' = .non ∧ b.names = [s]) ∨ ∃ b', BR (hx ++ q) d' b' ∧ b'.wf ∧ b'.names.Perm (without_ s b.names) ∧ b'.height ≤ b.height)
theorem without_app (s : Str) (a b : List Str) : without_ s (a ++ b) = without_ s a ++ without_ s b := by unfold without_; rw [List.filter_append]
theorem without_no {s : Str} {a : List Str} (n : s ∉ a) : without_ s a = a := by
  unfold without_
  rw [List.filter_eq_self]
  intro x hx
  have : x ≠ s := fun z => n (z ▸ hx)
  simpa using this
theorem mem_without {s x : Str} {a : List Str} (m : x ∈ without_ s a) : x ∈ a := (List.mem_filter.mp m).1
theorem cut_ok : ∀ (m n : Nat) (b : Bo) (h hx : Hs) (d : D) (s : Str) (dk : Nat) (kvs : List (Key × D)), b.height ≤ m → m + 6 ≤ n → hx.length = h.length → Keeps hx h → BR hx d b → b.wf → h[dk]? = some (.dct kvs) → allA kvs b.names → b.names.Nodup → b.names.length < 64 → (∀ x ∈ b.names, PyData.strOk x = true) → PyData.strOk s = true →
    (F_cut_off n [d, .str s, .loc dk] h).wp (CutQ h hx s b) xF
  | 0, n, b, h, hx, d, s, dk, kvs, hb, _, _, _, _, _, _, _, _, _, _, _ => by have := height_pos b; omega
  | m + 1, n, b, h, hx, d, s, dk, kvs, hb, hn, hxl, kp, r, wf, ek, al, nd, l64, so, ss => by
    obtain ⟨n, rfl⟩ : ∃ k, n = k + 6 := ⟨n - 6, by omega⟩
    rw [show F_cut_off (n + 6) = _ from S_cut_off (n + 5)]
    rw [kRaw_f, wp_run]
    refine ⟨rfl, ?_⟩
    unfold m_cut_off
    simp only [startD, List.map_cons, List.map_nil, List.length_cons, List.length_nil]
    simp only [List.set_cons_succ, List.set_cons_zero, List.replicate, List.cons_append, List.nil_append]
    cases b with
    | leaf s0 =>
      have r0 := r
      unfold BR at r
      have es := fun h => eq_strs (h := h) (so s0 (by simp [Bo.names])) ss
      by_cases c : s0 = s
      · subst c
        have es := fun h => eq_strs (h := h) ss ss
        subst r
        have fin : CutQ h hx s0 (.leaf s0) .non h := ⟨[], by simp, .inl ⟨rfl, rfl⟩⟩
        simp [wp_v, e_leaf, es]
        exact fin
      · have fin : CutQ h hx s (.leaf s0) d h := ⟨[], by simp, .inr ⟨.leaf s0, r0.keep (Keeps.app _ _), trivial, by
          rw [without_no (by simpa [Bo.names] using fun z => c z.symm)], Nat.le_refl _⟩⟩
        subst r
        simp [wp_v, e_leaf, es, c]
        exact fin
    | knot bs =>
      have r0 := r
      unfold BR at r
      obtain ⟨l, ds, rfl, el, rb⟩ := r
      obtain ⟨w2, w4, wl⟩ := wf
      have el := kp l ds el
      have dl_ := rb.len
      have hb : heightL bs ≤ m := by rw [Bo.height] at hb; omega
      have hh : (Bo.knot bs).height = 1 + heightL bs := by rw [Bo.height]
      obtain ⟨nm, en, pn⟩ := names_on_ok (n + 5) (.knot bs) h _ (r0.keep kp) (by omega) l64
      obtain ⟨N, hN⟩ : ∃ N, N = AO.lst (nm.map D.str) := ⟨_, rfl⟩
      rw [← hN] at en
      obtain ⟨bb, enin, hbb⟩ := nin_strs (h := h ++ [N]) (l := h.length) (xs := nm) (k := s) (by rw [hN]; simp)
      obtain ⟨dkt, hdk⟩ : ∃ dkt, dkt = D.tup [.str "knot", tD tLf, .loc l] := ⟨_, rfl⟩
      have k0 : ∀ h, ixF dkt (.int 0) h = some (.str "knot", h) := fun h => by rw [hdk]; rfl
      have k2 : ∀ h, ixF dkt (.int 2) h = some (.loc l, h) := fun h => by rw [hdk]; rfl
      rw [← hdk] at r0 en ⊢
      clear hdk
      refine st_guard h (by simp [wp_v, k0, e_knot]) ?_
      cases bb with
      | true =>
        have sn : s ∉ (Bo.knot bs).names := fun z => hbb.mp rfl (pn.mem_iff.mpr z)
        have fin : CutQ h hx s (.knot bs) dkt (h ++ [N]) := ⟨[N], rfl, .inr ⟨.knot bs, r0.keep (Keeps.app _ _), ⟨w2, w4, wl⟩, by rw [without_no sn], Nat.le_refl _⟩⟩
        simp [wp_v, en, enin]
        exact fin
      | false =>
        refine st_guard (h ++ [N]) (by simp [wp_v, en, enin]) ?_
        refine st_set (.loc (h.length + 1)) (h ++ [N, .lst []]) (by simp [wp_v]) ?_
        simp only [List.set_cons_succ, List.set_cons_zero]
        have nd : (namesL bs).Nodup := nd
        have l64 : (namesL bs).length < 64 := l64
        obtain ⟨J, hJ⟩ : ∃ J : Nat → Sl → Hs → Prop, J = fun i ds' h' => ∃ (q : Hs) (x y : Option D) (acc : List D) (bs' : List Bo), h' = h ++ (N :: .lst acc :: q) ∧ ds' = [some dkt, some (.str s), some (.loc dk), some (.loc (h.length + 1)), x, y] ∧ BRL (hx ++ (N :: .dct [] :: q)) acc bs' ∧ wfL bs' ∧
          (namesL bs').Perm (without_ s (namesL (bs.take i))) ∧ heightL bs' ≤ heightL bs ∧ i ≤ bs'.length + 1 ∧ (s ∉ namesL (bs.take i) → bs'.length = i) ∧ bs'.length ≤ i := ⟨_, rfl⟩
        refine st_for ds (fun h' => h'[l]? = some (.lst ds)) (h ++ [N, .lst []]) J ?_ (by rw [hJ]; exact ⟨[], none, none, [], [], by simp, rfl, by unfold BRL; rfl, trivial, by simp [namesL, without_], by simp [heightL], by simp, fun _ => rfl, by simp⟩) (fun i ds' h' hj => by rw [hJ] at hj; obtain ⟨q, x, y, acc, bs', rfl, _⟩ := hj; exact get_app el) ?_ ?_
        · have it := its_lst (h := h ++ [N, .lst []]) (get_app el)
          simp [wp_v, k2, it]
        · intro i d ds' h' hi hj
          rw [hJ] at hj
          obtain ⟨q, x, y, acc, bs', rfl, rfl, ra, wa, pa, ha, la, lb, lc⟩ := hj
          obtain ⟨b, eb, rbi⟩ := rb.get hi
          have bm := List.mem_of_getElem? eb
          have il : i < bs.length := (List.getElem?_eq_some_iff.mp eb).1
          have hbi := height_mem bm
          have lbi := names_len_mem bm
          have nt := namesL_take bs i b eb
          have nsub : (namesL (bs.take (i + 1))).Sublist (namesL bs) := by
            have := namesL_append (bs.take (i + 1)) (bs.drop (i + 1))
            rw [List.take_append_drop] at this
            rw [this]
            exact List.sublist_append_left _ _
          have ndt : (namesL (bs.take i) ++ b.names).Nodup := by rw [← nt]; exact nd.sublist nsub
          obtain ⟨nd1, nd2, nd3⟩ := List.nodup_append.mp ndt
          obtain ⟨H1, hH1⟩ : ∃ H1 : Hs, H1 = h ++ (N :: .lst acc :: q) := ⟨_, rfl⟩
          obtain ⟨X1, hX1⟩ : ∃ X1 : Hs, X1 = hx ++ (N :: .dct [] :: q) := ⟨_, rfl⟩
          have lX : X1.length = H1.length := by rw [hX1, hH1]; simp [hxl]
          have kX : Keeps X1 H1 := by
            rw [hX1, hH1]
            refine keeps_app2 hxl kp fun l xs e => ?_
            cases l with
            | zero => exact e
            | succ l =>
              cases l with
              | zero => cases e
              | succ l => exact e
          obtain ⟨d', h2, ec, q2, rfl, cq⟩ := R.wp_ex (cut_ok m (n + 5) b H1 X1 d s dk kvs (by omega) (by omega) lX kX (rbi.keep (by rw [hX1]; exact Keeps.app _ _)) (wfL_iff.mp wl b bm) (by rw [hH1]; exact get_app ek) (fun x hx => al x (names_mem bm hx)) nd2 (by omega) (fun x hx => so x (names_mem bm hx)) ss)
          rw [← hH1]
          have e0 : H1 ++ q2 = h ++ (N :: .lst acc :: (q ++ q2)) := by rw [hH1]; simp
          have x0 : X1 ++ q2 = hx ++ (N :: .dct [] :: (q ++ q2)) := by rw [hX1]; simp
          rcases cq with ⟨rfl, cn⟩ | ⟨b', rd, wd, pd, hd⟩
          · have sm_ : s ∈ b.names := by rw [cn]; simp
            have sn : s ∉ namesL (bs.take i) := fun z => nd3 s z s sm_ rfl
            have fin : J (i + 1) [some dkt, some (.str s), some (.loc dk), some (.loc (h.length + 1)), some d, some .non] (H1 ++ q2) := by
              rw [hJ]
              refine ⟨q ++ q2, _, _, acc, bs', e0, rfl, ?_, wa, ?_, ha, by have := lb sn; omega, fun z => ?_, by omega⟩
              · rw [← x0, hX1]; exact ra.keep (Keeps.app _ _)
              · rw [nt, without_app, cn]
                have : without_ s [s] = [] := by simp [without_]
                rw [this, List.append_nil]
                exact pa
              · exact absurd (by rw [nt]; exact List.mem_append_right _ sm_) z
            simp [wp_v, ec, isnNF, isNon]
            exact fin
          · obtain ⟨inn, dn⟩ := rd.some
            have isn : ∀ h, isnNF d' .non h = some (.bl true, h) := fun h => by
              show some (D.bl (!isNon d'), h) = _
              rw [inn]; rfl
            have ea : (H1 ++ q2)[h.length + 1]? = some (.lst acc) := by rw [e0]; simp
            have ck := ck_lst ea
            have accl := ra.len
            have ap := append_lst (v := d') ea (by omega)
            have e1 : (H1 ++ q2).set (h.length + 1) (.lst (acc ++ [d'])) = h ++ (N :: .lst (acc ++ [d']) :: (q ++ q2)) := by rw [e0]; simp
            rw [e1] at ap
            have fin : J (i + 1) [some dkt, some (.str s), some (.loc dk), some (.loc (h.length + 1)), some d, some d'] (h ++ (N :: .lst (acc ++ [d']) :: (q ++ q2))) := by
              rw [hJ]
              refine ⟨q ++ q2, _, _, acc ++ [d'], bs' ++ [b'], rfl, rfl, ?_, wfL_iff.mpr fun c hc => ?_, ?_, heightL_le.mpr fun c hc => ?_, by simp; omega, fun z => ?_, by simp; omega⟩
              · rw [← x0]
                exact BRL.snoc rd (ra.keep (by rw [hX1]; exact Keeps.app _ _))
              · rcases List.mem_append.mp hc with hc | hc
                · exact wfL_iff.mp wa c hc
                · cases List.mem_singleton.mp hc; exact wd
              · rw [namesL_app, nt, without_app]
                exact pa.append pd
              · rcases List.mem_append.mp hc with hc | hc
                · exact heightL_le.mp ha c hc
                · cases List.mem_singleton.mp hc; omega
              · have : bs'.length = i := lb fun y => z (by rw [nt]; exact List.mem_append_left _ y)
                simp [this]
            simp [wp_v, ec, isn, ck, ap]
            exact fin
        · intro ds' h' hj
          rw [hJ] at hj
          obtain ⟨q, x, y, acc, bs', rfl, rfl, ra, wa, pa, ha, la, lb, lc⟩ := hj
          rw [dl_, List.take_length] at pa
          rw [dl_] at la lc
          obtain ⟨G, hG⟩ : ∃ G : Hs, G = h ++ (N :: .lst acc :: q) := ⟨_, rfl⟩
          obtain ⟨X, hX⟩ : ∃ X : Hs, X = hx ++ (N :: .lst acc :: q) := ⟨_, rfl⟩
          have rX : BRL X acc bs' := ra.keep (by
            rw [hX]
            have := keeps_swap (hx := hx ++ [N]) (h := hx ++ [N]) (ds := []) (o := .dct []) (ds' := acc) rfl (fun _ z => by cases z) q
            simpa using this)
          have kG : Keeps X G := by
            rw [hX, hG]
            exact keeps_app2 hxl kp (Keeps.refl _)
          have ea : G[h.length + 1]? = some (.lst acc) := by rw [hG]; simp
          have accl := ra.len
          rw [← hG]
          by_cases c1 : bs'.length = 1
          · obtain ⟨b', rfl⟩ : ∃ b', bs' = [b'] := by
              cases bs' with
              | nil => simp at c1
              | cons a t =>
                cases t with
                | nil => exact ⟨a, rfl⟩
                | cons _ _ => simp at c1
            obtain ⟨d', rfl, rd⟩ := rX.one
            have kn := knot_one (n + 4) G (h.length + 1) dk d' ea
            have fin : CutQ h hx s (.knot bs) d' G := by
              refine ⟨N :: .lst [d'] :: q, hG, .inr ⟨b', ?_, wa.1, ?_, ?_⟩⟩
              · rw [← hX]; exact rd
              · have : namesL [b'] = b'.names := by simp [namesL]
                rw [this] at pa
                exact pa
              · rw [heightL] at ha
                omega
            simp [wp_v, kn]
            exact fin
          · have alB : allA kvs (namesL bs') := fun x hx => al x (mem_without (pa.mem_iff.mp hx))
            obtain ⟨q3, kn⟩ := knot_of_ok (n + 1) G (h.length + 1) dk kvs acc bs' ea (rX.keep kG) (by rw [hG]; exact get_app ek) alB (by omega) (by omega)
            have fin : CutQ h hx s (.knot bs) (.tup [.str "knot", tD tLf, .loc (h.length + 1)]) (G ++ q3) := by
              refine ⟨(N :: .lst acc :: q) ++ q3, by rw [hG]; simp, .inr ⟨.knot bs', ?_, ⟨by omega, by omega, wa⟩, pa, by rw [Bo.height, hh]; omega⟩⟩
              unfold BR
              refine ⟨h.length + 1, acc, rfl, by rw [← hxl]; simp, rX.keep ?_⟩
              rw [hX, ← List.append_assoc]
              exact Keeps.app _ _
            generalize tD tLf = T at *
            simp [wp_v, kn]
            exact fin
end DV
namespace DV
open PySem PySem.Spec PyProof.Rows L2
theorem sign_at {a : Nat} {r : List Nat} {i : Nat} {d : D} (e : (D.str ⟨#[a]⟩ :: r.map fun c => D.str ⟨#[c]⟩)[i]? = some d) : ∃ c, (a :: r)[i]? = some c ∧ d = .str ⟨#[c]⟩ := by
  have e : ((a :: r).map fun c => D.str ⟨#[c]⟩)[i]? = some d := e
  rw [List.getElem?_map] at e
  cases q : (a :: r)[i]? with
  | none => rw [q] at e; cases e
  | some c => rw [q] at e; cases e; exact ⟨c, rfl, rfl⟩
theorem take_all {p : Nat → Bool} {l : List Nat} {i c : Nat} (e : l[i]? = some c) (h : (l.take i).all p = true) : (l.take (i + 1)).all p = p c := by
  rw [List.take_add_one, e, List.all_append, h]
  simp
theorem not_all {p : Nat → Bool} {l : List Nat} {i c : Nat} (e : l[i]? = some c) (h : p c = false) : l.all p = false := by
  rw [List.all_eq_false]
  exact ⟨c, List.mem_of_getElem? e, by simp [h]⟩
theorem is_name_ok (n : Nat) (h : Hs) (s : Str) (hl : s.length ≤ LIM) : F_is_name (n + 1) [.str s] h = .ok (.bl (nameB s)) h := by
  refine R.wp_eq.mp ?_
  simp [F_is_name, wp_pure, wp_run, m_is_name, startD, wp_v, noloc, hl]
  have hs : s.length = s.cps.toList.length := by rw [Array.length_toList]; rfl
  by_cases c1 : 1 ≤ s.length
  · have d1 : (1 : Int) ≤ s.length := by omega
    by_cases c2 : s.length ≤ 12
    · have d2 : (s.length : Int) ≤ 12 := by omega
      cases q : s.cps.toList with
      | nil => rw [q] at hs; simp at hs; omega
      | cons a r =>
        have e0 : atI (a :: r) 0 = some a := by
          have : (0 : Int) = ((0 : Nat) : Int) := rfl
          rw [this, atI_nat (by simp)]; rfl
        have nb : nameB s = (decide (a ∈ smallS.cps) && r.all okSign) := by
          unfold nameB
          rw [q, decide_eq_true ⟨c1, c2⟩]
          rfl
        simp [d1, d2, e0]
        by_cases c3 : a ∈ smallS.cps
        · simp only [c3, not_true_eq_false, if_false]
          have i0 : okSign a = true := by unfold okSign; rw [decide_eq_true c3]; rfl
          have nb2 : nameB s = (a :: r).all okSign := by rw [nb, decide_eq_true c3, List.all_cons, i0]
          refine ws_loop _ (fun i ds h' => h' = h ∧ (∃ y, ds = [some (.str s), y]) ∧ ((a :: r).take i).all okSign = true) ⟨rfl, ⟨_, rfl⟩, rfl⟩ (fun _ _ _ _ => trivial) ?_ ?_
          · rintro i d ds h' hd ⟨rfl, ⟨y, rfl⟩, ha⟩
            obtain ⟨c, hc, rfl⟩ := sign_at hd
            have ok : okSign c = (decide (c ∈ smallS.cps) || decide (c ∈ figS.cps)) := rfl
            have ta := take_all hc ha
            by_cases s1 : c ∈ smallS.cps
            · have ok : okSign c = true := by rw [ok, decide_eq_true s1]; rfl
              rw [ok] at ta
              simpa [wp_v, s1] using ta
            · by_cases s2 : c ∈ figS.cps
              · have ok : okSign c = true := by rw [ok, decide_eq_true s2, Bool.or_true]
                rw [ok] at ta
                simpa [wp_v, s1, s2] using ta
              · have ok : okSign c = false := by rw [ok, decide_eq_false s1, decide_eq_false s2]; rfl
                have := not_all hc ok
                simp [wp_v, s1, s2, nb2, this, noloc]
          · rintro ds h' ⟨rfl, _, ha⟩
            have e : (D.str ⟨#[a]⟩ :: r.map fun c => D.str ⟨#[c]⟩).length = (a :: r).length := by simp
            rw [e, List.take_length] at ha
            exact ⟨List.take_length, by rw [nb2]; exact ha⟩
        · simp [c3, nb]
    · have d2 : ¬ (s.length : Int) ≤ 12 := by omega
      simp [d1, d2, nameB, c2]
  · have d1 : ¬ (1 : Int) ≤ s.length := by omega
    simp [d1, nameB, c1]
end DV
namespace DV
open PySem PySem.Spec PyProof.Rows L2
def insC (d : Nat) (r : D) : AO := .ins "Cabinet" [("kept", .loc d), ("root", r)]
section
variable {h : Hs} {c d : Nat} {r v : D}
theorem fld_kept (e : h[c]? = some (insC d r)) : fldF "Cabinet" "kept" (.loc c) h = some (.loc d, h) := by
  unfold fldF
  simp only [e, insC]
  rfl
theorem fld_root (e : h[c]? = some (insC d r)) : fldF "Cabinet" "root" (.loc c) h = some (r, h) := by
  unfold fldF
  simp only [e, insC]
  rfl
theorem set_root (e : h[c]? = some (insC d r)) : setFldF "Cabinet" "root" (.loc c) v h = some (h.set c (insC d v)) := by
  unfold setFldF
  simp only [e, insC]
  rfl
end
def mS (fs : List (Str × Tr)) : List (Key × D) := fs.map fun p => (.inr p.1, tD p.2)
def ksS (fs : List (Str × Tr)) : List Str := fs.map (·.1)
theorem mS_len (fs : List (Str × Tr)) : (mS fs).length = fs.length := by simp [mS]
theorem valS_mem {fs : List (Str × Tr)} {s : Str} {t : Tr} (nd : (ksS fs).Nodup) (m : (s, t) ∈ fs) : valD (mS fs) (.inr s) = some (tD t) := by
  induction fs with
  | nil => cases m
  | cons p fs ih =>
    unfold valD mS
    rw [List.map_cons, List.find?_cons]
    unfold ksS at nd
    rw [List.map_cons, List.nodup_cons] at nd
    rcases List.mem_cons.mp m with rfl | m
    · simp
    · have ne : p.1 ≠ s := fun z => nd.1 (by rw [z]; exact List.mem_map.mpr ⟨_, m, rfl⟩)
      have : decide ((Sum.inr p.1 : Key) = .inr s) = false := decide_eq_false fun z => ne (by injection z)
      simp only [this]
      exact ih nd.2 m
theorem valS_no {fs : List (Str × Tr)} {s : Str} (m : s ∉ ksS fs) : valD (mS fs) (.inr s) = none := by
  unfold valD mS
  rw [Option.map_eq_none_iff, List.find?_eq_none]
  intro p hp
  obtain ⟨q, hq, rfl⟩ := List.mem_map.mp hp
  have : (Sum.inr q.1 : Key) ≠ .inr s := fun z => m (by
    injection z with z
    rw [← z]; exact List.mem_map.mpr ⟨_, hq, rfl⟩)
  simpa using this
theorem valS_some {fs : List (Str × Tr)} {s : Str} (m : s ∈ ksS fs) : ∃ t, (s, t) ∈ fs := by
  obtain ⟨p, hp, rfl⟩ := List.mem_map.mp m
  exact ⟨p.2, hp⟩
theorem putS {fs : List (Str × Tr)} {s : Str} {t : Tr} (m : s ∉ ksS fs) : putD (mS fs) (.inr s) (tD t) = mS (fs ++ [(s, t)]) := by
  unfold putD
  have : ((mS fs).any fun p => decide (p.1 = (Sum.inr s : Key))) = false := by
    rw [List.any_eq_false]
    intro p hp
    obtain ⟨q, hq, rfl⟩ := List.mem_map.mp hp
    have : (Sum.inr q.1 : Key) ≠ .inr s := fun z => m (by
      injection z with z
      rw [← z]; exact List.mem_map.mpr ⟨_, hq, rfl⟩)
    simpa using this
  rw [this, if_neg Bool.false_ne_true]
  unfold mS
  simp
theorem keysS_mS : ∀ fs : List (Str × Tr), keysS (mS fs) = some (ksS fs)
  | [] => rfl
  | p :: fs => by
    show (keysS (mS fs)).map _ = _
    rw [keysS_mS fs]; rfl
/-- a cabinet at c, its forms at d -/
structure Cab (h : Hs) (c d : Nat) (fs : List (Str × Tr)) (H : Nat) : Prop where
  ex : ∃ rd, h[c]? = some (insC d rd) ∧ ((fs = [] ∧ rd = .non) ∨ ∃ b, BR h rd b ∧ b.wf ∧ b.names.Perm (ksS fs) ∧ b.height ≤ H)
  kept : h[d]? = some (.dct (mS fs))
  nd : (ksS fs).Nodup
  le : fs.length ≤ 60
  nm : ∀ x ∈ ksS fs, nameB x = true
theorem Cab.keep {h h' : Hs} {c d : Nat} {fs : List (Str × Tr)} {H : Nat} (C : Cab h c d fs H) (k : Keeps h h') (e1 : h'[c]? = h[c]?) (e2 : h'[d]? = h[d]?) : Cab h' c d fs H := by
  obtain ⟨⟨rd, e, r⟩, kk, nd, le, nmx⟩ := C
  refine ⟨⟨rd, by rw [e1]; exact e, ?_⟩, by rw [e2]; exact kk, nd, le, nmx⟩
  rcases r with r | ⟨b, r1, r2⟩
  · exact .inl r
  · exact .inr ⟨b, r1.keep k, r2⟩
theorem Cab.app {h : Hs} {c d : Nat} {fs : List (Str × Tr)} {H : Nat} (C : Cab h c d fs H) (q : Hs) : Cab (h ++ q) c d fs H := by
  obtain ⟨⟨rd, e, r⟩, kk, nd, le, nmx⟩ := C
  refine ⟨⟨rd, get_app e, ?_⟩, get_app kk, nd, le, nmx⟩
  rcases r with r | ⟨b, r1, r2⟩
  · exact .inl r
  · exact .inr ⟨b, r1.keep (Keeps.app _ _), r2⟩
def allLf (fs : List (Str × Tr)) : Prop := ∀ p ∈ fs, p.2 = tLf
theorem Cab.allA {h : Hs} {c d : Nat} {fs : List (Str × Tr)} {H : Nat} (C : Cab h c d fs H) (a : allLf fs) : DV.allA (mS fs) (ksS fs) := fun s hs => by
  obtain ⟨t, ht⟩ := valS_some hs
  have := a _ ht
  simp only at this
  rw [valS_mem C.nd ht, this]
section
variable {n c d H : Nat} {h : Hs} {fs : List (Str × Tr)} {s : Str} {t : Tr}
theorem nameB_len {s : Str} (e : nameB s = true) : s.length ≤ LIM := by
  obtain ⟨c, r, h1, h2, h3, h4⟩ := name_list.mp e
  have : s.length = s.cps.toList.length := by rw [Array.length_toList]; rfl
  rw [this, h1]
  unfold LIM
  simp
  omega
/-- a name that is none -/
theorem put_bad (C : Cab h c d fs H) (sl : s.length ≤ LIM) (b : nameB s = false) : F_Cabinet_put (n + 2) [.loc c, .str s, tD t] h = .exc "BadName" h := by
  have w : (F_Cabinet_put (n + 2) [.loc c, .str s, tD t] h).wp (fun _ _ => False) (fun e h' => e = "BadName" ∧ h' = h) := by
    rw [show F_Cabinet_put (n + 2) = _ from S_Cabinet_put (n + 1)]
    have nm := is_name_ok n h s sl
    rw [b] at nm
    rw [kRaw_f, wp_run]
    refine ⟨rfl, ?_⟩
    unfold m_Cabinet_put
    simp only [startD, List.map_cons, List.map_nil, List.length_cons, List.length_nil]
    simp [wp_v, nm, truD]
  cases q : F_Cabinet_put (n + 2) [.loc c, .str s, tD t] h with
  | ok d h' => rw [q] at w; exact w.elim
  | exc e h' => rw [q] at w; obtain ⟨rfl, rfl⟩ := w; rfl
  | bad => rw [q] at w; exact w.elim
theorem put_twice (C : Cab h c d fs H) (b : nameB s = true) (m : s ∈ ksS fs) : F_Cabinet_put (n + 2) [.loc c, .str s, tD t] h = .exc "Twice" h := by
  have w : (F_Cabinet_put (n + 2) [.loc c, .str s, tD t] h).wp (fun _ _ => False) (fun e h' => e = "Twice" ∧ h' = h) := by
    rw [show F_Cabinet_put (n + 2) = _ from S_Cabinet_put (n + 1)]
    have nm := is_name_ok n h s (nameB_len b)
    rw [b] at nm
    obtain ⟨⟨rd, e, r⟩, kk, nd, le, nmx⟩ := C
    have fk := fld_kept e
    obtain ⟨u, hu⟩ := valS_some m
    have ik := in_dct (k := .str s) kk rfl
    rw [valS_mem nd hu] at ik
    rw [kRaw_f, wp_run]
    refine ⟨rfl, ?_⟩
    unfold m_Cabinet_put
    simp only [startD, List.map_cons, List.map_nil, List.length_cons, List.length_nil]
    simp at ik
    simp [wp_v, nm, truD, fk, ik]
  cases q : F_Cabinet_put (n + 2) [.loc c, .str s, tD t] h with
  | ok d h' => rw [q] at w; exact w.elim
  | exc e h' => rw [q] at w; obtain ⟨rfl, rfl⟩ := w; rfl
  | bad => rw [q] at w; exact w.elim
theorem put_full (C : Cab h c d fs H) (b : nameB s = true) (m : s ∉ ksS fs) (z : 40 ≤ fs.length) : F_Cabinet_put (n + 2) [.loc c, .str s, tD t] h = .exc "TooLong" h := by
  have w : (F_Cabinet_put (n + 2) [.loc c, .str s, tD t] h).wp (fun _ _ => False) (fun e h' => e = "TooLong" ∧ h' = h) := by
    rw [show F_Cabinet_put (n + 2) = _ from S_Cabinet_put (n + 1)]
    have nm := is_name_ok n h s (nameB_len b)
    rw [b] at nm
    obtain ⟨⟨rd, e, r⟩, kk, nd, le, nmx⟩ := C
    have fk := fld_kept e
    have ik := in_dct (k := .str s) kk rfl
    rw [valS_no m] at ik
    have lk := len_dct kk
    rw [mS_len] at lk
    rw [kRaw_f, wp_run]
    refine ⟨rfl, ?_⟩
    unfold m_Cabinet_put
    simp only [startD, List.map_cons, List.map_nil, List.length_cons, List.length_nil]
    simp at ik
    have z' : (40 : Int) ≤ (fs.length : Int) := by omega
    simp [wp_v, nm, truD, fk, ik, lk, z']
  cases q : F_Cabinet_put (n + 2) [.loc c, .str s, tD t] h with
  | ok d h' => rw [q] at w; exact w.elim
  | exc e h' => rw [q] at w; obtain ⟨rfl, rfl⟩ := w; rfl
  | bad => rw [q] at w; exact w.elim
theorem names_pos : ∀ b : Bo, b.wf → 1 ≤ b.names.length
  | .leaf s, _ => by simp [Bo.names]
  | .knot [], w => by have := w.1; simp at this
  | .knot (b :: bs), w => by
    have := names_pos b w.2.2.1
    simp only [Bo.names, namesL, List.length_append]
    omega
def DoneQ (h : Hs) (c d : Nat) (fs : List (Str × Tr)) (H : Nat) (r : D) (h' : Hs) : Prop := r = .non ∧ Keeps h h' ∧ h.length ≤ h'.length ∧ Cab h' c d fs H
theorem put_new (C : Cab h c d fs H) (b : nameB s = true) (m : s ∉ ksS fs) (z : fs.length < 40) (hn : H + 8 ≤ n) (q : fs = [] ∨ (allLf fs ∧ t = tLf)) :
    (F_Cabinet_put (n + 2) [.loc c, .str s, tD t] h).wp (DoneQ h c d (fs ++ [(s, t)]) (H + 1)) xF := by
  rw [show F_Cabinet_put (n + 2) = _ from S_Cabinet_put (n + 1)]
  have nm := is_name_ok n h s (nameB_len b)
  rw [b] at nm
  have C0 := C
  obtain ⟨⟨rd, e, r⟩, kk, nd, le, nmx⟩ := C
  have fk := fld_kept e
  have ik := in_dct (k := .str s) kk rfl
  rw [valS_no m] at ik
  have lk := len_dct kk
  rw [mS_len] at lk
  have sa := set_dct (k := .str s) (v := tD t) kk rfl (by rw [mS_len]; omega)
  rw [putS m] at sa
  obtain ⟨h1, hh1⟩ : ∃ h1, h1 = h.set d (.dct (mS (fs ++ [(s, t)]))) := ⟨_, rfl⟩
  rw [← hh1] at sa
  have cd : c ≠ d := fun w => by
    rw [w, kk] at e
    cases e
  have dl : d < h.length := (List.getElem?_eq_some_iff.mp kk).1
  have e1 : h1[c]? = some (insC d rd) := by rw [hh1, List.getElem?_set_ne (Ne.symm cd)]; exact e
  have k1 : h1[d]? = some (.dct (mS (fs ++ [(s, t)]))) := by rw [hh1]; simp [dl]
  have kp1 : Keeps h h1 := by rw [hh1]; exact Keeps.set kk fun _ w => by cases w
  have l1 : h1.length = h.length := by rw [hh1, List.length_set]
  have nd2 : (ksS (fs ++ [(s, t)])).Nodup := by
    unfold ksS
    rw [List.map_append, List.nodup_append]
    exact ⟨nd, by simp, fun x hx y hy => by
      have : y = s := by simpa using hy
      subst this
      exact fun w => m (w ▸ hx)⟩
  have pk : (ksS (fs ++ [(s, t)])) = ksS fs ++ [s] := by unfold ksS; simp
  have nm2 : ∀ x ∈ ksS (fs ++ [(s, t)]), nameB x = true := fun x hx => by
    rw [pk] at hx
    rcases List.mem_append.mp hx with hx | hx
    · exact nmx x hx
    · cases List.mem_singleton.mp hx; exact b
  have fk1 := fld_kept e1
  have fr1 := fld_root e1
  have z' : ¬ (40 : Int) ≤ (fs.length : Int) := by omega
  clear hh1
  rw [kRaw_f, wp_run]
  refine ⟨rfl, ?_⟩
  unfold m_Cabinet_put
  simp only [startD, List.map_cons, List.map_nil, List.length_cons, List.length_nil]
  simp only [List.set_cons_succ, List.set_cons_zero, List.replicate, List.cons_append, List.nil_append]
  refine st_guard h (by simp [wp_v, nm, truD]) ?_
  refine st_guard h (by simp at ik; simp [wp_v, fk, ik]) ?_
  refine st_guard h (by simp [wp_v, fk, lk, z']) ?_
  refine st_seq [some (.loc c), some (.str s), some (tD t)] h1 (by
    generalize tD t = T at *
    simp [wp_v, fk, sa]) ?_
  have leafR : ∀ g, BR g (.tup [.str "leaf", .str s]) (.leaf s) := fun g => by unfold BR; rfl
  rcases r with ⟨f0, rfl⟩ | ⟨bo, r1, r2, r3, r4⟩
  · have sr := set_root (v := .tup [.str "leaf", .str s]) e1
    have kp2 : Keeps h1 (h1.set c (insC d (.tup [.str "leaf", .str s]))) := Keeps.set e1 fun _ w => by cases w
    have cl : c < h1.length := (List.getElem?_eq_some_iff.mp e1).1
    have fin : DoneQ h c d (fs ++ [(s, t)]) (H + 1) .non (h1.set c (insC d (.tup [.str "leaf", .str s]))) := by
      refine ⟨rfl, kp1.trans kp2, by rw [List.length_set]; omega, ⟨⟨_, by simp [cl], .inr ⟨.leaf s, leafR _, trivial, by rw [pk, f0]; simp [Bo.names, ksS], by simp [Bo.height]⟩⟩, ?_, nd2, by simp; omega, nm2⟩⟩
      rw [List.getElem?_set_ne cd]
      exact k1
    have isn : ∀ h, isNF .non .non h = some (.bl true, h) := fun _ => rfl
    generalize tD t = T at *
    simp [wp_v, fr1, isn, sr]
    exact fin
  · have ne0 : fs ≠ [] := fun w => by
      rw [w] at r3
      have := r3.length_eq
      have hp := names_pos bo r2
      simp [ksS] at this
      rw [this] at hp
      simp at hp
    have q : allLf fs ∧ t = tLf := by
      rcases q with q | q
      · exact absurd q ne0
      · exact q
    obtain ⟨qa, qt⟩ := q
    have va : valD (mS (fs ++ [(s, t)])) (.inr s) = some (tD tLf) := by rw [valS_mem nd2 (t := t) (by simp), qt]
    have aa : DV.allA (mS (fs ++ [(s, t)])) bo.names := fun x hx => by
      have : x ∈ ksS fs := r3.mem_iff.mp hx
      obtain ⟨u, hu⟩ := valS_some this
      rw [valS_mem nd2 (t := u) (by simp [hu])]
      have := qa _ hu
      simp only at this
      rw [this]
    obtain ⟨d', h2, eh, bs, q, rfl, rb, wb, pb, hb⟩ := R.wp_ex (hung_ok H (n + 1) bo h1 h1 rd (.tup [.str "leaf", .str s]) s d (mS (fs ++ [(s, t)])) r4 (by omega) rfl (Keeps.refl _) (r1.keep kp1) r2 leafR k1 aa va)
    have e2 : (h1 ++ q)[c]? = some (insC d rd) := get_app e1
    have sr := set_root (v := d') e2
    have kp2 : Keeps (h1 ++ q) ((h1 ++ q).set c (insC d d')) := Keeps.set e2 fun _ w => by cases w
    have cl : c < (h1 ++ q).length := (List.getElem?_eq_some_iff.mp e2).1
    have fin : DoneQ h c d (fs ++ [(s, t)]) (H + 1) .non ((h1 ++ q).set c (insC d d')) := by
      refine ⟨rfl, (kp1.trans (Keeps.app _ _)).trans kp2, by rw [List.length_set, List.length_append]; omega, ⟨⟨_, List.getElem?_set_self cl, .inr ⟨.knot bs, rb.keep kp2, wb, ?_, by omega⟩⟩, ?_, nd2, by simp; omega, nm2⟩⟩
      · rw [pk]
        exact pb.trans (r3.append_right _)
      · rw [List.getElem?_set_ne cd]
        exact get_app k1
    have isn : ∀ h, isNF rd .non h = some (.bl false, h) := fun h => by
      obtain ⟨i1, i2⟩ := r1.some
      show some (D.bl (isNon rd), h) = _
      rw [i1]
    generalize tD t = T at *
    simp [wp_v, fr1, fk1, isn, eh, sr]
    exact fin
end
end DV
namespace DV
open PySem PySem.Spec PyProof.Rows L2
def outS (fs : List (Str × Tr)) (s : Str) : List (Str × Tr) := fs.filter fun p => decide (p.1 ≠ s)
theorem dropD_mS (s : Str) : ∀ fs : List (Str × Tr), dropD (mS fs) (.inr s) = mS (outS fs s)
  | [] => rfl
  | p :: fs => by
    have ih := dropD_mS s fs
    unfold dropD mS outS at ih ⊢
    by_cases c : p.1 = s
    · have c1 : decide ((Sum.inr p.1 : Key) ≠ .inr s) = false := decide_eq_false fun z => z (by rw [c])
      have c2 : decide (p.1 ≠ s) = false := decide_eq_false fun z => z c
      rw [List.map_cons, List.filter_cons, List.filter_cons, c1, c2]
      simpa using ih
    · have c1 : decide ((Sum.inr p.1 : Key) ≠ .inr s) = true := decide_eq_true fun z => c (by injection z)
      have c2 : decide (p.1 ≠ s) = true := decide_eq_true c
      rw [List.map_cons, List.filter_cons, List.filter_cons, c1, c2]
      simp only [if_true, List.map_cons]
      rw [ih]
theorem ksS_drop (s : Str) : ∀ fs : List (Str × Tr), ksS (outS fs s) = without_ s (ksS fs)
  | [] => rfl
  | p :: fs => by
    have ih := ksS_drop s fs
    unfold ksS outS without_ at ih ⊢
    by_cases c : p.1 = s
    · simp [c]
      simpa using ih
    · simp [c]
      simpa using ih
theorem drop_nil {fs : List (Str × Tr)} {s : Str} (e : ksS fs = [s]) : outS fs s = [] := by
  have h := ksS_drop s fs
  rw [e] at h
  have : without_ s [s] = [] := by simp [without_]
  rw [this] at h
  unfold ksS at h
  simpa using h
section
variable {n c d H : Nat} {h : Hs} {fs : List (Str × Tr)} {s : Str} {t : Tr}
theorem names_two : ∀ bs : List Bo, (Bo.knot bs).wf → 2 ≤ (namesL bs).length
  | [], w => by have := w.1; simp at this
  | [_], w => by have := w.1; simp at this
  | a :: b :: bs, w => by
    have h1 := names_pos a w.2.2.1
    have h2 := names_pos b w.2.2.2.1
    simp only [namesL, List.length_append]
    omega
theorem root_cut (C : Cab h c d fs H) (m : s ∈ ksS fs) (q : fs.length ≤ 1 ∨ allLf fs) (hn : H + 6 ≤ n) : ∃ rd b, h[c]? = some (insC d rd) ∧ BR h rd b ∧ b.names.Perm (ksS fs) ∧ b.wf ∧ b.height ≤ H ∧ (F_cut_off n [rd, .str s, .loc d] h).wp (CutQ h h s b) xF := by
  have C0 := C
  obtain ⟨⟨rd, e, r⟩, kk, nd, le, nmx⟩ := C
  rcases r with ⟨rfl, _⟩ | ⟨b, r1, r2, r3, r4⟩
  · cases m
  refine ⟨rd, b, e, r1, r3, r2, r4, ?_⟩
  have so : ∀ x ∈ b.names, PyData.strOk x = true := fun x hx => strOk_name (nmx x (r3.mem_iff.mp hx))
  have ss : PyData.strOk s = true := strOk_name (nmx s m)
  have bl := r3.length_eq
  have kl : (ksS fs).length = fs.length := by simp [ksS]
  cases b with
  | leaf s0 =>
    have es : s0 = s := by
      have l1 : (ksS fs).length = 1 := by rw [← bl]; rfl
      have := r3.symm.mem_iff.mp m
      have : s = s0 := by simpa [Bo.names] using this
      exact this.symm
    subst es
    obtain ⟨n, rfl⟩ : ∃ k, n = k + 1 := ⟨n - 1, by omega⟩
    rw [S_cut_off, kRaw_f, wp_run]
    unfold BR at r1
    subst r1
    refine ⟨rfl, ?_⟩
    unfold m_cut_off
    simp only [startD, List.map_cons, List.map_nil, List.length_cons, List.length_nil]
    have es := fun h => eq_strs (h := h) ss ss
    have fin : CutQ h h s0 (.leaf s0) .non h := ⟨[], by simp, .inl ⟨rfl, rfl⟩⟩
    simp [wp_v, e_leaf, es]
    exact fin
  | knot bs =>
    have two := names_two bs r2
    have bl : (namesL bs).length = (ksS fs).length := bl
    have a : allLf fs := by
      rcases q with q | q
      · omega
      · exact q
    have aa : DV.allA (mS fs) (Bo.knot bs).names := fun x hx => C0.allA a x (r3.mem_iff.mp hx)
    exact cut_ok H n (.knot bs) h h rd s d (mS fs) r4 hn rfl (Keeps.refl _) r1 r2 kk aa (r3.symm.nodup nd) (by show (namesL bs).length < 64; omega) so ss
theorem take_none (C : Cab h c d fs H) (m : s ∉ ksS fs) : F_Cabinet_take (n + 1) [.loc c, .str s] h = .exc "NoForm" h := by
  have w : (F_Cabinet_take (n + 1) [.loc c, .str s] h).wp (fun _ _ => False) (fun e h' => e = "NoForm" ∧ h' = h) := by
    rw [S_Cabinet_take]
    obtain ⟨⟨rd, e, r⟩, kk, nd, le, nmx⟩ := C
    have fk := fld_kept e
    have ik := nin_dct (k := .str s) kk rfl
    rw [valS_no m] at ik
    rw [kRaw_f, wp_run]
    refine ⟨rfl, ?_⟩
    unfold m_Cabinet_take
    simp only [startD, List.map_cons, List.map_nil, List.length_cons, List.length_nil]
    simp at ik
    simp [wp_v, fk, ik]
  cases q : F_Cabinet_take (n + 1) [.loc c, .str s] h with
  | ok d h' => rw [q] at w; exact w.elim
  | exc e h' => rw [q] at w; obtain ⟨rfl, rfl⟩ := w; rfl
  | bad => rw [q] at w; exact w.elim
theorem form_none (C : Cab h c d fs H) (m : s ∉ ksS fs) : F_Cabinet_form_of (n + 1) [.loc c, .str s] h = .exc "NoForm" h := by
  have w : (F_Cabinet_form_of (n + 1) [.loc c, .str s] h).wp (fun _ _ => False) (fun e h' => e = "NoForm" ∧ h' = h) := by
    rw [S_Cabinet_form_of]
    obtain ⟨⟨rd, e, r⟩, kk, nd, le, nmx⟩ := C
    have fk := fld_kept e
    have ik := nin_dct (k := .str s) kk rfl
    rw [valS_no m] at ik
    rw [wp_pure, wp_run]
    refine ⟨rfl, ?_⟩
    unfold m_Cabinet_form_of
    simp only [startD, List.map_cons, List.map_nil, List.length_cons, List.length_nil]
    simp at ik
    simp [wp_v, fk, ik]
  cases q : F_Cabinet_form_of (n + 1) [.loc c, .str s] h with
  | ok d h' => rw [q] at w; exact w.elim
  | exc e h' => rw [q] at w; obtain ⟨rfl, rfl⟩ := w; rfl
  | bad => rw [q] at w; exact w.elim
theorem form_ok (C : Cab h c d fs H) (m : (s, t) ∈ fs) : F_Cabinet_form_of (n + 1) [.loc c, .str s] h = .ok (tD t) h := by
  rw [S_Cabinet_form_of]
  refine R.wp_eq.mp ?_
  obtain ⟨⟨rd, e, r⟩, kk, nd, le, nmx⟩ := C
  have fk := fld_kept e
  have ik := nin_dct (k := .str s) kk rfl
  have ix := ix_dct (k := .str s) kk rfl
  rw [valS_mem nd m] at ik ix
  have nl := noloc_tD t
  rw [wp_pure, wp_run]
  refine ⟨rfl, ?_⟩
  unfold m_Cabinet_form_of
  simp only [startD, List.map_cons, List.map_nil, List.length_cons, List.length_nil]
  generalize tD t = T at *
  simp at ik ix
  simp [wp_v, fk, ik, ix, nl]
theorem take_ok (C : Cab h c d fs H) (m : s ∈ ksS fs) (q : fs.length ≤ 1 ∨ allLf fs) (hn : H + 6 ≤ n) : (F_Cabinet_take (n + 1) [.loc c, .str s] h).wp (DoneQ h c d (outS fs s) H) xF := by
  obtain ⟨rd, b, e, r1, r3, r2, r4, cw⟩ := root_cut C m q hn
  obtain ⟨d', h2, ec, q2, rfl, cq⟩ := R.wp_ex cw
  rw [S_Cabinet_take, kRaw_f, wp_run]
  refine ⟨rfl, ?_⟩
  unfold m_Cabinet_take
  simp only [startD, List.map_cons, List.map_nil, List.length_cons, List.length_nil]
  simp only [List.set_cons_succ, List.set_cons_zero, List.replicate, List.cons_append, List.nil_append]
  have kk := C.kept
  have nd := C.nd
  obtain ⟨t, ht⟩ := valS_some m
  have fk := fld_kept e
  have fr := fld_root e
  have ik := nin_dct (k := .str s) kk rfl
  rw [valS_mem nd ht] at ik
  have cd : c ≠ d := fun w => by
    rw [w, kk] at e
    cases e
  have e2 : (h ++ q2)[c]? = some (insC d rd) := get_app e
  have k2 : (h ++ q2)[d]? = some (.dct (mS fs)) := get_app kk
  have sr := set_root (v := d') e2
  have cl : c < (h ++ q2).length := (List.getElem?_eq_some_iff.mp e2).1
  obtain ⟨h3, hh3⟩ : ∃ h3, h3 = (h ++ q2).set c (insC d d') := ⟨_, rfl⟩
  have l3 : h3.length = (h ++ q2).length := by rw [hh3, List.length_set]
  have e3 : h3[c]? = some (insC d d') := by rw [hh3]; exact List.getElem?_set_self cl
  have k3 : h3[d]? = some (.dct (mS fs)) := by rw [hh3, List.getElem?_set_ne cd]; exact k2
  have kp3 : Keeps (h ++ q2) h3 := by rw [hh3]; exact Keeps.set e2 fun _ w => by cases w
  have dl : d < h3.length := (List.getElem?_eq_some_iff.mp k3).1
  rw [← hh3] at sr
  have fk3 := fld_kept e3
  have ck : ckDct (.loc d) h3 = true := by unfold ckDct; simp only [k3]
  have pop : dpopF (.loc d) [.str s] h3 = some (tD t, h3.set d (.dct (mS (outS fs s)))) := by
    unfold dpopF
    simp only [k3, key_str, Option.bind_some, valS_mem nd ht, dropD_mS]
  have kp4 : Keeps h3 (h3.set d (.dct (mS (outS fs s)))) := Keeps.set k3 fun _ w => by cases w
  have fin : DoneQ h c d (outS fs s) H .non (h3.set d (.dct (mS (outS fs s)))) := by
    refine ⟨rfl, ((Keeps.app _ _).trans kp3).trans kp4, by rw [List.length_set, l3, List.length_append]; omega, ⟨⟨d', ?_, ?_⟩, List.getElem?_set_self dl, ?_, ?_, ?_⟩⟩
    · rw [List.getElem?_set_ne (Ne.symm cd)]; exact e3
    · rcases cq with ⟨rfl, cn⟩ | ⟨b', rb, wb, pb, hb⟩
      · refine .inl ⟨?_, rfl⟩
        rw [cn] at r3
        exact drop_nil (List.perm_singleton.mp r3.symm)
      · refine .inr ⟨b', (rb.keep kp3).keep kp4, wb, ?_, by omega⟩
        rw [ksS_drop]
        exact pb.trans (r3.filter _)
    · rw [ksS_drop]
      exact nd.sublist List.filter_sublist
    · exact Nat.le_trans (List.length_filter_le _ _) C.le
    · intro x hx
      rw [ksS_drop] at hx
      exact C.nm x (mem_without hx)
  clear hh3
  refine st_guard h (by simp at ik; simp [wp_v, fk, ik]) ?_
  generalize tD t = T at *
  simp [wp_v, fk, fr, ec, sr, fk3, ck, pop]
  exact fin
theorem cnames_ok (C : Cab h c d fs H) : F_Cabinet_names (n + 1) [.loc c] h = .ok (.loc h.length) (h ++ [.lst ((srtS (ksS fs)).map D.str)]) := by
  rw [S_Cabinet_names]
  refine R.wp_eq.mp (wp_new ?_)
  obtain ⟨⟨rd, e, r⟩, kk, nd, le, nmx⟩ := C
  have fk := fld_kept e
  have so : sortSF [.loc d] h = some (.loc h.length, h ++ [.lst ((srtS (ksS fs)).map D.str)]) := by
    unfold sortSF
    simp only [kk, keysS_mS, Option.bind_some]
    rw [if_pos (by unfold ksS; rw [List.length_map]; omega)]
  have nl : nolocO (.lst ((srtS (ksS fs)).map D.str)) = true := noloc_strs _
  rw [wp_run]
  refine ⟨rfl, ?_⟩
  unfold m_Cabinet_names
  simp only [startD, List.map_cons, List.map_nil, List.length_cons, List.length_nil]
  simp [wp_v, fk, so, nl]
end
end DV
namespace DV
open PySem PySem.Spec PyProof.Rows L2
theorem isnn_loc {k : Nat} {h : Hs} : isnNF (.loc k) .non h = some (.bl true, h) := rfl
theorem fit_bl {k : Int} {t : Tr} : fitU (.bl k) t [] = (true, [(k, t)]) := by
  unfold fitU
  have : mAt ([] : List (Int × Tr)) k = none := rfl
  rw [this]
  rfl
theorem fitting_bl (n : Nat) (h : Hs) (k : Int) (t : Tr) (ht : t.eqk) : ∃ o, F_fitting (n + 3) [tD (.bl k), tD t] h = .ok (.loc h.length) (h ++ [o]) := by
  refine ⟨.dct (mD tD [(k, t)]), ?_⟩
  rw [fitting_ok (n + 2) h (.bl k) t ht trivial (by simp [Tr.depth]) (by simp [Tr.knots]), fit_bl]
  rfl
theorem ok_all : PyData.strOk "all" = true := by decide +kernel
theorem ok_one : PyData.strOk "one" = true := by decide +kernel
theorem e_all {h : Hs} : eqF (.str "all") (.str "all") h = some (.bl true, h) := by rw [eq_strs ok_all ok_all, decide_eq_true rfl]
theorem e_one {h : Hs} : eqF (.str "one") (.str "one") h = some (.bl true, h) := by rw [eq_strs ok_one ok_one, decide_eq_true rfl]
theorem e_oa {h : Hs} : eqF (.str "one") (.str "all") h = some (.bl false, h) := by rw [eq_strs ok_one ok_all, decide_eq_false (by decide +kernel)]
section
variable {n c d H : Nat} {h : Hs} {fs : List (Str × Tr)}
theorem answer_one (n : Nat) (h : Hs) (c l : Nat) (s : Str) (e : h[l]? = some (.lst [.tup [.str "one", .str s, .bl true]])) : (F_Cabinet_answer_v3 (n + 1) [.loc c, .loc l] h).wp (fun r h' => ∃ x q, r = .tup [.loc x, .loc l] ∧ h' = h ++ q ∧ h'[x]? = some (.lst [.str s])) xF := by
  rw [S_Cabinet_answer_v3, kRaw_f, wp_run]
  refine ⟨rfl, ?_⟩
  unfold m_Cabinet_answer_v3
  simp only [startD, List.map_cons, List.map_nil, List.length_cons, List.length_nil]
  simp only [List.set_cons_succ, List.set_cons_zero, List.replicate, List.cons_append, List.nil_append]
  obtain ⟨rw_, hrw⟩ : ∃ rw_, rw_ = D.tup [.str "one", .str s, .bl true] := ⟨_, rfl⟩
  have k0 : ∀ h, ixF rw_ (.int 0) h = some (.str "one", h) := fun h => by rw [hrw]; rfl
  have k1 : ∀ h, ixF rw_ (.int 1) h = some (.str s, h) := fun h => by rw [hrw]; rfl
  have k2 : ∀ h, ixF rw_ (.int 2) h = some (.bl true, h) := fun h => by rw [hrw]; rfl
  rw [← hrw] at e
  clear hrw
  have it := its_lst (h := h ++ [AO.lst []]) (get_app e)
  refine st_set (.loc h.length) (h ++ [.lst []]) (by simp [wp_v]) ?_
  simp only [List.set_cons_succ, List.set_cons_zero]
  refine st_for [rw_] (fun h' => h'[l]? = some (.lst [rw_])) (h ++ [.lst []]) (fun i ds h' => ∃ (y : Option D), h' = h ++ [.lst (if i = 0 then [] else [.str s])] ∧ ds = [some (.loc c), some (.loc l), some (.loc h.length), y]) (by simp [wp_v, it]) ⟨none, rfl, rfl⟩ (fun i ds h' hj => by obtain ⟨y, rfl, _⟩ := hj; exact get_app e) ?_ ?_
  · intro i d ds h' hi hj
    obtain ⟨y, rfl, rfl⟩ := hj
    have i0 : i = 0 := by
      have := (List.getElem?_eq_some_iff.mp hi).1
      simp at this
      omega
    subst i0
    cases hi
    have ck := ck_lst (h := h ++ [AO.lst []]) (l := h.length) (xs := []) (by simp)
    have ap := append_lst (h := h ++ [AO.lst []]) (l := h.length) (xs := []) (v := .str s) (by simp) (by simp)
    simp at ap
    simp [wp_v, k0, k1, k2, e_oa, e_one, truD, ck, ap]
  · rintro ds h' ⟨y, rfl, rfl⟩
    have so := sortS_lst (h := h ++ [.lst [.str s]]) (l := h.length) (ss := [s]) (by simp) (by simp)
    have s1 : srtS [s] = [s] := srtS_uniq (srtS_perm [s]) (srtS_sorted [s]) (List.pairwise_singleton _ _)
    rw [s1] at so
    simp at so
    simp [wp_v, so]
theorem answer_all (n : Nat) (h : Hs) (c l m : Nat) (ss : List Str) (e : h[l]? = some (.lst [.tup [.str "all", .loc m]])) (em : h[m]? = some (.lst (ss.map D.str))) (hz : ss.length < 64) : (F_Cabinet_answer_v3 (n + 1) [.loc c, .loc l] h).wp (fun r h' => ∃ x q, r = .tup [.loc x, .loc l] ∧ h' = h ++ q ∧ h'[x]? = some (.lst ((srtS ss).map D.str))) xF := by
  rw [S_Cabinet_answer_v3, kRaw_f, wp_run]
  refine ⟨rfl, ?_⟩
  unfold m_Cabinet_answer_v3
  simp only [startD, List.map_cons, List.map_nil, List.length_cons, List.length_nil]
  simp only [List.set_cons_succ, List.set_cons_zero, List.replicate, List.cons_append, List.nil_append]
  obtain ⟨rw_, hrw⟩ : ∃ rw_, rw_ = D.tup [.str "all", .loc m] := ⟨_, rfl⟩
  have k0 : ∀ h, ixF rw_ (.int 0) h = some (.str "all", h) := fun h => by rw [hrw]; rfl
  have k1 : ∀ h, ixF rw_ (.int 1) h = some (.loc m, h) := fun h => by rw [hrw]; rfl
  rw [← hrw] at e
  clear hrw
  have it := its_lst (h := h ++ [AO.lst []]) (get_app e)
  refine st_set (.loc h.length) (h ++ [.lst []]) (by simp [wp_v]) ?_
  simp only [List.set_cons_succ, List.set_cons_zero]
  refine st_for [rw_] (fun h' => h'[l]? = some (.lst [rw_])) (h ++ [.lst []]) (fun i ds h' => ∃ (y : Option D), h' = h ++ (if i = 0 then [.lst []] else [.lst [], .lst (ss.map D.str)]) ∧ ds = [some (.loc c), some (.loc l), some (.loc (h.length + (if i = 0 then 0 else 1))), y]) (by simp [wp_v, it]) ⟨none, rfl, rfl⟩ (fun i ds h' hj => by obtain ⟨y, rfl, _⟩ := hj; exact get_app e) ?_ ?_
  · intro i d ds h' hi hj
    obtain ⟨y, rfl, rfl⟩ := hj
    have i0 : i = 0 := by
      have := (List.getElem?_eq_some_iff.mp hi).1
      simp at this
      omega
    subst i0
    cases hi
    have ad := add_lsts (h := h ++ [AO.lst []]) (i := h.length) (j := m) (xs := []) (ys := ss.map D.str) (by simp) (get_app em) (by simp; omega)
    simp at ad
    simp [wp_v, k0, k1, e_all, ad]
  · rintro ds h' ⟨y, rfl, rfl⟩
    have so := sortS_lst (h := h ++ [.lst [], .lst (ss.map D.str)]) (l := h.length + 1) (ss := ss) (by simp) hz
    simp at so
    simp [wp_v, so]
def BelowQ (h : Hs) (fs : List (Str × Tr)) (r : D) (h' : Hs) : Prop := ∃ x y q, r = .tup [.loc x, .loc y] ∧ h' = h ++ q ∧ h'[x]? = some (.lst ((srtS (ksS fs)).map D.str))
theorem below_ok (C : Cab h c d fs H) (k : Int) (hn : H ≤ n) (ok : ∀ p ∈ fs, p.2.eqk) : (F_Cabinet_below_v4 (n + 5) [.loc c, tD (.bl k)] h).wp (BelowQ h fs) xF := by
  rw [show F_Cabinet_below_v4 (n + 5) = _ from S_Cabinet_below_v4 (n + 4), kRaw_f, wp_run]
  refine ⟨rfl, ?_⟩
  unfold m_Cabinet_below_v4
  simp only [startD, List.map_cons, List.map_nil, List.length_cons, List.length_nil]
  simp only [List.set_cons_succ, List.set_cons_zero, List.replicate, List.cons_append, List.nil_append]
  obtain ⟨⟨rd, e, r⟩, kk, nd, le, nmx⟩ := C
  have fr := fld_root e
  have eI : h[c]? = some (.ins "Cabinet" [("kept", .loc d), ("root", rd)]) := e
  have lk1 : List.lookup (Str.ofString "rows_below") [((Str.ofString "kept"), D.loc d), ((Str.ofString "root"), rd)] = none := rfl
  have lk2 : List.lookup (Str.ofString "answer") [((Str.ofString "kept"), D.loc d), ((Str.ofString "root"), rd)] = none := rfl
  rcases r with ⟨f0, rfl⟩ | ⟨b, r1, r2, r3, r4⟩
  · have isn : ∀ h, isNF .non .non h = some (.bl true, h) := fun _ => rfl
    have s0 : srtS (ksS fs) = [] := by
      rw [f0]
      have := (srtS_perm (ksS ([] : List (Str × Tr)))).length_eq
      exact List.eq_nil_of_length_eq_zero this
    have fin : BelowQ h fs (.tup [.loc h.length, .loc (h.length + 1)]) (h ++ [.lst [], .lst []]) := ⟨_, _, _, rfl, rfl, by rw [s0]; simp⟩
    generalize tD (.bl k) = T at *
    simp [wp_v, fr, isn]
    exact fin
  · obtain ⟨i1, i2⟩ := r1.some
    have isn : ∀ h, isNF rd .non h = some (.bl false, h) := fun h => by
      show some (D.bl (isNon rd), h) = _
      rw [i1]
    refine st_guard h (by simp [wp_v, fr, isn]) ?_
    have rows : ∃ l q, F_Cabinet_rows_below_v4 (n + 4) [.loc c, rd, tD (.bl k)] h = .ok (.loc l) (h ++ q) ∧ (F_Cabinet_answer_v3 (n + 4) [.loc c, .loc l] (h ++ q)).wp (fun r h' => ∃ x q', r = .tup [.loc x, .loc l] ∧ h' = h ++ q ++ q' ∧ h'[x]? = some (.lst ((srtS (ksS fs)).map D.str))) xF := by
      rw [show F_Cabinet_rows_below_v4 (n + 4) = _ from S_Cabinet_rows_below_v4 (n + 3)]
      cases b with
      | leaf s0 =>
        have sm_ : s0 ∈ ksS fs := r3.mem_iff.mp (by simp [Bo.names])
        obtain ⟨t, ht⟩ := valS_some sm_
        have fk := fld_kept e
        have ix := ix_dct (k := .str s0) kk rfl
        rw [valS_mem nd ht] at ix
        have ix : ixF (.loc d) (.str s0) h = some (tD t, h) := ix
        obtain ⟨o, fi⟩ := fitting_bl n h k t (ok _ ht)
        have s1 : srtS (ksS fs) = [s0] := by
          have p : (ksS fs).Perm [s0] := r3.symm
          rw [srtS_congr p]
          exact srtS_uniq (srtS_perm [s0]) (srtS_sorted [s0]) (List.pairwise_singleton _ _)
        have an := answer_one (n + 3) (h ++ [o, .lst [.tup [.str "one", .str s0, .bl true]]]) c (h.length + 1) s0 (by simp)
        refine ⟨h.length + 1, [o, .lst [.tup [.str "one", .str s0, .bl true]]], ?_, ?_⟩
        · refine R.wp_eq.mp ?_
          rw [kRaw_f, wp_run]
          refine ⟨rfl, ?_⟩
          unfold BR at r1
          subst r1
          unfold m_Cabinet_rows_below_v4
          simp only [startD, List.map_cons, List.map_nil, List.length_cons, List.length_nil]
          generalize tD (.bl k) = T at *
          generalize tD t = U at *
          simp [wp_v, e_leaf, fk, ix, fi, isnn_loc]
        · rw [s1]
          exact an
      | knot bs =>
        have r0 := r1
        unfold BR at r1
        obtain ⟨l, ds, rfl, el, rb⟩ := r1
        obtain ⟨o, fi⟩ := fitting_bl n h k tLf ⟨sok_lf, by rw [de_lf]; omega⟩
        have l64 : (Bo.knot bs).names.length < 64 := by
          have := r3.length_eq
          have kl : (ksS fs).length = fs.length := by simp [ksS]
          omega
        obtain ⟨ss, en, ps⟩ := names_on_ok (n + 3) (.knot bs) (h ++ [o]) _ (r0.keep (Keeps.app _ _)) (by omega) l64
        have s1 : srtS (ksS fs) = srtS ss := srtS_congr (r3.symm.trans ps.symm)
        have an := answer_all (n + 3) (h ++ [o, .lst (ss.map D.str), .lst [.tup [.str "all", .loc (h.length + 1)]]]) c (h.length + 2) (h.length + 1) ss (by simp) (by simp) (by have := ps.length_eq; omega)
        refine ⟨h.length + 2, [o, .lst (ss.map D.str), .lst [.tup [.str "all", .loc (h.length + 1)]]], ?_, ?_⟩
        · refine R.wp_eq.mp ?_
          rw [kRaw_f, wp_run]
          refine ⟨rfl, ?_⟩
          obtain ⟨dkt, hdk⟩ : ∃ dkt, dkt = D.tup [.str "knot", tD tLf, .loc l] := ⟨_, rfl⟩
          have k0 : ∀ h, ixF dkt (.int 0) h = some (.str "knot", h) := fun h => by rw [hdk]; rfl
          have k1 : ∀ h, ixF dkt (.int 1) h = some (tD tLf, h) := fun h => by rw [hdk]; rfl
          rw [← hdk] at en ⊢
          clear hdk
          unfold m_Cabinet_rows_below_v4
          simp only [startD, List.map_cons, List.map_nil, List.length_cons, List.length_nil]
          generalize AO.lst (ss.map D.str) = O2 at *
          generalize tD (.bl k) = T at *
          generalize tD tLf = U at *
          simp at en
          simp [wp_v, e_knot, k0, k1, fi, isnn_loc, en]
        · rw [s1]
          exact an
    obtain ⟨l, q, er, an⟩ := rows
    have wp : (F_Cabinet_answer_v3 (n + 4) [.loc c, .loc l] (h ++ q)).wp (BelowQ h fs) xF := R.wp_mono an (by
      rintro r h' ⟨x, q', rfl, rfl, g⟩
      exact ⟨x, l, q ++ q', rfl, by simp, g⟩) (fun _ _ z => z)
    generalize tD (.bl k) = T at *
    simp [-List.lookup_eq_none_iff, wp_v, eI, lk1, lk2, fr, er]
    exact wp
end
end DV
namespace DV
open PySem PySem.Spec PyProof.Rows L2
section
variable {n c d H : Nat} {h : Hs} {fs : List (Str × Tr)} {s : Str} {t u w : Tr} {p : List Int}
theorem lkC {m : Str} {d : Nat} {rd : D} (h1 : ¬ m = "kept") (h2 : ¬ m = "root") : List.lookup m [(("kept" : Str), D.loc d), (("root" : Str), rd)] = none := by
  simp [List.lookup, beq_eq_false_iff_ne.mpr h1, beq_eq_false_iff_ne.mpr h2]
theorem exc_of_wp {F : R D} {E : Str} {h : Hs} (w : F.wp (fun _ _ => False) (fun e h' => e = E ∧ h' = h)) : F = .exc E h := by
  cases q : F with
  | ok d h' => rw [q] at w; exact w.elim
  | exc e h' => rw [q] at w; obtain ⟨rfl, rfl⟩ := w; rfl
  | bad => rw [q] at w; exact w.elim
theorem change_none (C : Cab h c d fs H) (m : s ∉ ksS fs) : F_Cabinet_change_v6 (n + 2) [.loc c, .str s, .tup (plZ p), tD u] h = .exc "NoForm" h := by
  refine exc_of_wp ?_
  rw [show F_Cabinet_change_v6 (n + 2) = _ from S_Cabinet_change_v6 (n + 1)]
  have fo := form_none (n := n) C m
  obtain ⟨⟨rd, e, r⟩, _⟩ := C
  have eI : h[c]? = some (.ins "Cabinet" [("kept", .loc d), ("root", rd)]) := e
  have lk1 := lkC (m := "form_of") (d := d) (rd := rd) (by decide +kernel) (by decide +kernel)
  rw [kRaw_f, wp_run]
  refine ⟨rfl, ?_⟩
  unfold m_Cabinet_change_v6
  simp only [startD, List.map_cons, List.map_nil, List.length_cons, List.length_nil]
  generalize tD u = U at *
  simp [-List.lookup_eq_none_iff, wp_v, eI, lk1, fo]
theorem change_noplace (C : Cab h c d fs H) (m : (s, t) ∈ fs) (hn : p.length + 2 ≤ n) (hk : t.knots ≤ 1000000) (e0 : t.put p u = none) : F_Cabinet_change_v6 (n + 1) [.loc c, .str s, .tup (plZ p), tD u] h = .exc "NoPlace" h := by
  refine exc_of_wp ?_
  obtain ⟨n, rfl⟩ : ∃ k, n = k + 1 := ⟨n - 1, by omega⟩
  rw [show F_Cabinet_change_v6 (n + 1 + 1) = _ from S_Cabinet_change_v6 (n + 1)]
  have fo := form_ok (n := n) C m
  have pa := put_at_ok p (n + 1) h t u (by omega) hk
  rw [e0] at pa
  have pa : F_put_at (n + 1) [tD t, .tup (plZ p), tD u] h = .exc "NoPlace" h := pa
  obtain ⟨⟨rd, e, r⟩, _⟩ := C
  have eI : h[c]? = some (.ins "Cabinet" [("kept", .loc d), ("root", rd)]) := e
  have lk1 := lkC (m := "form_of") (d := d) (rd := rd) (by decide +kernel) (by decide +kernel)
  rw [kRaw_f, wp_run]
  refine ⟨rfl, ?_⟩
  unfold m_Cabinet_change_v6
  simp only [startD, List.map_cons, List.map_nil, List.length_cons, List.length_nil]
  generalize tD u = U at *
  generalize tD t = T at *
  simp [-List.lookup_eq_none_iff, wp_v, eI, lk1, fo, pa]
theorem change_long (C : Cab h c d fs H) (m : (s, t) ∈ fs) (hn : p.length + 2 ≤ n) (hk : t.knots ≤ 1000000) (e0 : t.put p u = some w) (wk : w.knots ≤ 1000000) (wd : w.depth + 1 ≤ n) (g : 200 < w.knots ∨ 30 < w.depth) : F_Cabinet_change_v6 (n + 1) [.loc c, .str s, .tup (plZ p), tD u] h = .exc "TooLong" h := by
  refine exc_of_wp ?_
  obtain ⟨n, rfl⟩ : ∃ k, n = k + 1 := ⟨n - 1, by omega⟩
  rw [show F_Cabinet_change_v6 (n + 1 + 1) = _ from S_Cabinet_change_v6 (n + 1)]
  have fo := form_ok (n := n) C m
  have pa := put_at_ok p (n + 1) h t u (by omega) hk
  rw [e0] at pa
  have pa : F_put_at (n + 1) [tD t, .tup (plZ p), tD u] h = .ok (tD w) h := pa
  have ko := knots_of_ok h (n + 1) w (by omega) wk
  have de := depth_of_ok h (n + 1) w (by omega) wk
  obtain ⟨⟨rd, e, r⟩, _⟩ := C
  have eI : h[c]? = some (.ins "Cabinet" [("kept", .loc d), ("root", rd)]) := e
  have lk1 := lkC (m := "form_of") (d := d) (rd := rd) (by decide +kernel) (by decide +kernel)
  rw [kRaw_f, wp_run]
  refine ⟨rfl, ?_⟩
  unfold m_Cabinet_change_v6
  simp only [startD, List.map_cons, List.map_nil, List.length_cons, List.length_nil]
  generalize tD u = U at *
  generalize tD t = T at *
  generalize tD w = W at *
  by_cases g1 : 200 < w.knots
  · have g1' : (200 : Int) < (w.knots : Int) := by omega
    simp [-List.lookup_eq_none_iff, wp_v, eI, lk1, fo, pa, ko, g1']
  · have g1' : ¬ (200 : Int) < (w.knots : Int) := by omega
    have g2' : (30 : Int) < (w.depth : Int) := by omega
    simp [-List.lookup_eq_none_iff, wp_v, eI, lk1, fo, pa, ko, g1', de, g2']
theorem change_ok (C : Cab h c d [(s, t)] H) (hn : p.length + 2 ≤ n) (hk : t.knots ≤ 1000000) (e0 : t.put p u = some w) (wk : w.knots ≤ 200) (wd : w.depth ≤ 30) (hn2 : H + 40 ≤ n) :
    (F_Cabinet_change_v6 (n + 1) [.loc c, .str s, .tup (plZ p), tD u] h).wp (DoneQ h c d [(s, w)] (H + 1)) xF := by
  obtain ⟨n, rfl⟩ : ∃ k, n = k + 2 := ⟨n - 2, by omega⟩
  rw [show F_Cabinet_change_v6 (n + 2 + 1) = _ from S_Cabinet_change_v6 (n + 2)]
  have fo := form_ok (n := n + 1) C (List.mem_singleton.mpr rfl)
  have pa := put_at_ok p (n + 2) h t u (by omega) hk
  rw [e0] at pa
  have pa : F_put_at (n + 2) [tD t, .tup (plZ p), tD u] h = .ok (tD w) h := pa
  have ko := knots_of_ok h (n + 2) w (by omega) (by omega)
  have de := depth_of_ok h (n + 2) w (by omega) (by omega)
  obtain ⟨r1, h1, e1, rfl, kp1, l1, C1⟩ := R.wp_ex (take_ok (n := n + 1) C (show s ∈ ksS [(s, t)] by simp [ksS]) (.inl (by simp)) (by omega))
  have o0 : outS [(s, t)] s = [] := by simp [outS]
  rw [o0] at C1
  have nb := C.nm s (by simp [ksS])
  have pw := put_new (n := n) (s := s) (t := w) C1 nb (by simp [ksS]) (by simp) (by omega) (.inl rfl)
  have pw : (F_Cabinet_put (n + 2) [.loc c, .str s, tD w] h1).wp (DoneQ h c d [(s, w)] (H + 1)) xF := R.wp_mono pw (by
    rintro r h' ⟨rfl, kp2, l2, C2⟩
    exact ⟨rfl, kp1.trans kp2, by omega, C2⟩) (fun _ _ z => z)
  have g1' : ¬ (200 : Int) < (w.knots : Int) := by omega
  have g2' : ¬ (30 : Int) < (w.depth : Int) := by omega
  obtain ⟨⟨rd, e, r⟩, _⟩ := C
  obtain ⟨⟨rd1, e', r'⟩, _⟩ := C1
  have eI : h[c]? = some (.ins "Cabinet" [("kept", .loc d), ("root", rd)]) := e
  have eI1 : h1[c]? = some (.ins "Cabinet" [("kept", .loc d), ("root", rd1)]) := e'
  have lk1 := lkC (m := "form_of") (d := d) (rd := rd) (by decide +kernel) (by decide +kernel)
  have lk2 := lkC (m := "take") (d := d) (rd := rd) (by decide +kernel) (by decide +kernel)
  have lk3 := lkC (m := "put") (d := d) (rd := rd1) (by decide +kernel) (by decide +kernel)
  rw [kRaw_f, wp_run]
  refine ⟨rfl, ?_⟩
  unfold m_Cabinet_change_v6
  simp only [startD, List.map_cons, List.map_nil, List.length_cons, List.length_nil]
  generalize tD u = U at *
  generalize tD t = T at *
  generalize tD w = W at *
  simp [-List.lookup_eq_none_iff, wp_v, eI, lk1, fo, pa, ko, g1', de, g2', lk2, e1, eI1, lk3]
  refine R.wp_mono pw ?_ (fun _ _ z => z)
  rintro r h' q
  obtain ⟨rfl, q⟩ := q
  exact ⟨rfl, q⟩
end
def deD (k s : Str) (p : List Int) (t : Tr) : D := .tup [.str k, .str s, .tup (plZ p), tD t]
section
variable {n c d H : Nat} {h : Hs} {fs : List (Str × Tr)} {s : Str} {t : Tr} {p : List Int} {Q : D → Hs → Prop} {X : QX}
theorem ok_put : PyData.strOk "put" = true := by decide +kernel
theorem ok_take : PyData.strOk "take" = true := by decide +kernel
theorem ok_form : PyData.strOk "form" = true := by decide +kernel
theorem ok_change : PyData.strOk "change" = true := by decide +kernel
theorem j_pp {h : Hs} : eqF (.str "put") (.str "put") h = some (.bl true, h) := by rw [eq_strs ok_put ok_put, decide_eq_true rfl]
theorem j_tp {h : Hs} : eqF (.str "take") (.str "put") h = some (.bl false, h) := by rw [eq_strs ok_take ok_put, decide_eq_false (by decide +kernel)]
theorem j_fp {h : Hs} : eqF (.str "form") (.str "put") h = some (.bl false, h) := by rw [eq_strs ok_form ok_put, decide_eq_false (by decide +kernel)]
theorem j_cp {h : Hs} : eqF (.str "change") (.str "put") h = some (.bl false, h) := by rw [eq_strs ok_change ok_put, decide_eq_false (by decide +kernel)]
theorem j_tt {h : Hs} : eqF (.str "take") (.str "take") h = some (.bl true, h) := by rw [eq_strs ok_take ok_take, decide_eq_true rfl]
theorem j_ft {h : Hs} : eqF (.str "form") (.str "take") h = some (.bl false, h) := by rw [eq_strs ok_form ok_take, decide_eq_false (by decide +kernel)]
theorem j_ct {h : Hs} : eqF (.str "change") (.str "take") h = some (.bl false, h) := by rw [eq_strs ok_change ok_take, decide_eq_false (by decide +kernel)]
theorem j_ff {h : Hs} : eqF (.str "form") (.str "form") h = some (.bl true, h) := by rw [eq_strs ok_form ok_form, decide_eq_true rfl]
theorem j_cf {h : Hs} : eqF (.str "change") (.str "form") h = some (.bl false, h) := by rw [eq_strs ok_change ok_form, decide_eq_false (by decide +kernel)]
theorem do_put (C : Cab h c d fs H) (w : (F_Cabinet_put n [.loc c, .str s, tD t] h).wp Q X) : (F__law_do (n + 1) [.loc c, deD "put" s p t] h).wp Q X := by
  rw [S__law_do, kRaw_f, wp_run]
  refine ⟨rfl, ?_⟩
  obtain ⟨⟨rd, e, r⟩, _⟩ := C
  have eI : h[c]? = some (.ins "Cabinet" [("kept", .loc d), ("root", rd)]) := e
  have lk := lkC (m := "put") (d := d) (rd := rd) (by decide +kernel) (by decide +kernel)
  unfold m__law_do deD
  simp only [startD, List.map_cons, List.map_nil, List.length_cons, List.length_nil]
  generalize tD t = T at *
  simp [-List.lookup_eq_none_iff, wp_v, j_pp, eI, lk]
  exact w
theorem do_take (C : Cab h c d fs H) (w : (F_Cabinet_take n [.loc c, .str s] h).wp Q X) : (F__law_do (n + 1) [.loc c, deD "take" s p t] h).wp Q X := by
  rw [S__law_do, kRaw_f, wp_run]
  refine ⟨rfl, ?_⟩
  obtain ⟨⟨rd, e, r⟩, _⟩ := C
  have eI : h[c]? = some (.ins "Cabinet" [("kept", .loc d), ("root", rd)]) := e
  have lk := lkC (m := "take") (d := d) (rd := rd) (by decide +kernel) (by decide +kernel)
  unfold m__law_do deD
  simp only [startD, List.map_cons, List.map_nil, List.length_cons, List.length_nil]
  generalize tD t = T at *
  simp [-List.lookup_eq_none_iff, wp_v, j_tp, j_tt, eI, lk]
  exact w
theorem do_form (C : Cab h c d fs H) (w : (F_Cabinet_form_of n [.loc c, .str s] h).wp Q X) : (F__law_do (n + 1) [.loc c, deD "form" s p t] h).wp Q X := by
  rw [S__law_do, kRaw_f, wp_run]
  refine ⟨rfl, ?_⟩
  obtain ⟨⟨rd, e, r⟩, _⟩ := C
  have eI : h[c]? = some (.ins "Cabinet" [("kept", .loc d), ("root", rd)]) := e
  have lk := lkC (m := "form_of") (d := d) (rd := rd) (by decide +kernel) (by decide +kernel)
  unfold m__law_do deD
  simp only [startD, List.map_cons, List.map_nil, List.length_cons, List.length_nil]
  generalize tD t = T at *
  simp [-List.lookup_eq_none_iff, wp_v, j_fp, j_ft, j_ff, eI, lk]
  exact w
theorem do_change (C : Cab h c d fs H) (w : (F_Cabinet_change_v6 n [.loc c, .str s, .tup (plZ p), tD t] h).wp Q X) : (F__law_do (n + 1) [.loc c, deD "change" s p t] h).wp Q X := by
  rw [S__law_do, kRaw_f, wp_run]
  refine ⟨rfl, ?_⟩
  obtain ⟨⟨rd, e, r⟩, _⟩ := C
  have eI : h[c]? = some (.ins "Cabinet" [("kept", .loc d), ("root", rd)]) := e
  have lk := lkC (m := "change") (d := d) (rd := rd) (by decide +kernel) (by decide +kernel)
  unfold m__law_do deD
  simp only [startD, List.map_cons, List.map_nil, List.length_cons, List.length_nil]
  generalize tD t = T at *
  simp [-List.lookup_eq_none_iff, wp_v, j_cp, j_ct, j_cf, eI, lk]
  exact w
end
end DV
namespace DV
open PySem PySem.Spec PyProof.Rows L2
def dueB (k : Nat) : List Bool := ((List.range 7).map fun j => decide (j = k)) ++ [true]
theorem refused_BadName (n : Nat) (h : Hs) (c dd : D) (e : F__law_do n [c, dd] h = .exc "BadName" h) : ∃ x q, F__law_refused_v4 (n + 1) [c, dd] h = .ok (.loc x) (h ++ q) ∧ (h ++ q)[x]? = some (.lst ((dueB 0).map D.bl)) := by
  have w : (F__law_refused_v4 (n + 1) [c, dd] h).wp (fun r h' => ∃ x q, r = .loc x ∧ h' = h ++ q ∧ h'[x]? = some (.lst ((dueB 0).map D.bl))) xF := by
    rw [S__law_refused_v4, kRaw_f, wp_run]
    refine ⟨rfl, ?_⟩
    unfold m__law_refused_v4
    simp only [startD, List.map_cons, List.map_nil, List.length_cons, List.length_nil]
    have db : (dueB 0).map D.bl = [.bl true, .bl false, .bl false, .bl false, .bl false, .bl false, .bl false, .bl true] := rfl
    rw [db]
    simp [wp_v, ws_try, exprM, callM, consA, nilA, vM, lift, e]
    refine ws_suite _ _ ?_
    simp [wp_v, nameM, dropS, addF]
  obtain ⟨r, h', e', x, q, rfl, rfl, g⟩ := R.wp_ex w
  exact ⟨x, q, e', g⟩
theorem refused_Twice (n : Nat) (h : Hs) (c dd : D) (e : F__law_do n [c, dd] h = .exc "Twice" h) : ∃ x q, F__law_refused_v4 (n + 1) [c, dd] h = .ok (.loc x) (h ++ q) ∧ (h ++ q)[x]? = some (.lst ((dueB 1).map D.bl)) := by
  have w : (F__law_refused_v4 (n + 1) [c, dd] h).wp (fun r h' => ∃ x q, r = .loc x ∧ h' = h ++ q ∧ h'[x]? = some (.lst ((dueB 1).map D.bl))) xF := by
    rw [S__law_refused_v4, kRaw_f, wp_run]
    refine ⟨rfl, ?_⟩
    unfold m__law_refused_v4
    simp only [startD, List.map_cons, List.map_nil, List.length_cons, List.length_nil]
    have db : (dueB 1).map D.bl = [.bl false, .bl true, .bl false, .bl false, .bl false, .bl false, .bl false, .bl true] := rfl
    rw [db]
    simp [wp_v, ws_try, exprM, callM, consA, nilA, vM, lift, e]
    refine ws_suite _ _ ?_
    simp [wp_v, nameM, dropS, addF]
  obtain ⟨r, h', e', x, q, rfl, rfl, g⟩ := R.wp_ex w
  exact ⟨x, q, e', g⟩
theorem refused_TooLong (n : Nat) (h : Hs) (c dd : D) (e : F__law_do n [c, dd] h = .exc "TooLong" h) : ∃ x q, F__law_refused_v4 (n + 1) [c, dd] h = .ok (.loc x) (h ++ q) ∧ (h ++ q)[x]? = some (.lst ((dueB 2).map D.bl)) := by
  have w : (F__law_refused_v4 (n + 1) [c, dd] h).wp (fun r h' => ∃ x q, r = .loc x ∧ h' = h ++ q ∧ h'[x]? = some (.lst ((dueB 2).map D.bl))) xF := by
    rw [S__law_refused_v4, kRaw_f, wp_run]
    refine ⟨rfl, ?_⟩
    unfold m__law_refused_v4
    simp only [startD, List.map_cons, List.map_nil, List.length_cons, List.length_nil]
    have db : (dueB 2).map D.bl = [.bl false, .bl false, .bl true, .bl false, .bl false, .bl false, .bl false, .bl true] := rfl
    rw [db]
    simp [wp_v, ws_try, exprM, callM, consA, nilA, vM, lift, e]
    refine ws_suite _ _ ?_
    simp [wp_v, nameM, dropS, addF]
  obtain ⟨r, h', e', x, q, rfl, rfl, g⟩ := R.wp_ex w
  exact ⟨x, q, e', g⟩
theorem refused_NoForm (n : Nat) (h : Hs) (c dd : D) (e : F__law_do n [c, dd] h = .exc "NoForm" h) : ∃ x q, F__law_refused_v4 (n + 1) [c, dd] h = .ok (.loc x) (h ++ q) ∧ (h ++ q)[x]? = some (.lst ((dueB 3).map D.bl)) := by
  have w : (F__law_refused_v4 (n + 1) [c, dd] h).wp (fun r h' => ∃ x q, r = .loc x ∧ h' = h ++ q ∧ h'[x]? = some (.lst ((dueB 3).map D.bl))) xF := by
    rw [S__law_refused_v4, kRaw_f, wp_run]
    refine ⟨rfl, ?_⟩
    unfold m__law_refused_v4
    simp only [startD, List.map_cons, List.map_nil, List.length_cons, List.length_nil]
    have db : (dueB 3).map D.bl = [.bl false, .bl false, .bl false, .bl true, .bl false, .bl false, .bl false, .bl true] := rfl
    rw [db]
    simp [wp_v, ws_try, exprM, callM, consA, nilA, vM, lift, e]
    refine ws_suite _ _ ?_
    simp [wp_v, nameM, dropS, addF]
  obtain ⟨r, h', e', x, q, rfl, rfl, g⟩ := R.wp_ex w
  exact ⟨x, q, e', g⟩
theorem refused_NoPlace (n : Nat) (h : Hs) (c dd : D) (e : F__law_do n [c, dd] h = .exc "NoPlace" h) : ∃ x q, F__law_refused_v4 (n + 1) [c, dd] h = .ok (.loc x) (h ++ q) ∧ (h ++ q)[x]? = some (.lst ((dueB 4).map D.bl)) := by
  have w : (F__law_refused_v4 (n + 1) [c, dd] h).wp (fun r h' => ∃ x q, r = .loc x ∧ h' = h ++ q ∧ h'[x]? = some (.lst ((dueB 4).map D.bl))) xF := by
    rw [S__law_refused_v4, kRaw_f, wp_run]
    refine ⟨rfl, ?_⟩
    unfold m__law_refused_v4
    simp only [startD, List.map_cons, List.map_nil, List.length_cons, List.length_nil]
    have db : (dueB 4).map D.bl = [.bl false, .bl false, .bl false, .bl false, .bl true, .bl false, .bl false, .bl true] := rfl
    rw [db]
    simp [wp_v, ws_try, exprM, callM, consA, nilA, vM, lift, e]
    refine ws_suite _ _ ?_
    simp [wp_v, nameM, dropS, addF]
  obtain ⟨r, h', e', x, q, rfl, rfl, g⟩ := R.wp_ex w
  exact ⟨x, q, e', g⟩
/-- a chain of blocks c -/
def chainT : Nat → Tr
  | 0 => .bk "c" []
  | k + 1 => .bk "c" [chainT k]
theorem chain_facts : ∀ k, (chainT k).knots = k + 1 ∧ (chainT k).depth = k + 1 ∧ (chainT k).sok
  | 0 => ⟨by simp [chainT, Tr.knots, knotsL], by simp [chainT, Tr.depth, depthL], ⟨by decide +kernel, trivial⟩⟩
  | k + 1 => by
    obtain ⟨a, b, c⟩ := chain_facts k
    exact ⟨by simp [chainT, Tr.knots, knotsL, a]; omega, by simp [chainT, Tr.depth, depthL, b]; omega, ⟨by decide +kernel, c, trivial⟩⟩
theorem lchain_ok (n : Nat) (h : Hs) (k : Nat) (hk : k ≤ 1000) : F__law_chain_v3 (n + 1) [.int ((k : Int) + 1)] h = .ok (tD (chainT k)) h := by
  rw [S__law_chain_v3]
  refine R.wp_eq.mp ?_
  rw [wp_pure, wp_run]
  refine ⟨rfl, ?_⟩
  unfold m__law_chain_v3
  simp only [startD, List.map_cons, List.map_nil, List.length_cons, List.length_nil]
  simp only [List.set_cons_succ, List.set_cons_zero, List.replicate, List.cons_append, List.nil_append]
  have k1 : (k : Int) + 1 - 1 = (k : Int) := by omega
  have ir : inR (k : Int) = true := inR_of (by omega) (by omega)
  refine st_set (tD (chainT 0)) h (by simp [wp_v, chainT, tD, tDs]) ?_
  simp only [List.set_cons_succ, List.set_cons_zero]
  refine st_for ((List.range k).map fun i : Nat => D.int i) (fun _ => True) h (fun i ds h' => ∃ x, h' = h ∧ ds = [some (.int ((k : Int) + 1)), some (tD (chainT i)), x]) (by simp [wp_v, k1, ir]) ⟨none, rfl, rfl⟩ (fun _ _ _ _ => trivial) ?_ ?_
  · rintro i d ds h' hi ⟨x, rfl, rfl⟩
    have st : D.tup [.str "block", .str "c", .tup [tD (chainT i)]] = tD (chainT (i + 1)) := by simp [chainT, tD, tDs]
    have fin : ∃ y, h' = h' ∧ [some (D.int ((k : Int) + 1)), some (tD (chainT (i + 1))), some d] = [some (.int ((k : Int) + 1)), some (tD (chainT (i + 1))), y] := ⟨_, rfl, rfl⟩
    generalize tD (chainT (i + 1)) = T2 at *
    generalize tD (chainT i) = T1 at *
    simp [wp_v, st]
  · rintro ds h' ⟨x, rfl, rfl⟩
    rw [List.length_map, List.length_range]
    have nl := noloc_tD (chainT k)
    generalize tD (chainT k) = T1 at *
    simp [wp_v, nl]
theorem tDs_repl (k : Nat) (t : Tr) : tDs (List.replicate k t) = List.replicate k (tD t) := by rw [tDs_map, List.map_replicate]
theorem knotsL_rep (k : Nat) (t : Tr) (e : t.knots = 1) : knotsL (List.replicate k t) = k := by
  induction k with
  | zero => rfl
  | succ k ih => rw [List.replicate_succ, knotsL, ih, e]; omega
theorem depthL_rep (k : Nat) (t : Tr) (e : t.depth = 1) : depthL (List.replicate k t) ≤ 1 := depthL_le.mpr fun u hu => by
  rw [(List.mem_replicate.mp hu).2, e]; omega
def uT : Tr := .bk "u" []
theorem ok_u : PyData.strOk "u" = true := by decide +kernel
/-- a tree with one knot more on top, with k leaves beside -/
def uMore (t : Tr) (k : Nat) : Tr := .bk "u" (t :: List.replicate k uT)
theorem uMore_facts (t : Tr) (k : Nat) (s : t.sok) : (uMore t k).knots = 1 + t.knots + k ∧ (uMore t k).depth ≤ 1 + t.depth ∧ (uMore t k).sok := by
  have k1 : uT.knots = 1 := by simp [uT, Tr.knots, knotsL]
  have d1 : uT.depth = 1 := by simp [uT, Tr.depth, depthL]
  have dt := depth_parts t
  have dl := depthL_rep k uT d1
  refine ⟨by rw [uMore, Tr.knots, knotsL, knotsL_rep k uT k1]; omega, by rw [uMore, depth_bk, depthL]; omega, ⟨ok_u, s, sokL_iff.mpr fun u hu => ?_⟩⟩
  rw [(List.mem_replicate.mp hu).2]
  exact ⟨ok_u, trivial⟩
theorem uMoreD (t : Tr) (k : Nat) : D.tup [.str "block", .str "u", .tup (tD t :: List.replicate k (tD uT))] = tD (uMore t k) := by simp [uMore, tD, tDs, tDs_repl]
theorem flat_one (k : Nat) (d : D) : (List.replicate k [d]).flatten = List.replicate k d := by
  induction k with
  | zero => rfl
  | succ k ih => rw [List.replicate_succ, List.flatten_cons, ih]; rfl
theorem of_knots_ok (n : Nat) (h : Hs) (many : Nat) (h1 : 1 ≤ many) (h2 : many ≤ 250) : ∃ t : Tr, F__law_of_knots (n + 1) [.int (many : Int)] h = .ok (tD t) h ∧ t.knots = many ∧ t.depth ≤ 2 + many / 9 ∧ t.sok := by
  have w : (F__law_of_knots (n + 1) [.int (many : Int)] h).wp (fun r h' => h' = h ∧ ∃ t : Tr, r = tD t ∧ t.knots = many ∧ t.depth ≤ 2 + many / 9 ∧ t.sok) xF := by
    rw [S__law_of_knots, wp_pure, wp_run]
    refine ⟨rfl, ?_⟩
    unfold m__law_of_knots
    simp only [startD, List.map_cons, List.map_nil, List.length_cons, List.length_nil]
    simp only [List.set_cons_succ, List.set_cons_zero, List.replicate, List.cons_append, List.nil_append]
    refine st_set (tD uT) h (by simp [wp_v, uT, tD, tDs]) ?_
    refine st_set (tD uT) h (by simp [wp_v]) ?_
    refine st_set (.int ((1 : Nat) : Int)) h ⟨rfl, rfl⟩ ?_
    simp only [List.set_cons_succ, List.set_cons_zero]
    rw [ws_seq]
    obtain ⟨J, hJ⟩ : ∃ J : Nat → Sl → Hs → Prop, J = fun k ds h' => ∃ (c : Nat) (t : Tr), c + k = many ∧ t.knots = c ∧ t.depth ≤ 1 + c / 9 ∧ t.sok ∧ h' = h ∧ ds = [some (.int (many : Int)), some (tD uT), some (tD t), some (.int (c : Int))] := ⟨_, rfl⟩
    refine ws_while J FUEL (many - 1) (by unfold FUEL; omega) (by rw [hJ]; exact ⟨1, uT, by omega, by simp [uT, Tr.knots, knotsL], by simp [uT, Tr.depth, depthL], ⟨ok_u, trivial⟩, rfl, rfl⟩) ?_
    intro k ds h' hj
    rw [hJ] at hj
    obtain ⟨c, t, ck, tk, td, ts, rfl, rfl⟩ := hj
    by_cases c1 : c + 9 ≤ many
    · have c1' : (c : Int) + 9 ≤ (many : Int) := by omega
      have um := uMoreD t 8
      obtain ⟨f1, f2, f3⟩ := uMore_facts t 8 ts
      have fl := flat_one 8 (tD uT)
      have cc : (c : Int) + 9 = ((c + 9 : Nat) : Int) := by omega
      have fin : ∃ j, j < k ∧ J j [some (.int (many : Int)), some (tD uT), some (tD (uMore t 8)), some (.int ((c + 9 : Nat) : Int))] h' := by
        refine ⟨k - 9, by omega, ?_⟩
        rw [hJ]
        exact ⟨c + 9, uMore t 8, by omega, by omega, by omega, f3, rfl, rfl⟩
      generalize tD (uMore t 8) = T2 at *
      generalize tD t = T1 at *
      generalize tD uT = TU at *
      rw [← cc] at fin
      simp only [List.replicate, List.flatten_cons, List.flatten_nil, List.cons_append, List.nil_append] at um fl
      simp [wp_v, c1', um]
      exact fin
    · have c1' : ¬ (c : Int) + 9 ≤ (many : Int) := by omega
      by_cases c2 : c < many
      · have c2' : (c : Int) < (many : Int) := by omega
        have um := uMoreD t (many - c - 1)
        obtain ⟨f1, f2, f3⟩ := uMore_facts t (many - c - 1) ts
        have fl := flat_one (many - c - 1) (tD uT)
        have tn : ((many : Int) - (c : Int) - 1).toNat = many - c - 1 := by omega
        have i1 : -1000 ≤ (many : Int) - (c : Int) - 1 := by omega
        have i2 : (many : Int) - (c : Int) - 1 ≤ 1000 := by omega
        have nl := noloc_tD (uMore t (many - c - 1))
        have i3 : 1 + (many - c - 1) ≤ 16777216 := by omega
        have fin : ∃ u : Tr, tD (uMore t (many - c - 1)) = tD u ∧ u.knots = many ∧ u.depth ≤ 2 + many / 9 ∧ u.sok := ⟨_, rfl, by omega, by omega, f3⟩
        generalize tD (uMore t (many - c - 1)) = T2 at *
        generalize tD t = T1 at *
        generalize tD uT = TU at *
        simp [wp_v, c1', c2', tn, fl, um, i1, i2, i3, nl]
        exact fin
      · have c2' : ¬ (c : Int) < (many : Int) := by omega
        have nl := noloc_tD t
        have fin : ∃ u : Tr, tD t = tD u ∧ u.knots = many ∧ u.depth ≤ 2 + many / 9 ∧ u.sok := ⟨t, rfl, by omega, by omega, ts⟩
        generalize tD t = T1 at *
        generalize tD uT = TU at *
        simp [wp_v, c1', c2', nl]
        exact fin
  obtain ⟨r, h', e, rfl, t, rfl, a⟩ := R.wp_ex w
  exact ⟨t, e, a⟩
end DV
namespace DV
open PySem PySem.Spec PyProof.Rows L2
def pN (k : Nat) : Str := ("p" : Str) ++ ((toString ((k : Nat) : Int) : String) : Str)
theorem pN_all : ((List.range 40).all fun k => nameB (pN k) && decide (("p" : Str).length + ((toString ((k : Nat) : Int) : String) : Str).length ≤ LIM) && decide (pN k ≠ ("new" : Str))) = true := by decide +kernel
theorem pN_nd : ((List.range 40).map pN).Nodup := by decide +kernel
theorem pN_ok {k : Nat} (h : k < 40) : nameB (pN k) = true ∧ ("p" : Str).length + ((toString ((k : Nat) : Int) : String) : Str).length ≤ LIM ∧ pN k ≠ ("new" : Str) := by
  have := List.all_eq_true.mp pN_all k (List.mem_range.mpr h)
  simp only [Bool.and_eq_true, decide_eq_true_eq] at this
  exact ⟨this.1.1, this.1.2, this.2⟩
theorem pN_D {k : Nat} (h : k < 40) {g : Hs} : strT [.int (k : Int)] g = some (.str ((toString ((k : Nat) : Int) : String) : Str), g) ∧ addF (.str "p") (.str ((toString ((k : Nat) : Int) : String) : Str)) g = some (.str (pN k), g) := by
  constructor
  · show (if ((k : Nat) : Int).natAbs.log2 < 1920 then _ else none) = _
    have e : ((k : Nat) : Int).natAbs = k := rfl
    have : k.log2 ≤ k := Nat.log2_le_self k
    rw [if_pos (by rw [e]; omega)]
  · show (if ("p" : Str).length + ((toString ((k : Nat) : Int) : String) : Str).length ≤ LIM then some (D.str (("p" : Str) ++ ((toString ((k : Nat) : Int) : String) : Str)), g) else none) = _
    rw [if_pos (pN_ok h).2.1]
    rfl
def fsP (k : Nat) : List (Str × Tr) := (List.range k).map fun i => (pN i, tLf)
theorem ksP (k : Nat) : ksS (fsP k) = (List.range k).map pN := by unfold ksS fsP; rw [List.map_map]; rfl
theorem fsP_succ (k : Nat) : fsP (k + 1) = fsP k ++ [(pN k, tLf)] := by unfold fsP; rw [List.range_succ, List.map_append]; rfl
theorem fsP_lf (k : Nat) : allLf (fsP k) := fun p hp => by
  obtain ⟨i, _, rfl⟩ := List.mem_map.mp hp
  rfl
theorem pN_new {k : Nat} (h : k < 40) : pN k ∉ ksS (fsP k) := fun m => by
  rw [ksP] at m
  have nd : ((List.range (k + 1)).map pN).Nodup := by
    have : ((List.range (k + 1)).map pN).Sublist ((List.range 40).map pN) := by
      refine List.Sublist.map _ ?_
      have := List.range_sublist.mpr (show k + 1 ≤ 40 by omega)
      exact this
    exact pN_nd.sublist this
  rw [List.range_succ, List.map_append, List.nodup_append] at nd
  exact nd.2.2 _ m _ (by simp) rfl
theorem pN_mem {k n : Nat} (h : k < n) : pN k ∈ ksS (fsP n) := by
  rw [ksP]
  exact List.mem_map.mpr ⟨k, List.mem_range.mpr h, rfl⟩
theorem init_ok (n : Nat) (h : Hs) : F_Cabinet___init__ (n + 1) [.loc h.length] (h ++ [.ins "Cabinet" []]) = .ok .non (h ++ [insC (h.length + 1) .non, .dct []]) := by
  rw [S_Cabinet___init__]
  refine R.wp_eq.mp ?_
  rw [kRaw_f, wp_run]
  refine ⟨rfl, ?_⟩
  unfold m_Cabinet___init__
  simp only [startD, List.map_cons, List.map_nil, List.length_cons, List.length_nil]
  have s1 : setFldF "Cabinet" "kept" (.loc h.length) (.loc (h.length + 1)) (h ++ [.ins "Cabinet" [], .dct []]) = some (h ++ [.ins "Cabinet" [("kept", .loc (h.length + 1))], .dct []]) := by
    have e : (h ++ [AO.ins "Cabinet" [], .dct []])[h.length]? = some (.ins "Cabinet" []) := by simp
    unfold setFldF
    simp only [e]
    rw [if_pos ⟨trivial, by simp⟩]
    simp [putFD]
  have s2 : setFldF "Cabinet" "root" (.loc h.length) .non (h ++ [.ins "Cabinet" [("kept", .loc (h.length + 1))], .dct []]) = some (h ++ [insC (h.length + 1) .non, .dct []]) := by
    have e : (h ++ [AO.ins "Cabinet" [("kept", .loc (h.length + 1))], .dct []])[h.length]? = some (.ins "Cabinet" [("kept", .loc (h.length + 1))]) := by simp
    have ne : ¬ (("kept" : Str) = "root") := by decide +kernel
    unfold setFldF
    simp only [e]
    rw [if_pos ⟨trivial, by simp⟩]
    simp [putFD, ne, insC]
  simp [wp_v, s1, s2]
def fsOf (kind : Int) : List (Str × Tr) := if kind < 3 then fsP 40 else if 5 < kind then [("m", chainT 2)] else []
def OpenQ (h : Hs) (kind : Int) (r : D) (h' : Hs) : Prop := ∃ c d, r = .loc c ∧ Keeps h h' ∧ h.length ≤ h'.length ∧ Cab h' c d (fsOf kind) 41
theorem Cab.mono {h : Hs} {c d H H' : Nat} {fs : List (Str × Tr)} (C : Cab h c d fs H) (l : H ≤ H') : Cab h c d fs H' := by
  obtain ⟨⟨rd, e, r⟩, a1, a2, a3, a4⟩ := C
  refine ⟨⟨rd, e, ?_⟩, a1, a2, a3, a4⟩
  rcases r with r | ⟨b, r1, r2, r3, r4⟩
  · exact .inl r
  · exact .inr ⟨b, r1, r2, r3, by omega⟩
theorem nm_m : nameB ("m" : Str) = true := by decide +kernel
theorem opened_ok (n : Nat) (h : Hs) (kind : Int) (hn : 60 ≤ n) : (F__law_opened (n + 4) [.int kind] h).wp (OpenQ h kind) xF := by
  rw [show F__law_opened (n + 4) = _ from S__law_opened (n + 3)]
  rw [kRaw_f, wp_run]
  refine ⟨rfl, ?_⟩
  unfold m__law_opened
  simp only [startD, List.map_cons, List.map_nil, List.length_cons, List.length_nil]
  simp only [List.set_cons_succ, List.set_cons_zero, List.replicate, List.cons_append, List.nil_append]
  have ini := init_ok (n + 1) h
  have ini : F_Cabinet___init__ (n + 2) [.loc h.length] (h ++ [.ins "Cabinet" []]) = .ok .non (h ++ [insC (h.length + 1) .non, .dct []]) := ini
  obtain ⟨H0, hH0⟩ : ∃ H0 : Hs, H0 = h ++ [insC (h.length + 1) .non, .dct []] := ⟨_, rfl⟩
  rw [← hH0] at ini
  refine st_set (.loc h.length) H0 (by simp [wp_v, ini]) ?_
  simp only [List.set_cons_succ, List.set_cons_zero]
  have C0 : Cab H0 h.length (h.length + 1) (fsP 0) 0 := ⟨⟨.non, by rw [hH0]; simp, .inl ⟨rfl, rfl⟩⟩, by rw [hH0]; simp [mS, fsP], by simp [ksS, fsP], by simp [fsP], by simp [ksS, fsP]⟩
  have K0 : Keeps h H0 := by rw [hH0]; exact Keeps.app _ _
  have L0 : h.length ≤ H0.length := by rw [hH0, List.length_append]; omega
  clear hH0 ini
  obtain ⟨c, hc⟩ : ∃ c, c = h.length := ⟨_, rfl⟩
  obtain ⟨d, hd⟩ : ∃ d, d = h.length + 1 := ⟨_, rfl⟩
  rw [← hd, ← hc] at C0
  rw [← hc]
  by_cases k3 : kind < 3
  · obtain ⟨J, hJ⟩ : ∃ J : Nat → Sl → Hs → Prop, J = fun i ds h' => ∃ (x : Option D), Keeps h h' ∧ h.length ≤ h'.length ∧ Cab h' c d (fsP i) i ∧ ds = [some (.int kind), some (.loc c), x] := ⟨_, rfl⟩
    have k5 : ¬ 5 < kind := by omega
    have body : ((ifM (tbM (binM ltF (vM 0) (cM (.int 3)))) (forM (rngI rng1 (consA (cM (.int 40)) nilA)) (nameG 2) (exprM (methM "Cabinet" "put" (F_Cabinet_put (n + 3)) (vM 1) (consA (binM addF (cM (.str "p")) (argM strT (consA (vM 2) nilA))) (consA (argM tupF (consA (cM (.str "block")) (consA (cM (.str "a")) (consA (argM tupF (nilA)) nilA)))) nilA))))) (passM)) [some (.int kind), some (.loc c), none] H0).wp (J 40) (fun _ _ => False) xF := by
      refine st_if true H0 (by simp [wp_v, k3]) ?_
      rw [if_pos rfl]
      have ir : inR 40 = true := inR_of (by decide) (by decide)
      have it : (rngI rng1 (consA (cM (.int 40)) nilA) [some (.int kind), some (.loc c), none] H0).wp (fun p h' => p = ((List.range 40).map (fun i : Nat => D.int i), fun _ => True) ∧ h' = H0) xF := by simp [wp_v, ir]
      rw [ws_for, R.wp_eq.mp it]
      refine ws_loop _ J (by rw [hJ]; exact ⟨none, K0, L0, C0, rfl⟩) (fun _ _ _ _ => trivial) ?_ ?_
      · intro i dd ds h' hi hj
        rw [hJ] at hj
        obtain ⟨x, kp, ll, C, rfl⟩ := hj
        have il : i < 40 := by
          have := (List.getElem?_eq_some_iff.mp hi).1
          rwa [List.length_map, List.length_range] at this
        rw [List.getElem?_map, List.getElem?_range il] at hi
        cases hi
        obtain ⟨n1, n2⟩ := pN_D il (g := h')
        have pw := put_new (n := n + 1) (t := tLf) C (pN_ok il).1 (pN_new il) (by simp [fsP]; omega) (by omega) (.inr ⟨fsP_lf i, rfl⟩)
        rw [← fsP_succ] at pw
        have pw : (F_Cabinet_put (n + 3) [.loc c, .str (pN i), tD tLf] h').wp (DoneQ h' c d (fsP (i + 1)) (i + 1)) xF := pw
        obtain ⟨⟨rd, e, r⟩, _⟩ := C
        have eI : h'[c]? = some (.ins "Cabinet" [("kept", .loc d), ("root", rd)]) := e
        have lk := lkC (m := "put") (d := d) (rd := rd) (by decide +kernel) (by decide +kernel)
        have tl := dLf.symm
        generalize ((toString ((i : Nat) : Int) : String) : Str) = SS at n1 n2
        generalize tD tLf = T at *
        simp [-List.lookup_eq_none_iff, wp_v, eI, lk, n1, n2, tl]
        refine R.wp_mono pw ?_ (fun _ _ z => z)
        rintro r h2 ⟨rfl, kp2, l2, C2⟩
        rw [hJ]
        exact ⟨_, kp.trans kp2, by omega, C2, rfl⟩
      · intro ds h' hj
        have e : ((List.range 40).map (fun i : Nat => D.int i)).length = 40 := by simp
        rw [e] at hj
        exact hj
    rw [ws_seq]
    refine RS.wp_mono body ?_ (fun _ _ z => z.elim) (fun _ _ z => z)
    intro ds h' hj
    rw [hJ] at hj
    obtain ⟨x, kp, ll, C, rfl⟩ := hj
    have fin : OpenQ h kind (.loc c) h' := ⟨c, d, rfl, kp, ll, by unfold fsOf; rw [if_pos k3]; exact C.mono (by omega)⟩
    have k5' : kind ≤ 5 := by omega
    simp [wp_v, k5]
    exact fin
  · refine st_seq [some (.int kind), some (.loc c), none] H0 (by simp [wp_v, k3]) ?_
    have f0 : fsP 0 = [] := rfl
    rw [f0] at C0
    by_cases k5 : 5 < kind
    · have ch := lchain_ok (n + 2) H0 2 (by decide)
      have ch : F__law_chain_v3 (n + 3) [.int 3] H0 = .ok (tD (chainT 2)) H0 := ch
      have pw := put_new (n := n + 1) (s := "m") (t := chainT 2) C0 nm_m (by simp [ksS]) (by simp) (by omega) (.inl rfl)
      have pw : (F_Cabinet_put (n + 3) [.loc c, .str "m", tD (chainT 2)] H0).wp (DoneQ H0 c d [("m", chainT 2)] 1) xF := pw
      obtain ⟨r1, h1, e1, rfl, kp1, l1, C1⟩ := R.wp_ex pw
      have fin : OpenQ h kind (.loc c) h1 := ⟨c, d, rfl, K0.trans kp1, by omega, by unfold fsOf; rw [if_neg k3, if_pos k5]; exact C1.mono (by omega)⟩
      obtain ⟨⟨rd, e, r⟩, _⟩ := C0
      have eI : H0[c]? = some (.ins "Cabinet" [("kept", .loc d), ("root", rd)]) := e
      have lk := lkC (m := "put") (d := d) (rd := rd) (by decide +kernel) (by decide +kernel)
      generalize tD (chainT 2) = T at *
      simp [-List.lookup_eq_none_iff, wp_v, k5, eI, lk, ch, e1]
      exact fin
    · have fin : OpenQ h kind (.loc c) H0 := ⟨c, d, rfl, K0, L0, by unfold fsOf; rw [if_neg k3, if_neg k5]; exact C0.mono (by omega)⟩
      simp [wp_v, k5]
      exact fin
end DV
namespace DV
open PySem PySem.Spec PyProof.Rows L2
def CaseQ (due : Nat) (P : List D → D → Prop) (h : Hs) (r : D) (h' : Hs) : Prop := ∃ (gl : Nat) (q : Hs) (gs : List D) (dd : D), r = .tup [.int (due : Int), .loc gl, dd] ∧ h' = h ++ q ∧ h'[gl]? = some (.lst gs) ∧ P gs dd
theorem ix_any {h : Hs} {l : Nat} {xs : List D} {k : Int} (e : h[l]? = some (.lst xs)) (h0 : 0 ≤ k) (h1 : k < xs.length) : ∃ v, ixF (.loc l) (.int k) h = some (v, h) ∧ v ∈ xs := by
  obtain ⟨n, rfl⟩ := Int.eq_ofNat_of_zero_le h0
  have hn : n < xs.length := by omega
  refine ⟨xs[n], ?_, List.getElem_mem _⟩
  rw [ix_lst e, atI_nat hn, List.getElem?_eq_getElem hn]
  rfl
def P0 (gs : List D) (dd : D) : Prop := gs = [] ∧ ∃ s, dd = deD "put" s [] tLf ∧ nameB s = false ∧ s.length ≤ LIM
theorem case_0 (n : Nat) (h : Hs) (nu : Int) (h0 : 0 ≤ nu) : (F__law_case (n + 2) [.int 0, .int nu] h).wp (CaseQ 0 P0 h) xF := by
  rw [show F__law_case (n + 2) = _ from S__law_case (n + 1)]
  rw [kRaw_f, wp_run]
  refine ⟨rfl, ?_⟩
  unfold m__law_case
  simp only [startD, List.map_cons, List.map_nil, List.length_cons, List.length_nil]
  simp only [List.set_cons_succ, List.set_cons_zero, List.replicate, List.cons_append, List.nil_append]
  have m40 : ∀ i, cMod i 40 = true := fun _ => cMod_of (by decide)
  obtain ⟨k, hk, kl⟩ : ∃ k : Nat, nu % 40 = (k : Int) ∧ k < 40 := ⟨(nu % 40).toNat, by omega, by omega⟩
  obtain ⟨S, SS, hS, n1, n2⟩ : ∃ S SS : Str, S = pN k ∧ (∀ g, strT [.int (k : Int)] g = some (.str SS, g)) ∧ ∀ g, addF (.str "p") (.str SS) g = some (.str S, g) := ⟨pN k, _, rfl, fun g => (pN_D kl (g := g)).1, fun g => (pN_D kl (g := g)).2⟩
  refine st_set (tD tLf) h (by rw [dLf]; simp [wp_v]) ?_
  refine st_set (.str S) h (by simp [wp_v, m40, hk, n1, n2]) ?_
  simp only [List.set_cons_succ, List.set_cons_zero]
  clear n1 n2
  have m4 : ∀ i, cMod i 4 = true := fun _ => cMod_of (by decide)
  obtain ⟨v, iv, vm⟩ := ix_any (h := h ++ [.lst [], .lst [.str "", .str "A", .str "a b", .str "toolongname12"]]) (l := h.length + 1) (xs := [.str "", .str "A", .str "a b", .str "toolongname12"]) (k := nu % 4) (by simp) (by omega) (by simp; omega)
  obtain ⟨s, rfl, s1, s2⟩ : ∃ s, v = .str s ∧ nameB s = false ∧ s.length ≤ LIM := by
    simp only [List.mem_cons, List.not_mem_nil, or_false] at vm
    rcases vm with rfl | rfl | rfl | rfl
    · exact ⟨_, rfl, by decide +kernel, by decide +kernel⟩
    · exact ⟨_, rfl, by decide +kernel, by decide +kernel⟩
    · exact ⟨_, rfl, by decide +kernel, by decide +kernel⟩
    · exact ⟨_, rfl, by decide +kernel, by decide +kernel⟩
  have fin : CaseQ 0 P0 h (.tup [.int 0, .loc h.length, .tup [.str "put", .str s, .tup [], tD tLf]]) (h ++ [.lst [], .lst [.str "", .str "A", .str "a b", .str "toolongname12"]]) := ⟨h.length, _, [], _, rfl, rfl, by simp, rfl, s, rfl, s1, s2⟩
  generalize tD tLf = T at *
  simp [wp_v, m4, iv]
  exact fin
def P1 (gs : List D) (dd : D) : Prop := gs = [] ∧ ∃ k, k < 40 ∧ dd = deD "put" (pN k) [] tLf
theorem case_1 (n : Nat) (h : Hs) (nu : Int) (h0 : 0 ≤ nu) : (F__law_case (n + 2) [.int 1, .int nu] h).wp (CaseQ 1 P1 h) xF := by
  rw [show F__law_case (n + 2) = _ from S__law_case (n + 1)]
  rw [kRaw_f, wp_run]
  refine ⟨rfl, ?_⟩
  unfold m__law_case
  simp only [startD, List.map_cons, List.map_nil, List.length_cons, List.length_nil]
  simp only [List.set_cons_succ, List.set_cons_zero, List.replicate, List.cons_append, List.nil_append]
  have m40 : ∀ i, cMod i 40 = true := fun _ => cMod_of (by decide)
  obtain ⟨k, hk, kl⟩ : ∃ k : Nat, nu % 40 = (k : Int) ∧ k < 40 := ⟨(nu % 40).toNat, by omega, by omega⟩
  obtain ⟨S, SS, hS, n1, n2⟩ : ∃ S SS : Str, S = pN k ∧ (∀ g, strT [.int (k : Int)] g = some (.str SS, g)) ∧ ∀ g, addF (.str "p") (.str SS) g = some (.str S, g) := ⟨pN k, _, rfl, fun g => (pN_D kl (g := g)).1, fun g => (pN_D kl (g := g)).2⟩
  refine st_set (tD tLf) h (by rw [dLf]; simp [wp_v]) ?_
  refine st_set (.str S) h (by simp [wp_v, m40, hk, n1, n2]) ?_
  simp only [List.set_cons_succ, List.set_cons_zero]
  clear n1 n2
  have fin : CaseQ 1 P1 h (.tup [.int 1, .loc h.length, .tup [.str "put", .str S, .tup [], tD tLf]]) (h ++ [.lst []]) := ⟨h.length, _, [], _, rfl, rfl, by simp, rfl, k, kl, by rw [hS]; rfl⟩
  generalize tD tLf = T at *
  simp [wp_v]
  exact fin
def P2 (gs : List D) (dd : D) : Prop := ∃ k, k < 40 ∧ gs = [deD "take" (pN k) [] tLf] ∧ dd = deD "put" "new" [] tLf
theorem case_2 (n : Nat) (h : Hs) (nu : Int) (h0 : 0 ≤ nu) : (F__law_case (n + 2) [.int 2, .int nu] h).wp (CaseQ 2 P2 h) xF := by
  rw [show F__law_case (n + 2) = _ from S__law_case (n + 1)]
  rw [kRaw_f, wp_run]
  refine ⟨rfl, ?_⟩
  unfold m__law_case
  simp only [startD, List.map_cons, List.map_nil, List.length_cons, List.length_nil]
  simp only [List.set_cons_succ, List.set_cons_zero, List.replicate, List.cons_append, List.nil_append]
  have m40 : ∀ i, cMod i 40 = true := fun _ => cMod_of (by decide)
  obtain ⟨k, hk, kl⟩ : ∃ k : Nat, nu % 40 = (k : Int) ∧ k < 40 := ⟨(nu % 40).toNat, by omega, by omega⟩
  obtain ⟨S, SS, hS, n1, n2⟩ : ∃ S SS : Str, S = pN k ∧ (∀ g, strT [.int (k : Int)] g = some (.str SS, g)) ∧ ∀ g, addF (.str "p") (.str SS) g = some (.str S, g) := ⟨pN k, _, rfl, fun g => (pN_D kl (g := g)).1, fun g => (pN_D kl (g := g)).2⟩
  refine st_set (tD tLf) h (by rw [dLf]; simp [wp_v]) ?_
  refine st_set (.str S) h (by simp [wp_v, m40, hk, n1, n2]) ?_
  simp only [List.set_cons_succ, List.set_cons_zero]
  clear n1 n2
  have fin : CaseQ 2 P2 h (.tup [.int 2, .loc h.length, .tup [.str "put", .str "new", .tup [], tD tLf]]) (h ++ [.lst [.tup [.str "take", .str S, .tup [], tD tLf]]]) := ⟨h.length, _, [deD "take" S [] tLf], _, rfl, rfl, by simp; rfl, k, kl, by rw [hS], rfl⟩
  generalize tD tLf = T at *
  simp [wp_v]
  exact fin
def P3 (gs : List D) (dd : D) : Prop := gs = [deD "put" "x" [] tLf] ∧ dd = deD "take" "x" [] tLf
theorem case_3 (n : Nat) (h : Hs) (nu : Int) (h0 : 0 ≤ nu) : (F__law_case (n + 2) [.int 3, .int nu] h).wp (CaseQ 3 P3 h) xF := by
  rw [show F__law_case (n + 2) = _ from S__law_case (n + 1)]
  rw [kRaw_f, wp_run]
  refine ⟨rfl, ?_⟩
  unfold m__law_case
  simp only [startD, List.map_cons, List.map_nil, List.length_cons, List.length_nil]
  simp only [List.set_cons_succ, List.set_cons_zero, List.replicate, List.cons_append, List.nil_append]
  have m40 : ∀ i, cMod i 40 = true := fun _ => cMod_of (by decide)
  obtain ⟨k, hk, kl⟩ : ∃ k : Nat, nu % 40 = (k : Int) ∧ k < 40 := ⟨(nu % 40).toNat, by omega, by omega⟩
  obtain ⟨S, SS, hS, n1, n2⟩ : ∃ S SS : Str, S = pN k ∧ (∀ g, strT [.int (k : Int)] g = some (.str SS, g)) ∧ ∀ g, addF (.str "p") (.str SS) g = some (.str S, g) := ⟨pN k, _, rfl, fun g => (pN_D kl (g := g)).1, fun g => (pN_D kl (g := g)).2⟩
  refine st_set (tD tLf) h (by rw [dLf]; simp [wp_v]) ?_
  refine st_set (.str S) h (by simp [wp_v, m40, hk, n1, n2]) ?_
  simp only [List.set_cons_succ, List.set_cons_zero]
  clear n1 n2
  have fin : CaseQ 3 P3 h (.tup [.int 3, .loc h.length, .tup [.str "take", .str "x", .tup [], tD tLf]]) (h ++ [.lst [.tup [.str "put", .str "x", .tup [], tD tLf]]]) := ⟨h.length, _, [deD "put" "x" [] tLf], _, rfl, rfl, by simp; rfl, rfl, rfl⟩
  generalize tD tLf = T at *
  simp [wp_v]
  exact fin
def P4 (gs : List D) (dd : D) : Prop := gs = [deD "put" "x" [] tLf] ∧ dd = deD "form" "x" [] tLf
theorem case_4 (n : Nat) (h : Hs) (nu : Int) (h0 : 0 ≤ nu) : (F__law_case (n + 2) [.int 4, .int nu] h).wp (CaseQ 3 P4 h) xF := by
  rw [show F__law_case (n + 2) = _ from S__law_case (n + 1)]
  rw [kRaw_f, wp_run]
  refine ⟨rfl, ?_⟩
  unfold m__law_case
  simp only [startD, List.map_cons, List.map_nil, List.length_cons, List.length_nil]
  simp only [List.set_cons_succ, List.set_cons_zero, List.replicate, List.cons_append, List.nil_append]
  have m40 : ∀ i, cMod i 40 = true := fun _ => cMod_of (by decide)
  obtain ⟨k, hk, kl⟩ : ∃ k : Nat, nu % 40 = (k : Int) ∧ k < 40 := ⟨(nu % 40).toNat, by omega, by omega⟩
  obtain ⟨S, SS, hS, n1, n2⟩ : ∃ S SS : Str, S = pN k ∧ (∀ g, strT [.int (k : Int)] g = some (.str SS, g)) ∧ ∀ g, addF (.str "p") (.str SS) g = some (.str S, g) := ⟨pN k, _, rfl, fun g => (pN_D kl (g := g)).1, fun g => (pN_D kl (g := g)).2⟩
  refine st_set (tD tLf) h (by rw [dLf]; simp [wp_v]) ?_
  refine st_set (.str S) h (by simp [wp_v, m40, hk, n1, n2]) ?_
  simp only [List.set_cons_succ, List.set_cons_zero]
  clear n1 n2
  have fin : CaseQ 3 P4 h (.tup [.int 3, .loc h.length, .tup [.str "form", .str "x", .tup [], tD tLf]]) (h ++ [.lst [.tup [.str "put", .str "x", .tup [], tD tLf]]]) := ⟨h.length, _, [deD "put" "x" [] tLf], _, rfl, rfl, by simp; rfl, rfl, rfl⟩
  generalize tD tLf = T at *
  simp [wp_v]
  exact fin
def P5 (gs : List D) (dd : D) : Prop := gs = [deD "put" "x" [] (chainT 2)] ∧ ∃ p : List Int, (p = [] ∨ p = [0] ∨ p = [0, 0]) ∧ dd = deD "change" "x" p tLf
theorem case_5 (n : Nat) (h : Hs) (nu : Int) (h0 : 0 ≤ nu) : (F__law_case (n + 2) [.int 5, .int nu] h).wp (CaseQ 3 P5 h) xF := by
  rw [show F__law_case (n + 2) = _ from S__law_case (n + 1)]
  rw [kRaw_f, wp_run]
  refine ⟨rfl, ?_⟩
  unfold m__law_case
  simp only [startD, List.map_cons, List.map_nil, List.length_cons, List.length_nil]
  simp only [List.set_cons_succ, List.set_cons_zero, List.replicate, List.cons_append, List.nil_append]
  have m40 : ∀ i, cMod i 40 = true := fun _ => cMod_of (by decide)
  obtain ⟨k, hk, kl⟩ : ∃ k : Nat, nu % 40 = (k : Int) ∧ k < 40 := ⟨(nu % 40).toNat, by omega, by omega⟩
  obtain ⟨S, SS, hS, n1, n2⟩ : ∃ S SS : Str, S = pN k ∧ (∀ g, strT [.int (k : Int)] g = some (.str SS, g)) ∧ ∀ g, addF (.str "p") (.str SS) g = some (.str S, g) := ⟨pN k, _, rfl, fun g => (pN_D kl (g := g)).1, fun g => (pN_D kl (g := g)).2⟩
  refine st_set (tD tLf) h (by rw [dLf]; simp [wp_v]) ?_
  refine st_set (.str S) h (by simp [wp_v, m40, hk, n1, n2]) ?_
  simp only [List.set_cons_succ, List.set_cons_zero]
  clear n1 n2
  have m3 : ∀ i, cMod i 3 = true := fun _ => cMod_of (by decide)
  have ch : ∀ h, F__law_chain_v3 (n + 1) [.int 3] h = .ok (tD (chainT 2)) h := fun h => lchain_ok n h 2 (by decide)
  obtain ⟨v, iv, vm⟩ := ix_any (h := h ++ [.lst [.tup [.str "put", .str "x", .tup [], tD (chainT 2)]], .lst [.tup [], .tup [.int 0], .tup [.int 0, .int 0]]]) (l := h.length + 1) (xs := [.tup [], .tup [.int 0], .tup [.int 0, .int 0]]) (k := nu % 3) (by simp) (by omega) (by simp; omega)
  obtain ⟨p, rfl, hp⟩ : ∃ p, v = .tup (plZ p) ∧ (p = [] ∨ p = [0] ∨ p = [0, 0]) := by
    simp only [List.mem_cons, List.not_mem_nil, or_false] at vm
    rcases vm with rfl | rfl | rfl
    · exact ⟨[], rfl, .inl rfl⟩
    · exact ⟨[0], rfl, .inr (.inl rfl)⟩
    · exact ⟨[0, 0], rfl, .inr (.inr rfl)⟩
  have fin : CaseQ 3 P5 h (.tup [.int 3, .loc h.length, .tup [.str "change", .str "x", .tup (plZ p), tD tLf]]) (h ++ [.lst [.tup [.str "put", .str "x", .tup [], tD (chainT 2)]], .lst [.tup [], .tup [.int 0], .tup [.int 0, .int 0]]]) := ⟨h.length, _, [deD "put" "x" [] (chainT 2)], _, rfl, rfl, by simp; rfl, rfl, p, hp, rfl⟩
  generalize tD tLf = T at *
  generalize tD (chainT 2) = T2 at *
  generalize plZ p = PP at *
  simp [wp_v, m3, ch, iv]
  exact fin
def P6 (gs : List D) (dd : D) : Prop := gs = [] ∧ ∃ (p : List Int) (t : Tr), dd = deD "change" "m" p t ∧ p.length ≤ 3 ∧ ∀ u, (chainT 2).put p u = none
theorem case_6 (n : Nat) (h : Hs) (nu : Int) (h0 : 0 ≤ nu) : (F__law_case (n + 2) [.int 6, .int nu] h).wp (CaseQ 4 P6 h) xF := by
  rw [show F__law_case (n + 2) = _ from S__law_case (n + 1)]
  rw [kRaw_f, wp_run]
  refine ⟨rfl, ?_⟩
  unfold m__law_case
  simp only [startD, List.map_cons, List.map_nil, List.length_cons, List.length_nil]
  simp only [List.set_cons_succ, List.set_cons_zero, List.replicate, List.cons_append, List.nil_append]
  have m40 : ∀ i, cMod i 40 = true := fun _ => cMod_of (by decide)
  obtain ⟨k, hk, kl⟩ : ∃ k : Nat, nu % 40 = (k : Int) ∧ k < 40 := ⟨(nu % 40).toNat, by omega, by omega⟩
  obtain ⟨S, SS, hS, n1, n2⟩ : ∃ S SS : Str, S = pN k ∧ (∀ g, strT [.int (k : Int)] g = some (.str SS, g)) ∧ ∀ g, addF (.str "p") (.str SS) g = some (.str S, g) := ⟨pN k, _, rfl, fun g => (pN_D kl (g := g)).1, fun g => (pN_D kl (g := g)).2⟩
  refine st_set (tD tLf) h (by rw [dLf]; simp [wp_v]) ?_
  refine st_set (.str S) h (by simp [wp_v, m40, hk, n1, n2]) ?_
  simp only [List.set_cons_succ, List.set_cons_zero]
  clear n1 n2
  have m5 : ∀ i, cMod i 5 = true := fun _ => cMod_of (by decide)
  have w9 : cPow 10 9 = true := cPow_of (by decide) (by decide) (by decide)
  have m9 : ∀ i, cMod i 1000000000 = true := fun _ => cMod_of (by decide)
  obtain ⟨X, hX⟩ : ∃ X : Hs, X = [.lst [.tup [.int 1], .tup [.int (-1)], .tup [.int 0, .int 0, .int 0], .tup [.int 0, .int 9], .tup [.int 0, .int (1 + nu % 1000000000)]]] := ⟨_, rfl⟩
  obtain ⟨v, iv, vm⟩ := ix_any (h := h ++ X) (l := h.length) (xs := [.tup [.int 1], .tup [.int (-1)], .tup [.int 0, .int 0, .int 0], .tup [.int 0, .int 9], .tup [.int 0, .int (1 + nu % 1000000000)]]) (k := nu % 5) (by rw [hX]; simp) (by omega) (by simp; omega)
  have cp : ∀ (k : Int) (p : List Int) (t : Tr) (u : Tr), ¬ (0 ≤ k ∧ k < t.parts.length) → t.put (k :: p) u = none := fun k p t u z => by rw [put_cons, if_neg z]
  have c0 : ∀ (p : List Int) (j : Nat) (u : Tr), (chainT j).put p u = none → (chainT (j + 1)).put (0 :: p) u = none := fun p j u z => by
    rw [put_cons]
    simp [chainT, Tr.parts]
    rw [z]
  obtain ⟨p, rfl, hp, hq⟩ : ∃ p, v = .tup (plZ p) ∧ p.length ≤ 3 ∧ ∀ u, (chainT 2).put p u = none := by
    simp only [List.mem_cons, List.not_mem_nil, or_false] at vm
    rcases vm with rfl | rfl | rfl | rfl | rfl
    · exact ⟨[1], rfl, by decide, fun u => cp _ _ _ _ (by simp [chainT, Tr.parts])⟩
    · exact ⟨[-1], rfl, by decide, fun u => cp _ _ _ _ (by simp)⟩
    · exact ⟨[0, 0, 0], rfl, by decide, fun u => c0 _ _ _ (c0 _ _ _ (cp _ _ _ _ (by simp [chainT, Tr.parts])))⟩
    · exact ⟨[0, 9], rfl, by decide, fun u => c0 _ _ _ (cp _ _ _ _ (by simp [chainT, Tr.parts]))⟩
    · exact ⟨[0, 1 + nu % 1000000000], rfl, by simp, fun u => c0 _ _ _ (cp _ _ _ _ (by
        have : 0 ≤ nu % 1000000000 := Int.emod_nonneg _ (by decide)
        simp [chainT, Tr.parts]
        omega))⟩
  obtain ⟨t, et, _⟩ := of_knots_ok n (h ++ X ++ [.lst []]) 200 (by decide) (by decide)
  have et : F__law_of_knots (n + 1) [.int 200] (h ++ X ++ [.lst []]) = .ok (tD t) (h ++ X ++ [.lst []]) := et
  have fin : CaseQ 4 P6 h (.tup [.int 4, .loc (h.length + 1), .tup [.str "change", .str "m", .tup (plZ p), tD t]]) (h ++ X ++ [.lst []]) := ⟨h.length + 1, X ++ [.lst []], [], _, rfl, by simp, by rw [hX]; simp, rfl, p, t, rfl, hp, hq⟩
  generalize tD tLf = T at *
  generalize tD t = T2 at *
  generalize plZ p = PP at *
  subst hX
  simp at iv et fin
  simp [wp_v, m5, w9, m9, iv, et]
  exact fin
def P7 (gs : List D) (dd : D) : Prop := gs = [deD "change" "m" [0, 0] (chainT 1)] ∧ dd = deD "change" "m" [0, 0, 0] tLf
theorem case_7 (n : Nat) (h : Hs) (nu : Int) (h0 : 0 ≤ nu) : (F__law_case (n + 2) [.int 7, .int nu] h).wp (CaseQ 4 P7 h) xF := by
  rw [show F__law_case (n + 2) = _ from S__law_case (n + 1)]
  rw [kRaw_f, wp_run]
  refine ⟨rfl, ?_⟩
  unfold m__law_case
  simp only [startD, List.map_cons, List.map_nil, List.length_cons, List.length_nil]
  simp only [List.set_cons_succ, List.set_cons_zero, List.replicate, List.cons_append, List.nil_append]
  have m40 : ∀ i, cMod i 40 = true := fun _ => cMod_of (by decide)
  obtain ⟨k, hk, kl⟩ : ∃ k : Nat, nu % 40 = (k : Int) ∧ k < 40 := ⟨(nu % 40).toNat, by omega, by omega⟩
  obtain ⟨S, SS, hS, n1, n2⟩ : ∃ S SS : Str, S = pN k ∧ (∀ g, strT [.int (k : Int)] g = some (.str SS, g)) ∧ ∀ g, addF (.str "p") (.str SS) g = some (.str S, g) := ⟨pN k, _, rfl, fun g => (pN_D kl (g := g)).1, fun g => (pN_D kl (g := g)).2⟩
  refine st_set (tD tLf) h (by rw [dLf]; simp [wp_v]) ?_
  refine st_set (.str S) h (by simp [wp_v, m40, hk, n1, n2]) ?_
  simp only [List.set_cons_succ, List.set_cons_zero]
  clear n1 n2
  have ch : ∀ h, F__law_chain_v3 (n + 1) [.int 2] h = .ok (tD (chainT 1)) h := fun h => lchain_ok n h 1 (by decide)
  have fin : CaseQ 4 P7 h (.tup [.int 4, .loc h.length, .tup [.str "change", .str "m", .tup [.int 0, .int 0, .int 0], tD tLf]]) (h ++ [.lst [.tup [.str "change", .str "m", .tup [.int 0, .int 0], tD (chainT 1)]]]) := ⟨h.length, _, [deD "change" "m" [0, 0] (chainT 1)], _, rfl, rfl, by simp; rfl, rfl, rfl⟩
  generalize tD tLf = T at *
  generalize tD (chainT 1) = T2 at *
  simp [wp_v, ch]
  exact fin
def P8 (gs : List D) (dd : D) : Prop := gs = [deD "change" "m" [0, 0] tLf] ∧ ∃ t : Tr, dd = deD "change" "m" [0, 0] t ∧ t.knots = 199 ∧ t.depth ≤ 24 ∧ t.sok
theorem case_8 (n : Nat) (h : Hs) (nu : Int) (h0 : 0 ≤ nu) : (F__law_case (n + 2) [.int 8, .int nu] h).wp (CaseQ 2 P8 h) xF := by
  rw [show F__law_case (n + 2) = _ from S__law_case (n + 1)]
  obtain ⟨kd, hkd⟩ : ∃ kd : Int, kd = 8 := ⟨8, rfl⟩
  rw [← hkd]
  rw [kRaw_f, wp_run]
  refine ⟨rfl, ?_⟩
  unfold m__law_case
  simp only [startD, List.map_cons, List.map_nil, List.length_cons, List.length_nil]
  simp only [List.set_cons_succ, List.set_cons_zero, List.replicate, List.cons_append, List.nil_append]
  have m40 : ∀ i, cMod i 40 = true := fun _ => cMod_of (by decide)
  obtain ⟨k, hk, kl⟩ : ∃ k : Nat, nu % 40 = (k : Int) ∧ k < 40 := ⟨(nu % 40).toNat, by omega, by omega⟩
  obtain ⟨S, SS, hS, n1, n2⟩ : ∃ S SS : Str, S = pN k ∧ (∀ g, strT [.int (k : Int)] g = some (.str SS, g)) ∧ ∀ g, addF (.str "p") (.str SS) g = some (.str S, g) := ⟨pN k, _, rfl, fun g => (pN_D kl (g := g)).1, fun g => (pN_D kl (g := g)).2⟩
  refine st_set (tD tLf) h (by rw [dLf]; simp [wp_v]) ?_
  refine st_set (.str S) h (by simp [wp_v, m40, hk, n1, n2]) ?_
  simp only [List.set_cons_succ, List.set_cons_zero]
  clear n1 n2
  obtain ⟨t, et, t1, t2, t3⟩ := of_knots_ok n (h ++ [.lst [.tup [.str "change", .str "m", .tup [.int 0, .int 0], tD tLf]]]) 199 (by decide) (by decide)
  have et : F__law_of_knots (n + 1) [.int 199] (h ++ [.lst [.tup [.str "change", .str "m", .tup [.int 0, .int 0], tD tLf]]]) = .ok (tD t) (h ++ [.lst [.tup [.str "change", .str "m", .tup [.int 0, .int 0], tD tLf]]]) := et
  have fin : CaseQ 2 P8 h (.tup [.int 2, .loc h.length, .tup [.str "change", .str "m", .tup [.int 0, .int 0], tD t]]) (h ++ [.lst [.tup [.str "change", .str "m", .tup [.int 0, .int 0], tD tLf]]]) := ⟨h.length, _, [deD "change" "m" [0, 0] tLf], _, rfl, rfl, by simp; rfl, rfl, t, rfl, t1, by omega, t3⟩
  generalize tD tLf = T at *
  generalize tD t = T2 at *
  have z0 : ¬ kd = 0 := by omega
  have z1 : ¬ kd = 1 := by omega
  have z2 : ¬ kd = 2 := by omega
  have z3 : ¬ kd = 3 := by omega
  have z4 : ¬ kd = 4 := by omega
  have z5 : ¬ kd = 5 := by omega
  have z6 : ¬ kd = 6 := by omega
  have z7 : ¬ kd = 7 := by omega
  simp [wp_v, et, z0, z1, z2, z3, z4, z5, z6, z7, hkd]
  exact fin
def P9 (gs : List D) (dd : D) : Prop := gs = [deD "change" "m" [0, 0] tLf] ∧ dd = deD "change" "m" [0, 0] (chainT 28)
theorem case_9 (n : Nat) (h : Hs) (nu : Int) (h0 : 0 ≤ nu) : (F__law_case (n + 2) [.int 9, .int nu] h).wp (CaseQ 2 P9 h) xF := by
  rw [show F__law_case (n + 2) = _ from S__law_case (n + 1)]
  rw [kRaw_f, wp_run]
  refine ⟨rfl, ?_⟩
  unfold m__law_case
  simp only [startD, List.map_cons, List.map_nil, List.length_cons, List.length_nil]
  simp only [List.set_cons_succ, List.set_cons_zero, List.replicate, List.cons_append, List.nil_append]
  have m40 : ∀ i, cMod i 40 = true := fun _ => cMod_of (by decide)
  obtain ⟨k, hk, kl⟩ : ∃ k : Nat, nu % 40 = (k : Int) ∧ k < 40 := ⟨(nu % 40).toNat, by omega, by omega⟩
  obtain ⟨S, SS, hS, n1, n2⟩ : ∃ S SS : Str, S = pN k ∧ (∀ g, strT [.int (k : Int)] g = some (.str SS, g)) ∧ ∀ g, addF (.str "p") (.str SS) g = some (.str S, g) := ⟨pN k, _, rfl, fun g => (pN_D kl (g := g)).1, fun g => (pN_D kl (g := g)).2⟩
  refine st_set (tD tLf) h (by rw [dLf]; simp [wp_v]) ?_
  refine st_set (.str S) h (by simp [wp_v, m40, hk, n1, n2]) ?_
  simp only [List.set_cons_succ, List.set_cons_zero]
  clear n1 n2
  have ch : ∀ h, F__law_chain_v3 (n + 1) [.int 29] h = .ok (tD (chainT 28)) h := fun h => lchain_ok n h 28 (by decide)
  have fin : CaseQ 2 P9 h (.tup [.int 2, .loc h.length, .tup [.str "change", .str "m", .tup [.int 0, .int 0], tD (chainT 28)]]) (h ++ [.lst [.tup [.str "change", .str "m", .tup [.int 0, .int 0], tD tLf]]]) := ⟨h.length, _, [deD "change" "m" [0, 0] tLf], _, rfl, rfl, by simp; rfl, rfl, rfl⟩
  generalize tD tLf = T at *
  generalize tD (chainT 28) = T2 at *
  simp [wp_v, ch]
  exact fin
theorem less_8 (n : Nat) (h : Hs) (dd : D) : ∃ t : Tr, F__law_less (n + 2) [.int 8, dd] h = .ok (deD "change" "m" [0, 0] t) h ∧ t.knots = 198 ∧ t.depth ≤ 24 ∧ t.sok := by
  obtain ⟨t, et, t1, t2, t3⟩ := of_knots_ok n h 198 (by decide) (by decide)
  have et : F__law_of_knots (n + 1) [.int 198] h = .ok (tD t) h := et
  refine ⟨t, ?_, t1, by omega, t3⟩
  rw [show F__law_less (n + 2) = _ from S__law_less (n + 1)]
  refine R.wp_eq.mp ?_
  rw [wp_pure, wp_run]
  refine ⟨rfl, ?_⟩
  unfold m__law_less deD
  simp only [startD, List.map_cons, List.map_nil, List.length_cons, List.length_nil]
  have nl := noloc_tD t
  have pz : plZ [0, 0] = [.int 0, .int 0] := rfl
  rw [pz]
  generalize tD t = T2 at *
  simp [wp_v, et, noloc, nolocL, nl]
theorem less_9 (n : Nat) (h : Hs) (dd : D) : F__law_less (n + 2) [.int 9, dd] h = .ok (deD "change" "m" [0, 0] (chainT 27)) h := by
  have ch : ∀ h, F__law_chain_v3 (n + 1) [.int 28] h = .ok (tD (chainT 27)) h := fun h => lchain_ok n h 27 (by decide)
  rw [show F__law_less (n + 2) = _ from S__law_less (n + 1)]
  refine R.wp_eq.mp ?_
  rw [wp_pure, wp_run]
  refine ⟨rfl, ?_⟩
  unfold m__law_less deD
  simp only [startD, List.map_cons, List.map_nil, List.length_cons, List.length_nil]
  have nl := noloc_tD (chainT 27)
  have pz : plZ [0, 0] = [.int 0, .int 0] := rfl
  rw [pz]
  generalize tD (chainT 27) = T2 at *
  simp [wp_v, ch, noloc, nolocL, nl]
theorem less_no (n : Nat) (h : Hs) (k : Int) (dd : D) (nl : noloc dd = true) (h8 : k ≠ 8) (h9 : k ≠ 9) : F__law_less (n + 2) [.int k, dd] h = .ok dd h := by
  rw [show F__law_less (n + 2) = _ from S__law_less (n + 1)]
  refine R.wp_eq.mp ?_
  rw [wp_pure, wp_run]
  refine ⟨rfl, ?_⟩
  unfold m__law_less
  simp only [startD, List.map_cons, List.map_nil, List.length_cons, List.length_nil]
  simp [wp_v, h8, h9, nl]
end DV
namespace DV
open PySem PySem.Spec PyProof.Rows L2
def Told (kind : Int) (dd : D) (c : Nat) (h : Hs) : Prop := ∃ dl, F__law_less 229 [.int kind, dd] h = .ok dl h ∧ (F__law_do 229 [.loc c, dl] h).wp (fun r h' => (Keeps h h' ∧ h.length ≤ h'.length) ∧ (kind ≠ 4 ∧ r = .non ∨ kind = 4 ∧ r = tD tLf)) xF
structure KF (kind : Int) (due : Nat) (gs : List D) (dd : D) : Prop where
  ref : ∀ (h : Hs) (c d : Nat), Cab h c d (fsOf kind) 41 → ∃ x q, F__law_refused_v4 229 [.loc c, dd] h = .ok (.loc x) (h ++ q) ∧ (h ++ q)[x]? = some (.lst ((dueB due).map D.bl))
  good : gs = [] ∨ ∃ g, gs = [g] ∧ ∀ (h : Hs) (c d : Nat), Cab h c d (fsOf kind) 41 → (F__law_do 229 [.loc c, g] h).wp (fun r h1 => (Keeps h h1 ∧ h.length ≤ h1.length) ∧ ∀ q, Told kind dd c (h1 ++ q)) xF
  eqk : ∀ p ∈ fsOf kind, p.2.eqk
theorem noloc_deD (k s : Str) (p : List Int) (t : Tr) : noloc (deD k s p t) = true := by
  have : ∀ p : List Int, nolocL (plZ p) = true := fun p => by
    induction p with
    | nil => rfl
    | cons a p ih => show nolocL (.int a :: plZ p) = true; rw [nolocL, ih]; rfl
  simp [deD, noloc, nolocL, this, noloc_tD]
theorem eqk_lf : tLf.eqk := ⟨sok_lf, by rw [de_lf]; omega⟩
theorem eqk_chain {k : Nat} (h : k ≤ 90) : (chainT k).eqk := by
  obtain ⟨a, b, c⟩ := chain_facts k
  exact ⟨c, by omega⟩
theorem fsOf_p {k : Int} (h : k < 3) : fsOf k = fsP 40 := by unfold fsOf; rw [if_pos h]
theorem fsOf_m {k : Int} (h : 5 < k) : fsOf k = [(("m" : Str), chainT 2)] := by unfold fsOf; rw [if_neg (by omega), if_pos h]
theorem fsOf_0 {k : Int} (h : 3 ≤ k) (g : k ≤ 5) : fsOf k = [] := by unfold fsOf; rw [if_neg (by omega), if_neg (by omega)]
theorem eqk_of (k : Int) : ∀ p ∈ fsOf k, p.2.eqk := by
  intro p hp
  by_cases h : k < 3
  · rw [fsOf_p h] at hp
    rw [fsP_lf 40 p hp]; exact eqk_lf
  · by_cases g : 5 < k
    · rw [fsOf_m g] at hp
      rw [List.mem_singleton.mp hp]
      exact eqk_chain (by omega)
    · rw [fsOf_0 (by omega) (by omega)] at hp
      cases hp
section
variable {c d H : Nat} {h : Hs} {fs : List (Str × Tr)} {s : Str} {t u w : Tr} {p : List Int} {E : Str} {kind : Int}
theorem xput (C : Cab h c d fs H) (e : F_Cabinet_put 227 [.loc c, .str s, tD t] h = .exc E h) : F__law_do 228 [.loc c, deD "put" s p t] h = .exc E h := exc_of_wp (do_put (n := 227) C (by rw [e]; exact ⟨rfl, rfl⟩))
theorem xtake (C : Cab h c d fs H) (e : F_Cabinet_take 227 [.loc c, .str s] h = .exc E h) : F__law_do 228 [.loc c, deD "take" s p t] h = .exc E h := exc_of_wp (do_take (n := 227) C (by rw [e]; exact ⟨rfl, rfl⟩))
theorem xform (C : Cab h c d fs H) (e : F_Cabinet_form_of 227 [.loc c, .str s] h = .exc E h) : F__law_do 228 [.loc c, deD "form" s p t] h = .exc E h := exc_of_wp (do_form (n := 227) C (by rw [e]; exact ⟨rfl, rfl⟩))
theorem xchange (C : Cab h c d fs H) (e : F_Cabinet_change_v6 227 [.loc c, .str s, .tup (plZ p), tD t] h = .exc E h) : F__law_do 228 [.loc c, deD "change" s p t] h = .exc E h := exc_of_wp (do_change (n := 227) C (by rw [e]; exact ⟨rfl, rfl⟩))
theorem told_non {r : D} {h' : Hs} {fs' : List (Str × Tr)} {H' : Nat} (k4 : kind ≠ 4) (q : DoneQ h c d fs' H' r h') : (Keeps h h' ∧ h.length ≤ h'.length) ∧ (kind ≠ 4 ∧ r = .non ∨ kind = 4 ∧ r = tD tLf) := ⟨⟨q.2.1, q.2.2.1⟩, .inl ⟨k4, q.1⟩⟩
end
theorem nm_x : nameB ("x" : Str) = true := by decide +kernel
theorem nm_new : nameB ("new" : Str) = true := by decide +kernel
theorem new_no {k : Nat} (h : k ≤ 40) : ("new" : Str) ∉ ksS (fsP k) := fun m => by
  rw [ksP] at m
  obtain ⟨i, hi, e⟩ := List.mem_map.mp m
  exact (pN_ok (by have := List.mem_range.mp hi; omega)).2.2 e
theorem kf_0 {gs : List D} {dd : D} (P : P0 gs dd) : KF 0 0 gs dd := by
  obtain ⟨rfl, s, rfl, b, sl⟩ := P
  refine ⟨fun h c d C => ?_, .inl rfl, eqk_of 0⟩
  exact refused_BadName 228 h (.loc c) _ (xput C (put_bad (n := 225) C sl b))
theorem kf_1 {gs : List D} {dd : D} (P : P1 gs dd) : KF 1 1 gs dd := by
  obtain ⟨rfl, k, kl, rfl⟩ := P
  refine ⟨fun h c d C => ?_, .inl rfl, eqk_of 1⟩
  exact refused_Twice 228 h (.loc c) _ (xput C (put_twice (n := 225) C (pN_ok kl).1 (by rw [fsOf_p (by decide)]; exact pN_mem kl)))
theorem kf_2 {gs : List D} {dd : D} (P : P2 gs dd) : KF 2 2 gs dd := by
  obtain ⟨k, kl, rfl, rfl⟩ := P
  refine ⟨fun h c d C => ?_, .inr ⟨_, rfl, fun h c d C => ?_⟩, eqk_of 2⟩
  · exact refused_TooLong 228 h (.loc c) _ (xput C (put_full (n := 225) C nm_new (by rw [fsOf_p (by decide)]; exact new_no (by omega)) (by rw [fsOf_p (by decide)]; simp [fsP])))
  · rw [fsOf_p (by decide)] at C
    refine do_take (n := 228) C (R.wp_mono (take_ok (n := 227) C (pN_mem kl) (.inr (fsP_lf 40)) (by omega)) ?_ (fun _ _ z => z))
    rintro r h1 ⟨rfl, kp, ll, C1⟩
    refine ⟨⟨kp, ll⟩, fun q => ⟨_, less_no 227 _ 2 _ (noloc_deD _ _ _ _) (by decide) (by decide), ?_⟩⟩
    have C2 := C1.app q
    refine do_put (n := 228) C2 (R.wp_mono (put_new (n := 226) C2 nm_new ?_ ?_ (by omega) (.inr ⟨?_, rfl⟩)) (fun r h' q => told_non (by decide) q) (fun _ _ z => z))
    · rw [ksS_drop]
      exact fun m => new_no (Nat.le_refl 40) (mem_without m)
    · have : (outS (fsP 40) (pN k)).length < (fsP 40).length := by
        unfold outS
        rw [List.length_filter_lt_length_iff_exists]
        exact ⟨(pN k, tLf), List.mem_map.mpr ⟨k, List.mem_range.mpr kl, rfl⟩, by simp⟩
      have l40 : (fsP 40).length = 40 := by simp [fsP]
      omega
    · exact fun p hp => fsP_lf 40 p (List.mem_filter.mp hp).1
theorem cab_x {h : Hs} {c d : Nat} {t : Tr} (C : Cab h c d [] 41) : (F_Cabinet_put 228 [.loc c, .str "x", tD t] h).wp (DoneQ h c d [("x", t)] 42) xF := put_new (n := 226) (s := "x") (t := t) C nm_x (by simp [ksS]) (by simp) (by omega) (.inl rfl)
theorem kf_3 {gs : List D} {dd : D} (P : P3 gs dd) : KF 3 3 gs dd := by
  obtain ⟨rfl, rfl⟩ := P
  refine ⟨fun h c d C => ?_, .inr ⟨_, rfl, fun h c d C => ?_⟩, eqk_of 3⟩
  · exact refused_NoForm 228 h (.loc c) _ (xtake C (take_none (n := 226) C (by rw [fsOf_0 (by decide) (by decide)]; simp [ksS])))
  · rw [fsOf_0 (by decide) (by decide)] at C
    refine do_put (n := 228) C (R.wp_mono (cab_x C) ?_ (fun _ _ z => z))
    rintro r h1 ⟨rfl, kp, ll, C1⟩
    refine ⟨⟨kp, ll⟩, fun q => ⟨_, less_no 227 _ 3 _ (noloc_deD _ _ _ _) (by decide) (by decide), ?_⟩⟩
    have C2 := C1.app q
    exact do_take (n := 228) C2 (R.wp_mono (take_ok (n := 227) C2 (by simp [ksS]) (.inl (by simp)) (by omega)) (fun r h' q => told_non (by decide) q) (fun _ _ z => z))
theorem kf_4 {gs : List D} {dd : D} (P : P4 gs dd) : KF 4 3 gs dd := by
  obtain ⟨rfl, rfl⟩ := P
  refine ⟨fun h c d C => ?_, .inr ⟨_, rfl, fun h c d C => ?_⟩, eqk_of 4⟩
  · exact refused_NoForm 228 h (.loc c) _ (xform C (form_none (n := 226) C (by rw [fsOf_0 (by decide) (by decide)]; simp [ksS])))
  · rw [fsOf_0 (by decide) (by decide)] at C
    refine do_put (n := 228) C (R.wp_mono (cab_x C) ?_ (fun _ _ z => z))
    rintro r h1 ⟨rfl, kp, ll, C1⟩
    refine ⟨⟨kp, ll⟩, fun q => ⟨_, less_no 227 _ 4 _ (noloc_deD _ _ _ _) (by decide) (by decide), ?_⟩⟩
    have C2 := C1.app q
    have fo := form_ok (n := 227) (t := tLf) C2 (List.mem_singleton.mpr rfl)
    refine do_form (n := 228) C2 ?_
    rw [show F_Cabinet_form_of 228 [.loc c, .str "x"] (h1 ++ q) = .ok (tD tLf) (h1 ++ q) from fo]
    exact ⟨⟨Keeps.refl _, Nat.le_refl _⟩, .inr ⟨rfl, rfl⟩⟩
theorem c2_eq : chainT 2 = .bk "c" [.bk "c" [.bk "c" []]] := rfl
theorem put00 (x u : Tr) : (Tr.bk "c" [.bk "c" [x]]).put [0, 0] u = some (.bk "c" [.bk "c" [u]]) := by simp [put_cons, put_nil, Tr.parts, Tr.setPart]
theorem put0 (x u : Tr) : (Tr.bk "c" [x]).put [0] u = some (.bk "c" [u]) := by simp [put_cons, put_nil, Tr.parts, Tr.setPart]
theorem cc_facts (u : Tr) : (Tr.bk "c" [.bk "c" [u]]).knots = 2 + u.knots ∧ (Tr.bk "c" [.bk "c" [u]]).depth = 2 + u.depth := by
  constructor
  · simp [Tr.knots, knotsL]; omega
  · simp [Tr.depth, depthL]; omega
theorem kf_5 {gs : List D} {dd : D} (P : P5 gs dd) : KF 5 3 gs dd := by
  obtain ⟨rfl, p, hp, rfl⟩ := P
  refine ⟨fun h c d C => ?_, .inr ⟨_, rfl, fun h c d C => ?_⟩, eqk_of 5⟩
  · exact refused_NoForm 228 h (.loc c) _ (xchange C (change_none (n := 225) C (by rw [fsOf_0 (by decide) (by decide)]; simp [ksS])))
  · rw [fsOf_0 (by decide) (by decide)] at C
    refine do_put (n := 228) C (R.wp_mono (cab_x C) ?_ (fun _ _ z => z))
    rintro r h1 ⟨rfl, kp, ll, C1⟩
    refine ⟨⟨kp, ll⟩, fun q => ⟨_, less_no 227 _ 5 _ (noloc_deD _ _ _ _) (by decide) (by decide), ?_⟩⟩
    have C2 := C1.app q
    have kl := kn_lf
    have dl := de_lf
    obtain ⟨w, e, wk, wd⟩ : ∃ w, (chainT 2).put p tLf = some w ∧ w.knots ≤ 200 ∧ w.depth ≤ 30 := by
      rcases hp with rfl | rfl | rfl
      · exact ⟨tLf, put_nil _ _, by omega, by omega⟩
      · refine ⟨_, put0 _ _, ?_, ?_⟩
        · simp [Tr.knots, knotsL]; omega
        · simp [Tr.depth, depthL]; omega
      · obtain ⟨a, b⟩ := cc_facts tLf
        exact ⟨_, put00 _ _, by omega, by omega⟩
    have pl : p.length ≤ 2 := by rcases hp with rfl | rfl | rfl <;> simp
    exact do_change (n := 228) C2 (R.wp_mono (change_ok (n := 227) C2 (by omega) (by have := (chain_facts 2).1; omega) e wk wd (by omega)) (fun r h' q => told_non (by decide) q) (fun _ _ z => z))
theorem kf_6 {gs : List D} {dd : D} (P : P6 gs dd) : KF 6 4 gs dd := by
  obtain ⟨rfl, p, t, rfl, pl, pn⟩ := P
  refine ⟨fun h c d C => ?_, .inl rfl, eqk_of 6⟩
  rw [fsOf_m (by decide)] at C
  exact refused_NoPlace 228 h (.loc c) _ (xchange C (change_noplace (n := 226) C (List.mem_singleton.mpr rfl) (by omega) (by have := (chain_facts 2).1; omega) (pn t)))
theorem kf_7 {gs : List D} {dd : D} (P : P7 gs dd) : KF 7 4 gs dd := by
  obtain ⟨rfl, rfl⟩ := P
  refine ⟨fun h c d C => ?_, .inr ⟨_, rfl, fun h c d C => ?_⟩, eqk_of 7⟩
  · rw [fsOf_m (by decide)] at C
    exact refused_NoPlace 228 h (.loc c) _ (xchange C (change_noplace (n := 226) C (List.mem_singleton.mpr rfl) (by decide) (by have := (chain_facts 2).1; omega) (by rw [c2_eq]; simp [put_cons, put_nil, Tr.parts, Tr.setPart])))
  · rw [fsOf_m (by decide)] at C
    obtain ⟨a, b⟩ := cc_facts (chainT 1)
    have k1 := (chain_facts 1).1
    have d1 := (chain_facts 1).2.1
    refine do_change (n := 228) C (R.wp_mono (change_ok (n := 227) C (by decide) (by have := (chain_facts 2).1; omega) (put00 _ _) (by omega) (by omega) (by omega)) ?_ (fun _ _ z => z))
    rintro r h1 ⟨rfl, kp, ll, C1⟩
    refine ⟨⟨kp, ll⟩, fun q => ⟨_, less_no 227 _ 7 _ (noloc_deD _ _ _ _) (by decide) (by decide), ?_⟩⟩
    have C2 := C1.app q
    have e : (Tr.bk "c" [.bk "c" [chainT 1]]).put [0, 0, 0] tLf = some (.bk "c" [.bk "c" [.bk "c" [tLf]]]) := by simp [chainT, put_cons, put_nil, Tr.parts, Tr.setPart]
    have kl := kn_lf
    have dl := de_lf
    exact do_change (n := 228) C2 (R.wp_mono (change_ok (n := 227) C2 (by decide) (by omega) e (by simp [Tr.knots, knotsL]; omega) (by simp [Tr.depth, depthL]; omega) (by omega)) (fun r h' q => told_non (by decide) q) (fun _ _ z => z))
theorem kf_8 {gs : List D} {dd : D} (P : P8 gs dd) : KF 8 2 gs dd := by
  obtain ⟨rfl, t, rfl, tk, td, ts⟩ := P
  refine ⟨fun h c d C => ?_, .inr ⟨_, rfl, fun h c d C => ?_⟩, eqk_of 8⟩
  · rw [fsOf_m (by decide)] at C
    obtain ⟨a, b⟩ := cc_facts t
    exact refused_TooLong 228 h (.loc c) _ (xchange C (change_long (n := 226) C (List.mem_singleton.mpr rfl) (by decide) (by have := (chain_facts 2).1; omega) (put00 _ _) (by omega) (by omega) (.inl (by omega))))
  · rw [fsOf_m (by decide)] at C
    have kl := kn_lf
    have dl := de_lf
    obtain ⟨a, b⟩ := cc_facts tLf
    refine do_change (n := 228) C (R.wp_mono (change_ok (n := 227) C (by decide) (by have := (chain_facts 2).1; omega) (put00 _ _) (by omega) (by omega) (by omega)) ?_ (fun _ _ z => z))
    rintro r h1 ⟨rfl, kp, ll, C1⟩
    refine ⟨⟨kp, ll⟩, fun q => ?_⟩
    obtain ⟨t2, e2, k2, d2, s2⟩ := less_8 227 (h1 ++ q) (deD "change" "m" [0, 0] t)
    obtain ⟨a2, b2⟩ := cc_facts t2
    refine ⟨_, e2, ?_⟩
    have C2 := C1.app q
    exact do_change (n := 228) C2 (R.wp_mono (change_ok (n := 227) C2 (by decide) (by omega) (put00 _ _) (by omega) (by omega) (by omega)) (fun r h' q => told_non (by decide) q) (fun _ _ z => z))
theorem kf_9 {gs : List D} {dd : D} (P : P9 gs dd) : KF 9 2 gs dd := by
  obtain ⟨rfl, rfl⟩ := P
  refine ⟨fun h c d C => ?_, .inr ⟨_, rfl, fun h c d C => ?_⟩, eqk_of 9⟩
  · rw [fsOf_m (by decide)] at C
    obtain ⟨a, b⟩ := cc_facts (chainT 28)
    have k1 := (chain_facts 28).1
    have d1 := (chain_facts 28).2.1
    exact refused_TooLong 228 h (.loc c) _ (xchange C (change_long (n := 226) C (List.mem_singleton.mpr rfl) (by decide) (by have := (chain_facts 2).1; omega) (put00 _ _) (by omega) (by omega) (.inr (by omega))))
  · rw [fsOf_m (by decide)] at C
    have kl := kn_lf
    have dl := de_lf
    obtain ⟨a, b⟩ := cc_facts tLf
    refine do_change (n := 228) C (R.wp_mono (change_ok (n := 227) C (by decide) (by have := (chain_facts 2).1; omega) (put00 _ _) (by omega) (by omega) (by omega)) ?_ (fun _ _ z => z))
    rintro r h1 ⟨rfl, kp, ll, C1⟩
    refine ⟨⟨kp, ll⟩, fun q => ⟨_, less_9 227 (h1 ++ q) _, ?_⟩⟩
    obtain ⟨a2, b2⟩ := cc_facts (chainT 27)
    have k1 := (chain_facts 27).1
    have d1 := (chain_facts 27).2.1
    have C2 := C1.app q
    exact do_change (n := 228) C2 (R.wp_mono (change_ok (n := 227) C2 (by decide) (by omega) (put00 _ _) (by omega) (by omega) (by omega)) (fun r h' q => told_non (by decide) q) (fun _ _ z => z))
end DV
namespace DV
open PySem PySem.Spec PyProof.Rows L2
def CaseR (kind : Int) (h : Hs) (r : D) (h' : Hs) : Prop := ∃ (due gl : Nat) (q : Hs) (gs : List D) (dd : D), r = .tup [.int (due : Int), .loc gl, dd] ∧ h' = h ++ q ∧ h'[gl]? = some (.lst gs) ∧ KF kind due gs dd
theorem case_r {kind : Int} {due : Nat} {P : List D → D → Prop} {h : Hs} {F : R D} (w : F.wp (CaseQ due P h) xF) (k : ∀ gs dd, P gs dd → KF kind due gs dd) : F.wp (CaseR kind h) xF := R.wp_mono w (by
  rintro r h' ⟨gl, q, gs, dd, rfl, rfl, g, p⟩
  exact ⟨due, gl, q, gs, dd, rfl, rfl, g, k gs dd p⟩) (fun _ _ z => z)
theorem case_all (h : Hs) (kind nu : Int) (k0 : 0 ≤ kind) (k9 : kind < 10) (h0 : 0 ≤ nu) : (F__law_case 229 [.int kind, .int nu] h).wp (CaseR kind h) xF := by
  rcases (show kind = 0 ∨ kind = 1 ∨ kind = 2 ∨ kind = 3 ∨ kind = 4 ∨ kind = 5 ∨ kind = 6 ∨ kind = 7 ∨ kind = 8 ∨ kind = 9 by omega) with rfl | rfl | rfl | rfl | rfl | rfl | rfl | rfl | rfl | rfl
  · exact case_r (case_0 227 h nu h0) fun _ _ => kf_0
  · exact case_r (case_1 227 h nu h0) fun _ _ => kf_1
  · exact case_r (case_2 227 h nu h0) fun _ _ => kf_2
  · exact case_r (case_3 227 h nu h0) fun _ _ => kf_3
  · exact case_r (case_4 227 h nu h0) fun _ _ => kf_4
  · exact case_r (case_5 227 h nu h0) fun _ _ => kf_5
  · exact case_r (case_6 227 h nu h0) fun _ _ => kf_6
  · exact case_r (case_7 227 h nu h0) fun _ _ => kf_7
  · exact case_r (case_8 227 h nu h0) fun _ _ => kf_8
  · exact case_r (case_9 227 h nu h0) fun _ _ => kf_9
theorem pyOk_strs : ∀ ss : List Str, (∀ s ∈ ss, PyData.strOk s = true) → pyOkL (ss.map D.str) = true ∧ depL (ss.map D.str) = 0
  | [], _ => ⟨rfl, rfl⟩
  | s :: ss, h => by
    obtain ⟨a, b⟩ := pyOk_strs ss fun x hx => h x (List.mem_cons_of_mem _ hx)
    refine ⟨?_, ?_⟩
    · rw [List.map_cons, pyOkL, a]
      have := h s List.mem_cons_self
      simp [pyOk, this]
    · rw [List.map_cons, depL, b]; rfl
/-- what was asked of the cabinet is so -/
theorem asked_ok (G : Hs) (c d : Nat) (kind : Int) (lah due gl : Nat) (gs : List D) (dd : D) (ns : List Int) (x1 x2 x9 x10 x11 : Option D) (C : Cab G c d (fsOf kind) 41) (K : KF kind due gs dd) (ah : G[lah]? = some (.lst ((srtS (ksS (fsOf kind))).map D.str))) :
    ∃ q, ((orM (tbM (binM neF (callM (F__law_refused_v4 229) (consA (vM 7) (consA (vM 6) nilA))) (binM addF (lcM [9] (rngI rng1 (consA (cM (.int 7)) nilA)) (nameG 9) (yesM) (binM eqF (vM 9) (vM 4))) (argM lstF (consA (cM (.bl true)) nilA))))) (tbM (binM neF (methM "Cabinet" "names" (F_Cabinet_names 229) (vM 7) nilA) (vM 8))))
      [some (.ro ns), x1, x2, some (.int kind), some (.int (due : Int)), some (.loc gl), some dd, some (.loc c), some (.loc lah), x9, x10, x11] G).wp (fun b h' => b = false ∧ h' = G ++ q) xF := by
  obtain ⟨x, q, er, ex⟩ := K.ref G c d C
  obtain ⟨B7, hB7⟩ : ∃ B7 : List Bool, B7 = (List.range 7).map fun j => decide (j = due) := ⟨_, rfl⟩
  have B7l : B7.length = 7 := by rw [hB7]; simp
  have dB : dueB due = B7 ++ [true] := by rw [hB7]; rfl
  obtain ⟨G1, hG1⟩ : ∃ G1, G1 = G ++ q := ⟨_, rfl⟩
  rw [← hG1] at er ex
  have C1 : Cab G1 c d (fsOf kind) 41 := by rw [hG1]; exact C.app q
  have ah1 : G1[lah]? = some (.lst ((srtS (ksS (fsOf kind))).map D.str)) := by rw [hG1]; exact get_app ah
  have ir : inR 7 = true := inR_of (by decide) (by decide)
  have lc := lc_map1 (h0 := G1) (gd := fun _ => True) (i := 9) (A := binM eqF (vM 9) (vM 4)) (ds := [some (.ro ns), x1, x2, some (.int kind), some (.int (due : Int)), some (.loc gl), some dd, some (.loc c), some (.loc lah), none, x10, x11])
    ((List.range 7).map fun i : Nat => D.int i) (B7.map D.bl) (by simp [B7l]) (by simp) (fun _ => trivial) (fun k d y acc e1 e2 => by
      have kl : k < 7 := by
        have := (List.getElem?_eq_some_iff.mp e1).1
        rw [List.length_map, List.length_range] at this
        exact this
      rw [List.getElem?_map, List.getElem?_range kl] at e1
      rw [hB7, List.map_map, List.getElem?_map, List.getElem?_range kl] at e2
      cases e1
      cases e2
      refine R.wp_eq.mp ?_
      by_cases z : k = due
      · subst z; simp [wp_v]
      · have z' : ¬ (k : Int) = (due : Int) := by omega
        simp [wp_v, z, z'])
  obtain ⟨O1, hO1⟩ : ∃ O1, O1 = AO.lst (B7.map D.bl) := ⟨_, rfl⟩
  obtain ⟨O2, hO2⟩ : ∃ O2, O2 = AO.lst [D.bl true] := ⟨_, rfl⟩
  obtain ⟨O3, hO3⟩ : ∃ O3, O3 = AO.lst ((dueB due).map D.bl) := ⟨_, rfl⟩
  obtain ⟨O4, hO4⟩ : ∃ O4, O4 = AO.lst ((srtS (ksS (fsOf kind))).map D.str) := ⟨_, rfl⟩
  have ad := add_lsts (h := G1 ++ [O1, O2]) (i := G1.length) (j := G1.length + 1) (xs := B7.map D.bl) (ys := [.bl true]) (by rw [hO1]; simp) (by rw [hO2]; simp) (by simp [B7l])
  rw [show B7.map D.bl ++ [.bl true] = (dueB due).map D.bl by rw [dB]; simp, ← hO3] at ad
  have nb := ne_bools (h := G1 ++ [O1, O2, O3]) (i := x) (j := G1.length + 2) (bs := dueB due) (cs := dueB due) (get_app ex) (by rw [hO3]; simp)
  rw [decide_eq_true rfl] at nb
  have cn := cnames_ok (n := 228) (C1.app [O1, O2, O3])
  rw [← hO4] at cn
  obtain ⟨po, pz⟩ := pyOk_strs (srtS (ksS (fsOf kind))) fun s hs => strOk_name (C.nm s ((srtS_perm _).mem_iff.mp hs))
  have nn := ne_lst_same (h := G1 ++ [O1, O2, O3, O4]) (i := G1.length + 3) (j := lah) (by rw [hO4]; simp) (get_app ah1) po (by omega)
  obtain ⟨⟨rd, e, r⟩, _⟩ := C1.app [O1, O2, O3]
  have eI : (G1 ++ [O1, O2, O3])[c]? = some (.ins "Cabinet" [("kept", .loc d), ("root", rd)]) := e
  have lk := lkC (m := "names") (d := d) (rd := rd) (by decide +kernel) (by decide +kernel)
  refine ⟨q ++ [O1, O2, O3, O4], ?_⟩
  rw [← List.append_assoc, ← hG1]
  rw [← hO1] at lc
  clear hO1 hO3 hO4 hG1 ex ah1
  subst hO2
  simp at lc ad cn nb
  simp [-List.lookup_eq_none_iff, wp_v, er, ir, wipeD, lc, ad, nb, eI, lk, cn, nn]
theorem asked2_ok (G : Hs) (c d : Nat) (kind nu : Int) (lah due gl : Nat) (gs : List D) (dd : D) (ns : List Int) (x1 x9 x10 x11 : Option D) (C : Cab G c d (fsOf kind) 41) (K : KF kind due gs dd) (ah : G[lah]? = some (.lst ((srtS (ksS (fsOf kind))).map D.str))) :
    ∃ q, ((tbM (binM neF (binM ixF (methM "Cabinet" "below" (F_Cabinet_below_v4 229) (vM 7) (consA (argM tupF (consA (cM (.str "blank")) (consA (binM addF (cM (.int 1)) (binM modF (vM 2) (binM powF (cM (.int 10)) (cM (.int 9))))) nilA))) nilA)) (cM (.int 0))) (vM 8)))
      [some (.ro ns), x1, some (.int nu), some (.int kind), some (.int (due : Int)), some (.loc gl), some dd, some (.loc c), some (.loc lah), x9, x10, x11] G).wp (fun b h' => b = false ∧ h' = G ++ q) xF := by
  have w9 : cPow 10 9 = true := cPow_of (by decide) (by decide) (by decide)
  have m9 : ∀ i, cMod i 1000000000 = true := fun _ => cMod_of (by decide)
  obtain ⟨r, h', eb, x, y, q, rfl, rfl, ex⟩ := R.wp_ex (below_ok (n := 224) C (1 + nu % 1000000000) (by omega) K.eqk)
  have eb : F_Cabinet_below_v4 229 [.loc c, .tup [.str "blank", .int (1 + nu % 1000000000)]] G = .ok (.tup [.loc x, .loc y]) (G ++ q) := eb
  obtain ⟨po, pz⟩ := pyOk_strs (srtS (ksS (fsOf kind))) fun s hs => strOk_name (C.nm s ((srtS_perm _).mem_iff.mp hs))
  have nn := ne_lst_same (h := G ++ q) (i := x) (j := lah) ex (get_app ah) po (by omega)
  obtain ⟨⟨rd, e, r⟩, _⟩ := C
  have eI : G[c]? = some (.ins "Cabinet" [("kept", .loc d), ("root", rd)]) := e
  have lk := lkC (m := "below") (d := d) (rd := rd) (by decide +kernel) (by decide +kernel)
  refine ⟨q, ?_⟩
  simp [-List.lookup_eq_none_iff, wp_v, w9, m9, eI, lk, eb, nn]
end DV
namespace DV
open PySem PySem.Spec PyProof.Rows L2
/-- the good deed, and what is told behind it -/
theorem told_ok (G : Hs) (c d : Nat) (kind : Int) (due gl l2 : Nat) (gs its : List D) (dd : D) (ns : List Int) (x1 x2 x8 x9 x10 x11 : Option D) (C : Cab G c d (fsOf kind) 41) (K : KF kind due gs dd) (eg : G[gl]? = some (.lst gs)) (e2 : G[l2]? = some (.lst its)) :
    ((seqM (forM (valI (vM 5)) (nameG 10) (exprM (callM (F__law_do 229) (consA (vM 7) (consA (vM 10) nilA))))) (ifM (tbM (binM neF (vM 5) (argM lstF (nilA)))) (seqM (setM 11 (callM (F__law_do 229) (consA (vM 7) (consA (callM (F__law_less 229) (consA (vM 3) (consA (vM 6) nilA))) nilA)))) (ifM (orM (andM (tbM (binM neF (vM 3) (cM (.int 4)))) (tbM (binM isnNF (vM 11) (cM .non)))) (andM (tbM (binM eqF (vM 3) (cM (.int 4)))) (tbM (binM neF (vM 11) (argM tupF (consA (cM (.str "block")) (consA (cM (.str "a")) (consA (argM tupF (nilA)) nilA)))))))) (retM (cM (.bl false))) (passM))) (passM)))
      [some (.ro ns), x1, x2, some (.int kind), some (.int (due : Int)), some (.loc gl), some dd, some (.loc c), x8, x9, x10, x11] G).wp (fun ds h' => (∃ y1 y2 y3 y4 y5 y6 y7 y8 y9 y10 y11, ds = [some (.ro ns), y1, y2, y3, y4, y5, y6, y7, y8, y9, y10, y11]) ∧ h'[l2]? = some (.lst its)) (fun _ _ => False) xF := by
  have it := its_lst eg
  obtain ⟨J, hJ⟩ : ∃ J : Nat → Sl → Hs → Prop, J = fun i ds h' => ∃ y, ds = [some (.ro ns), x1, x2, some (.int kind), some (.int (due : Int)), some (.loc gl), some dd, some (.loc c), x8, x9, y, x11] ∧ Keeps G h' ∧ (i = 0 → h' = G) ∧ (i ≠ 0 → ∀ q, Told kind dd c (h' ++ q)) := ⟨_, rfl⟩
  refine st_for gs (fun h' => h'[gl]? = some (.lst gs)) G J (by simp [wp_v, it]) (by rw [hJ]; exact ⟨x10, rfl, Keeps.refl _, fun _ => rfl, fun z => absurd rfl z⟩) (fun i ds h' hj => by rw [hJ] at hj; obtain ⟨y, _, kp, _⟩ := hj; exact kp _ _ eg) ?_ ?_
  · intro i g ds h' hi hj
    rw [hJ] at hj
    obtain ⟨y, rfl, kp, h0, h1⟩ := hj
    rcases K.good with rfl | ⟨g', rfl, good⟩
    · cases hi
    · have i0 : i = 0 := by
        have := (List.getElem?_eq_some_iff.mp hi).1
        simp at this
        omega
      subst i0
      cases hi
      have e := h0 rfl
      subst e
      obtain ⟨r, h2, e2', ⟨kp2, ll⟩, td⟩ := R.wp_ex (good h' c d C)
      have fin : J (0 + 1) [some (.ro ns), x1, x2, some (.int kind), some (.int (due : Int)), some (.loc gl), some dd, some (.loc c), x8, x9, some g, x11] h2 := by
        rw [hJ]
        exact ⟨_, rfl, kp2, (fun z => by cases z), fun _ => td⟩
      simp at fin
      simp [wp_v, e2']
      exact fin
  · intro ds h' hj
    rw [hJ] at hj
    obtain ⟨y, rfl, kp, h0, h1⟩ := hj
    have ne := neempty (kp _ _ eg)
    have e3 := kp _ _ e2
    have e4 : (h' ++ [AO.lst []])[l2]? = some (.lst its) := get_app e3
    rcases K.good with rfl | ⟨g', rfl, good⟩
    · simp at ne
      simp [wp_v, ne]
      exact e4
    · simp at ne
      have td := h1 (by simp) [.lst []]
      obtain ⟨dl, el, w⟩ := td
      obtain ⟨r, h3, ed, ⟨kp3, ll⟩, rr⟩ := R.wp_ex w
      have e5 := kp3 _ _ e4
      rcases rr with ⟨k4, rfl⟩ | ⟨k4, rfl⟩
      · have isn : ∀ h, isnNF .non .non h = some (.bl false, h) := fun _ => rfl
        simp [wp_v, ne, el, ed, k4, isn]
        exact e5
      · subst k4
        have nt := fun h => ne_treeS (h := h) (t := tLf) (u := tLf) eqk_lf eqk_lf
        have tl := dLf.symm
        have nt : ∀ h, neF (tD tLf) (tD tLf) h = some (.bl false, h) := fun h => by rw [nt h]; simp
        generalize tD tLf = T at *
        simp [wp_v, ne, el, ed, tl, nt]
        exact e5
theorem law_k61_ok (ns : List Int) (hl : ns.length ≤ 63) : ∃ h, F_law_k61 230 [.ro ns] [] = .ok (.bl true) h := by
  have w : (F_law_k61 (229 + 1) [.ro ns] []).wp (fun d _ => d = .bl true) xF := by
    rw [S_law_k61]
    rw [wp_pure, wp_run]
    refine ⟨rfl, ?_⟩
    unfold m_law_k61
    simp only [startD, List.map_cons, List.map_nil, List.length_cons, List.length_nil]
    simp only [List.set_cons_succ, List.set_cons_zero, List.replicate, List.cons_append, List.nil_append]
    obtain ⟨cs, hcs⟩ : ∃ cs : List Int, cs = (ns ++ [2]).take 21 := ⟨_, rfl⟩
    obtain ⟨H0, hH0⟩ : ∃ H0 : Hs, H0 = [.lst [.int 2], .lst (ns.map D.int ++ [.int 2]), .lst (cs.map D.int)] := ⟨_, rfl⟩
    have e0 : H0[2]? = some (.lst (cs.map D.int)) := by rw [hH0]; rfl
    have ad : addF (.ro ns) (.loc 0) [.lst [.int 2]] = some (.loc 1, [.lst [.int 2], .lst (ns.map D.int ++ [.int 2])]) := by
      show (if ns.length + 1 ≤ LIM then some (D.loc 1, _) else none) = _
      rw [if_pos (by unfold LIM; omega)]
      rfl
    have sl : slF (.loc 1) none (some 21) [.lst [.int 2], .lst (ns.map D.int ++ [.int 2])] = some (.loc 2, H0) := by
      have e21 : (21 : Int) = ((21 : Nat) : Int) := rfl
      rw [slF_lst (xs := ns.map D.int ++ [.int 2]) rfl, e21, cut_toN, hH0, hcs, List.map_take, List.map_append]
      rfl
    have it := its_lst e0
    clear hH0
    obtain ⟨J, hJ⟩ : ∃ J : Nat → Sl → Hs → Prop, J = fun i ds h' => (∃ y1 y2 y3 y4 y5 y6 y7 y8 y9 y10 y11, ds = [some (.ro ns), y1, y2, y3, y4, y5, y6, y7, y8, y9, y10, y11]) ∧ h'[2]? = some (.lst (cs.map D.int)) := ⟨_, rfl⟩
    refine st_for (cs.map D.int) (fun h' => h'[2]? = some (.lst (cs.map D.int))) H0 J (by simp [wp_v, ad, sl, it]) (by rw [hJ]; exact ⟨⟨_, _, _, _, _, _, _, _, _, _, _, rfl⟩, e0⟩) (fun i ds h' hj => by rw [hJ] at hj; exact hj.2) ?_ ?_
    · intro i d ds h hi hj
      rw [hJ] at hj
      obtain ⟨⟨y1, y2, y3, y4, y5, y6, y7, y8, y9, y10, y11, rfl⟩, e2⟩ := hj
      obtain ⟨cell, rfl⟩ : ∃ cell : Int, d = .int cell := by
        have := List.mem_of_getElem? hi
        obtain ⟨cv, _, rfl⟩ := List.mem_map.mp this
        exact ⟨cv, rfl⟩
      obtain ⟨nu, hnu⟩ : ∃ nu, nu = mixI cell := ⟨_, rfl⟩
      obtain ⟨nu0, nu1⟩ := mixI_lt cell
      rw [← hnu] at nu0 nu1
      have mx : F__law_mixed 229 [.int cell] h = .ok (.int nu) h := by rw [hnu]; exact mixed_ok 228 h cell
      clear hnu
      have m10 : ∀ i, cMod i 10 = true := fun _ => cMod_of (by decide)
      have d10 : ∀ i, cDiv i 10 = true := fun _ => cDiv_of (by decide) (by decide)
      have k0 := Int.emod_nonneg nu (b := 10) (by decide)
      have k9 := Int.emod_lt_of_pos nu (b := 10) (by decide)
      obtain ⟨kind, hkind⟩ : ∃ kind, kind = nu % 10 := ⟨_, rfl⟩
      obtain ⟨sub, hsub⟩ : ∃ sub, sub = nu / 10 := ⟨_, rfl⟩
      have sub0 : 0 ≤ sub := by omega
      rw [← hkind] at k0 k9
      obtain ⟨r1, h1, ec, due, gl, q1, gs, dd, rfl, rfl, eg, K⟩ := R.wp_ex (case_all h kind sub k0 k9 sub0)
      obtain ⟨h1, hh1⟩ : ∃ h1, h1 = h ++ q1 := ⟨_, rfl⟩
      have e21 : h1[2]? = some (.lst (cs.map D.int)) := by rw [hh1]; exact get_app e2
      rw [← hh1] at ec eg
      obtain ⟨r2, h2, eo, c, dk, rfl, kp2, ll2, C2⟩ := R.wp_ex (opened_ok 225 h1 kind (by decide))
      have eo : F__law_opened 229 [.int kind] h1 = .ok (.loc c) h2 := eo
      have cn := cnames_ok (n := 228) C2
      obtain ⟨O4, hO4⟩ : ∃ O4, O4 = AO.lst ((srtS (ksS (fsOf kind))).map D.str) := ⟨_, rfl⟩
      rw [← hO4] at cn
      have C2k := C2
      obtain ⟨⟨rd, e, r⟩, _⟩ := C2
      have C2 := C2k
      have eI : h2[c]? = some (.ins "Cabinet" [("kept", .loc dk), ("root", rd)]) := e
      have lk := lkC (m := "names") (d := dk) (rd := rd) (by decide +kernel) (by decide +kernel)
      obtain ⟨h3, hh3⟩ : ∃ h3, h3 = h2 ++ [O4] := ⟨_, rfl⟩
      have C3 : Cab h3 c dk (fsOf kind) 41 := by rw [hh3]; exact C2.app _
      have ah : h3[h2.length]? = some (.lst ((srtS (ksS (fsOf kind))).map D.str)) := by rw [hh3, ← hO4]; simp
      have e23 : h3[2]? = some (.lst (cs.map D.int)) := by rw [hh3]; exact get_app (kp2 _ _ e21)
      have eg3 : h3[gl]? = some (.lst gs) := by rw [hh3]; exact get_app (kp2 _ _ eg)
      rw [← hh3] at cn
      clear hh3 hO4 r
      show (seqM _ _ [some (.ro ns), some (.int cell), y2, y3, y4, y5, y6, y7, y8, y9, y10, y11] h).wp _ _ _
      refine st_set (.int nu) h (by simp [wp_v, mx]) ?_
      refine st_set (.int kind) h (by simp [wp_v, m10, hkind]) ?_
      simp only [List.set_cons_succ, List.set_cons_zero]
      refine st_seq [some (.ro ns), some (.int cell), some (.int nu), some (.int kind), some (.int (due : Int)), some (.loc gl), some dd, y7, y8, y9, y10, y11] h1 (by simp [wp_v, d10, ← hsub, ec]) ?_
      refine st_set (.loc c) h2 (by simp [wp_v, eo]) ?_
      simp only [List.set_cons_succ, List.set_cons_zero]
      refine st_set (.loc h2.length) h3 (by simp [-List.lookup_eq_none_iff, wp_v, eI, lk, cn]) ?_
      simp only [List.set_cons_succ, List.set_cons_zero]
      obtain ⟨qa, wa⟩ := asked_ok h3 c dk kind h2.length due gl gs dd ns (some (.int cell)) (some (.int nu)) y9 y10 y11 C3 K ah
      refine st_guard (h3 ++ qa) wa ?_
      obtain ⟨qb, wb⟩ := asked2_ok (h3 ++ qa) c dk kind nu h2.length due gl gs dd ns (some (.int cell)) y9 y10 y11 (C3.app qa) K (get_app ah)
      refine st_guard (h3 ++ qa ++ qb) wb ?_
      have wt := told_ok (h3 ++ qa ++ qb) c dk kind due gl 2 gs (cs.map D.int) dd ns (some (.int cell)) (some (.int nu)) (some (.loc h2.length)) y9 y10 y11 ((C3.app qa).app qb) K (get_app (get_app eg3)) (get_app (get_app e23))
      refine RS.wp_mono wt ?_ (fun _ _ z => z.elim) (fun _ _ z => (show False from z).elim)
      intro ds h' z
      rw [hJ]
      exact z
    · intro ds h' hj
      rw [hJ] at hj
      obtain ⟨⟨y1, y2, y3, y4, y5, y6, y7, y8, y9, y10, y11, rfl⟩, e2⟩ := hj
      simp [wp_v, noloc]
  obtain ⟨d, h, e, rfl⟩ := R.wp_ex w
  exact ⟨h, e⟩
end DV
namespace Hd
open PySem PySem.Spec PyProof.Rows L2 DV
def top (i : Nat) : Stmt := PySem.Challenge.pw_commonform_k61_refused_once.main.body.getD i (.Pass ⟨0, 0, 0, 0⟩)
abbrev s__wall : Stmt := top 0
def d__wall : He.DefD := ⟨("_wall", none), "_wall", "_wall", defArgs s__wall, defBody s__wall, defScope s__wall, [], []⟩
abbrev s_same_blocks : Stmt := top 2
def d_same_blocks : He.DefD := ⟨("same_blocks", none), "same_blocks", "same_blocks", defArgs s_same_blocks, defBody s_same_blocks, defScope s_same_blocks, [], []⟩
abbrev s_fit_under : Stmt := top 3
def d_fit_under : He.DefD := ⟨("fit_under", none), "fit_under", "fit_under", defArgs s_fit_under, defBody s_fit_under, defScope s_fit_under, [], []⟩
abbrev s_fitting : Stmt := top 4
def d_fitting : He.DefD := ⟨("fitting", none), "fitting", "fitting", defArgs s_fitting, defBody s_fitting, defScope s_fitting, [], []⟩
abbrev s_of_one_kind : Stmt := top 6
def d_of_one_kind : He.DefD := ⟨("of_one_kind", none), "of_one_kind", "of_one_kind", defArgs s_of_one_kind, defBody s_of_one_kind, defScope s_of_one_kind, [], []⟩
abbrev s_go_down : Stmt := top 7
def d_go_down : He.DefD := ⟨("go_down", none), "go_down", "go_down", defArgs s_go_down, defBody s_go_down, defScope s_go_down, [], []⟩
abbrev s_nearest_of : Stmt := top 8
def d_nearest_of : He.DefD := ⟨("nearest_of", none), "nearest_of", "nearest_of", defArgs s_nearest_of, defBody s_nearest_of, defScope s_nearest_of, [], []⟩
abbrev s_is_name : Stmt := top 22
def d_is_name : He.DefD := ⟨("is_name", none), "is_name", "is_name", defArgs s_is_name, defBody s_is_name, defScope s_is_name, [], []⟩
abbrev s_parts_of : Stmt := top 23
def d_parts_of : He.DefD := ⟨("parts_of", none), "parts_of", "parts_of", defArgs s_parts_of, defBody s_parts_of, defScope s_parts_of, [], []⟩
abbrev s_knots_of : Stmt := top 24
def d_knots_of : He.DefD := ⟨("knots_of", none), "knots_of", "knots_of", defArgs s_knots_of, defBody s_knots_of, defScope s_knots_of, [], []⟩
abbrev s_depth_of : Stmt := top 25
def d_depth_of : He.DefD := ⟨("depth_of", none), "depth_of", "depth_of", defArgs s_depth_of, defBody s_depth_of, defScope s_depth_of, [], []⟩
abbrev s_blanks_of : Stmt := top 26
def d_blanks_of : He.DefD := ⟨("blanks_of", none), "blanks_of", "blanks_of", defArgs s_blanks_of, defBody s_blanks_of, defScope s_blanks_of, [], []⟩
abbrev s_put_at : Stmt := top 27
def d_put_at : He.DefD := ⟨("put_at", none), "put_at", "put_at", defArgs s_put_at, defBody s_put_at, defScope s_put_at, [], []⟩
abbrev s_names_on : Stmt := top 30
def d_names_on : He.DefD := ⟨("names_on", none), "names_on", "names_on", defArgs s_names_on, defBody s_names_on, defScope s_names_on, [], []⟩
abbrev s_form_on : Stmt := top 31
def d_form_on : He.DefD := ⟨("form_on", none), "form_on", "form_on", defArgs s_form_on, defBody s_form_on, defScope s_form_on, [], []⟩
abbrev s_knot_of : Stmt := top 32
def d_knot_of : He.DefD := ⟨("knot_of", none), "knot_of", "knot_of", defArgs s_knot_of, defBody s_knot_of, defScope s_knot_of, [], []⟩
abbrev s_best_bough : Stmt := top 33
def d_best_bough : He.DefD := ⟨("best_bough", none), "best_bough", "best_bough", defArgs s_best_bough, defBody s_best_bough, defScope s_best_bough, [], []⟩
abbrev s_hung : Stmt := top 34
def d_hung : He.DefD := ⟨("hung", none), "hung", "hung", defArgs s_hung, defBody s_hung, defScope s_hung, [], []⟩
abbrev s_cut_off : Stmt := top 35
def d_cut_off : He.DefD := ⟨("cut_off", none), "cut_off", "cut_off", defArgs s_cut_off, defBody s_cut_off, defScope s_cut_off, [], []⟩
abbrev s_bough_copy : Stmt := top 36
def d_bough_copy : He.DefD := ⟨("bough_copy", none), "bough_copy", "bough_copy", defArgs s_bough_copy, defBody s_bough_copy, defScope s_bough_copy, [], []⟩
abbrev s_exchanged : Stmt := top 38
def d_exchanged : He.DefD := ⟨("exchanged", none), "exchanged", "exchanged", defArgs s_exchanged, defBody s_exchanged, defScope s_exchanged, [], []⟩
abbrev s_plain : Stmt := top 39
def d_plain : He.DefD := ⟨("plain", none), "plain", "plain", defArgs s_plain, defBody s_plain, defScope s_plain, [], []⟩
abbrev s_moved_on : Stmt := top 41
def d_moved_on : He.DefD := ⟨("moved_on", none), "moved_on", "moved_on", defArgs s_moved_on, defBody s_moved_on, defScope s_moved_on, [], []⟩
abbrev s_apart : Stmt := top 42
def d_apart : He.DefD := ⟨("apart", none), "apart", "apart", defArgs s_apart, defBody s_apart, defScope s_apart, [], []⟩
abbrev s_both_blocks : Stmt := top 43
def d_both_blocks : He.DefD := ⟨("both_blocks", none), "both_blocks", "both_blocks", defArgs s_both_blocks, defBody s_both_blocks, defScope s_both_blocks, [], []⟩
abbrev s_same_kind : Stmt := top 44
def d_same_kind : He.DefD := ⟨("same_kind", none), "same_kind", "same_kind", defArgs s_same_kind, defBody s_same_kind, defScope s_same_kind, [], []⟩
abbrev s_Likenesses___init__ : Stmt := inClass (top 48) 0
def d_Likenesses___init__ : He.DefD := ⟨("Likenesses", some "__init__"), "__init__", "Likenesses.__init__", defArgs s_Likenesses___init__, defBody s_Likenesses___init__, defScope s_Likenesses___init__, [], []⟩
abbrev s_Likenesses_give : Stmt := inClass (top 48) 1
def d_Likenesses_give : He.DefD := ⟨("Likenesses", some "give"), "give", "Likenesses.give", defArgs s_Likenesses_give, defBody s_Likenesses_give, defScope s_Likenesses_give, [], []⟩
abbrev s_Likenesses_turn : Stmt := inClass (top 48) 2
def d_Likenesses_turn : He.DefD := ⟨("Likenesses", some "turn"), "turn", "Likenesses.turn", defArgs s_Likenesses_turn, defBody s_Likenesses_turn, defScope s_Likenesses_turn, [], []⟩
abbrev s_Likenesses_link : Stmt := inClass (top 48) 3
def d_Likenesses_link : He.DefD := ⟨("Likenesses", some "link"), "link", "Likenesses.link", defArgs s_Likenesses_link, defBody s_Likenesses_link, defScope s_Likenesses_link, [], []⟩
abbrev s_Likenesses_wait : Stmt := inClass (top 48) 4
def d_Likenesses_wait : He.DefD := ⟨("Likenesses", some "wait"), "wait", "Likenesses.wait", defArgs s_Likenesses_wait, defBody s_Likenesses_wait, defScope s_Likenesses_wait, [], []⟩
abbrev s_Likenesses_ended : Stmt := inClass (top 48) 5
def d_Likenesses_ended : He.DefD := ⟨("Likenesses", some "ended"), "ended", "Likenesses.ended", defArgs s_Likenesses_ended, defBody s_Likenesses_ended, defScope s_Likenesses_ended, [], []⟩
abbrev s_Likenesses_blocks_of_blanks : Stmt := inClass (top 48) 6
def d_Likenesses_blocks_of_blanks : He.DefD := ⟨("Likenesses", some "blocks_of_blanks"), "blocks_of_blanks", "Likenesses.blocks_of_blanks", defArgs s_Likenesses_blocks_of_blanks, defBody s_Likenesses_blocks_of_blanks, defScope s_Likenesses_blocks_of_blanks, [], []⟩
abbrev s_Likenesses_inner : Stmt := inClass (top 48) 7
def d_Likenesses_inner : He.DefD := ⟨("Likenesses", some "inner"), "inner", "Likenesses.inner", defArgs s_Likenesses_inner, defBody s_Likenesses_inner, defScope s_Likenesses_inner, [], []⟩
abbrev s_Likenesses_ring : Stmt := inClass (top 48) 8
def d_Likenesses_ring : He.DefD := ⟨("Likenesses", some "ring"), "ring", "Likenesses.ring", defArgs s_Likenesses_ring, defBody s_Likenesses_ring, defScope s_Likenesses_ring, [], []⟩
abbrev s_Likenesses_treat : Stmt := inClass (top 48) 9
def d_Likenesses_treat : He.DefD := ⟨("Likenesses", some "treat"), "treat", "Likenesses.treat", defArgs s_Likenesses_treat, defBody s_Likenesses_treat, defScope s_Likenesses_treat, [], []⟩
abbrev s_Likenesses_solved : Stmt := inClass (top 48) 10
def d_Likenesses_solved : He.DefD := ⟨("Likenesses", some "solved"), "solved", "Likenesses.solved", defArgs s_Likenesses_solved, defBody s_Likenesses_solved, defScope s_Likenesses_solved, [], []⟩
abbrev s_measure : Stmt := top 49
def d_measure : He.DefD := ⟨("measure", none), "measure", "measure", defArgs s_measure, defBody s_measure, defScope s_measure, [], []⟩
abbrev s_resolved : Stmt := top 50
def d_resolved : He.DefD := ⟨("resolved", none), "resolved", "resolved", defArgs s_resolved, defBody s_resolved, defScope s_resolved, [], []⟩
abbrev s_in_order : Stmt := top 51
def d_in_order : He.DefD := ⟨("in_order", none), "in_order", "in_order", defArgs s_in_order, defBody s_in_order, defScope s_in_order, [], []⟩
abbrev s_numbered : Stmt := top 52
def d_numbered : He.DefD := ⟨("numbered", none), "numbered", "numbered", defArgs s_numbered, defBody s_numbered, defScope s_numbered, [], []⟩
abbrev s_side_filling : Stmt := top 53
def d_side_filling : He.DefD := ⟨("side_filling", none), "side_filling", "side_filling", defArgs s_side_filling, defBody s_side_filling, defScope s_side_filling, [], []⟩
abbrev s_widest : Stmt := top 54
def d_widest : He.DefD := ⟨("widest", none), "widest", "widest", defArgs s_widest, defBody s_widest, defScope s_widest, [], []⟩
abbrev s_paper_against : Stmt := top 57
def d_paper_against : He.DefD := ⟨("paper_against", none), "paper_against", "paper_against", defArgs s_paper_against, defBody s_paper_against, defScope s_paper_against, [], []⟩
abbrev s_Cabinet___init__ : Stmt := inClass (top 58) 0
def d_Cabinet___init__ : He.DefD := ⟨("Cabinet", some "__init__"), "__init__", "Cabinet.__init__", defArgs s_Cabinet___init__, defBody s_Cabinet___init__, defScope s_Cabinet___init__, [], []⟩
abbrev s_Cabinet_put : Stmt := inClass (top 58) 1
def d_Cabinet_put : He.DefD := ⟨("Cabinet", some "put"), "put", "Cabinet.put", defArgs s_Cabinet_put, defBody s_Cabinet_put, defScope s_Cabinet_put, [], []⟩
abbrev s_Cabinet_take : Stmt := inClass (top 58) 2
def d_Cabinet_take : He.DefD := ⟨("Cabinet", some "take"), "take", "Cabinet.take", defArgs s_Cabinet_take, defBody s_Cabinet_take, defScope s_Cabinet_take, [], []⟩
abbrev s_Cabinet_form_of : Stmt := inClass (top 58) 3
def d_Cabinet_form_of : He.DefD := ⟨("Cabinet", some "form_of"), "form_of", "Cabinet.form_of", defArgs s_Cabinet_form_of, defBody s_Cabinet_form_of, defScope s_Cabinet_form_of, [], []⟩
abbrev s_Cabinet_names : Stmt := inClass (top 58) 4
def d_Cabinet_names : He.DefD := ⟨("Cabinet", some "names"), "names", "Cabinet.names", defArgs s_Cabinet_names, defBody s_Cabinet_names, defScope s_Cabinet_names, [], []⟩
abbrev s_Cabinet_boughs : Stmt := inClass (top 58) 5
def d_Cabinet_boughs : He.DefD := ⟨("Cabinet", some "boughs"), "boughs", "Cabinet.boughs", defArgs s_Cabinet_boughs, defBody s_Cabinet_boughs, defScope s_Cabinet_boughs, [], []⟩
abbrev s_Cabinet_rows_below : Stmt := inClass (top 58) 6
def d_Cabinet_rows_below : He.DefD := ⟨("Cabinet", some "rows_below"), "rows_below", "Cabinet.rows_below", defArgs s_Cabinet_rows_below, defBody s_Cabinet_rows_below, defScope s_Cabinet_rows_below, [], []⟩
abbrev s_Cabinet_rows_meeting : Stmt := inClass (top 58) 7
def d_Cabinet_rows_meeting : He.DefD := ⟨("Cabinet", some "rows_meeting"), "rows_meeting", "Cabinet.rows_meeting", defArgs s_Cabinet_rows_meeting, defBody s_Cabinet_rows_meeting, defScope s_Cabinet_rows_meeting, [], []⟩
abbrev s_Cabinet_rows_within : Stmt := inClass (top 58) 8
def d_Cabinet_rows_within : He.DefD := ⟨("Cabinet", some "rows_within"), "rows_within", "Cabinet.rows_within", defArgs s_Cabinet_rows_within, defBody s_Cabinet_rows_within, defScope s_Cabinet_rows_within, [], []⟩
abbrev s_Cabinet_rows_above : Stmt := inClass (top 58) 9
def d_Cabinet_rows_above : He.DefD := ⟨("Cabinet", some "rows_above"), "rows_above", "Cabinet.rows_above", defArgs s_Cabinet_rows_above, defBody s_Cabinet_rows_above, defScope s_Cabinet_rows_above, [], []⟩
abbrev s_Cabinet_answer : Stmt := inClass (top 58) 10
def d_Cabinet_answer : He.DefD := ⟨("Cabinet", some "answer"), "answer", "Cabinet.answer", defArgs s_Cabinet_answer, defBody s_Cabinet_answer, defScope s_Cabinet_answer, [], []⟩
abbrev s_Cabinet_below : Stmt := inClass (top 58) 11
def d_Cabinet_below : He.DefD := ⟨("Cabinet", some "below"), "below", "Cabinet.below", defArgs s_Cabinet_below, defBody s_Cabinet_below, defScope s_Cabinet_below, [], []⟩
abbrev s_Cabinet_above : Stmt := inClass (top 58) 12
def d_Cabinet_above : He.DefD := ⟨("Cabinet", some "above"), "above", "Cabinet.above", defArgs s_Cabinet_above, defBody s_Cabinet_above, defScope s_Cabinet_above, [], []⟩
abbrev s_Cabinet_meeting : Stmt := inClass (top 58) 13
def d_Cabinet_meeting : He.DefD := ⟨("Cabinet", some "meeting"), "meeting", "Cabinet.meeting", defArgs s_Cabinet_meeting, defBody s_Cabinet_meeting, defScope s_Cabinet_meeting, [], []⟩
abbrev s_Cabinet_change : Stmt := inClass (top 58) 14
def d_Cabinet_change : He.DefD := ⟨("Cabinet", some "change"), "change", "Cabinet.change", defArgs s_Cabinet_change, defBody s_Cabinet_change, defScope s_Cabinet_change, [], []⟩
abbrev s__law_cell_at : Stmt := top 60
def d__law_cell_at : He.DefD := ⟨("_law_cell_at", none), "_law_cell_at", "_law_cell_at", defArgs s__law_cell_at, defBody s__law_cell_at, defScope s__law_cell_at, [], []⟩
abbrev s__law_mixed : Stmt := top 61
def d__law_mixed : He.DefD := ⟨("_law_mixed", none), "_law_mixed", "_law_mixed", defArgs s__law_mixed, defBody s__law_mixed, defScope s__law_mixed, [], []⟩
abbrev s__law_put_at : Stmt := top 62
def d__law_put_at : He.DefD := ⟨("_law_put_at", none), "_law_put_at", "_law_put_at", defArgs s__law_put_at, defBody s__law_put_at, defScope s__law_put_at, [], []⟩
abbrev s__law_of_knots : Stmt := top 63
def d__law_of_knots : He.DefD := ⟨("_law_of_knots", none), "_law_of_knots", "_law_of_knots", defArgs s__law_of_knots, defBody s__law_of_knots, defScope s__law_of_knots, [], []⟩
abbrev s__law_chain : Stmt := top 64
def d__law_chain : He.DefD := ⟨("_law_chain", none), "_law_chain", "_law_chain", defArgs s__law_chain, defBody s__law_chain, defScope s__law_chain, [], []⟩
abbrev s__law_do : Stmt := top 65
def d__law_do : He.DefD := ⟨("_law_do", none), "_law_do", "_law_do", defArgs s__law_do, defBody s__law_do, defScope s__law_do, [], []⟩
abbrev s__law_refused : Stmt := top 66
def d__law_refused : He.DefD := ⟨("_law_refused", none), "_law_refused", "_law_refused", defArgs s__law_refused, defBody s__law_refused, defScope s__law_refused, [], []⟩
abbrev s__law_case : Stmt := top 67
def d__law_case : He.DefD := ⟨("_law_case", none), "_law_case", "_law_case", defArgs s__law_case, defBody s__law_case, defScope s__law_case, [], []⟩
abbrev s__law_opened : Stmt := top 68
def d__law_opened : He.DefD := ⟨("_law_opened", none), "_law_opened", "_law_opened", defArgs s__law_opened, defBody s__law_opened, defScope s__law_opened, [], []⟩
abbrev s__law_less : Stmt := top 69
def d__law_less : He.DefD := ⟨("_law_less", none), "_law_less", "_law_less", defArgs s__law_less, defBody s__law_less, defScope s__law_less, [], []⟩
abbrev s_law : Stmt := top 70
def d_law : He.DefD := ⟨("law", none), "law", "law", defArgs s_law, defBody s_law, defScope s_law, [], []⟩
def fn : List He.DefD := [d__wall, d_same_blocks, d_fit_under, d_fitting, d_of_one_kind, d_go_down, d_nearest_of, d_is_name, d_parts_of, d_knots_of, d_depth_of, d_blanks_of, d_put_at, d_names_on, d_form_on, d_knot_of, d_best_bough, d_hung, d_cut_off, d_bough_copy, d_exchanged, d_plain, d_moved_on, d_apart, d_both_blocks, d_same_kind, d_Likenesses___init__, d_Likenesses_give, d_Likenesses_turn, d_Likenesses_link, d_Likenesses_wait, d_Likenesses_ended, d_Likenesses_blocks_of_blanks, d_Likenesses_inner, d_Likenesses_ring, d_Likenesses_treat, d_Likenesses_solved, d_measure, d_resolved, d_in_order, d_numbered, d_side_filling, d_widest, d_paper_against, d_Cabinet___init__, d_Cabinet_put, d_Cabinet_take, d_Cabinet_form_of, d_Cabinet_names, d_Cabinet_boughs, d_Cabinet_rows_below, d_Cabinet_rows_meeting, d_Cabinet_rows_within, d_Cabinet_rows_above, d_Cabinet_answer, d_Cabinet_below, d_Cabinet_above, d_Cabinet_meeting, d_Cabinet_change, d__law_cell_at, d__law_mixed, d__law_put_at, d__law_of_knots, d__law_chain, d__law_do, d__law_refused, d__law_case, d__law_opened, d__law_less, d_law]
def fa : List Fx := [.he (.glo "_wall"), .he (.glo "same_blocks"), .he (.glo "fit_under"), .he (.glo "fitting"), .he (.glo "of_one_kind"), .he (.glo "go_down"), .he (.glo "nearest_of"), .he (.glo "is_name"), .he (.glo "parts_of"), .he (.glo "knots_of"), .he (.glo "depth_of"), .he (.glo "blanks_of"), .he (.glo "put_at"), .he (.glo "names_on"), .he (.glo "form_on"), .he (.glo "knot_of"), .he (.glo "best_bough"), .he (.glo "hung"), .he (.glo "cut_off"), .he (.glo "bough_copy"), .he (.glo "exchanged"), .he (.glo "plain"), .he (.glo "moved_on"), .he (.glo "apart"), .he (.glo "both_blocks"), .he (.glo "same_kind"), .he (.glo "measure"), .he (.glo "resolved"), .he (.glo "in_order"), .he (.glo "numbered"), .he (.glo "side_filling"), .he (.glo "widest"), .he (.glo "paper_against"), .he (.glo "_law_cell_at"), .he (.glo "_law_mixed"), .he (.glo "_law_put_at"), .he (.glo "_law_of_knots"), .he (.glo "_law_chain"), .he (.glo "_law_do"), .he (.glo "_law_refused"), .he (.glo "_law_case"), .he (.glo "_law_opened"), .he (.glo "_law_less"), .he (.glo "law"), .he (.glo "FormError"), .he (.glo "NoPlace"), .he (.glo "BadText"), .he (.glo "TooLong"), .he (.glo "BadPaper"), .he (.glo "BadName"), .he (.glo "Twice"), .he (.glo "NoForm"), .he (.glo "Likenesses"), .he (.glo "Cabinet"), .he (.free "len"), .he (.free "range"), .he (.free "int"), .he (.free "str"), .he (.free "sum"), .he (.free "max"), .he (.free "min"), .he (.free "enumerate"), .he (.free "isinstance"), .he (.free "tuple"), .he (.free "list"), .he (.free "dict"), .he (.free "sorted"), .he (.free "abs"), .he (.free "all"), .he (.free "set"), .he (.free "bool"), .he (.free "ValueError"), .he (.str "SMALL" "abcdefghijklmnopqrstuvwxyz"), .he (.str "FIGURES" "0123456789"), .he (.int "LONGEST" (12)), .he (.int "MOST_BOUGHS" (4)), .he (.int "MOST_KNOTS" (400)), .he (.int "MOST_DEEP" (60)), .he (.int "MOST_KEPT" (40)), .he (.exc "FormError"), .kx "FormError", .he (.exm "FormError" "TooLong" false), .he (.exm "FormError" "FormError" true), .ix "FormError" "BadName" false, .ix "FormError" "Twice" false, .ix "FormError" "TooLong" false, .ix "FormError" "NoForm" false, .ix "FormError" "NoPlace" false, .ix "FormError" "BadPaper" false, .ix "FormError" "BadText" false, .ib "FormError" "ValueError" true, .he (.exc "NoPlace"), .kx "NoPlace", .he (.exm "NoPlace" "TooLong" false), .he (.exm "NoPlace" "FormError" true), .ix "NoPlace" "BadName" false, .ix "NoPlace" "Twice" false, .ix "NoPlace" "TooLong" false, .ix "NoPlace" "NoForm" false, .ix "NoPlace" "NoPlace" true, .ix "NoPlace" "BadPaper" false, .ix "NoPlace" "BadText" false, .ib "NoPlace" "ValueError" true, .he (.exc "BadText"), .kx "BadText", .he (.exm "BadText" "TooLong" false), .he (.exm "BadText" "FormError" true), .ix "BadText" "BadName" false, .ix "BadText" "Twice" false, .ix "BadText" "TooLong" false, .ix "BadText" "NoForm" false, .ix "BadText" "NoPlace" false, .ix "BadText" "BadPaper" false, .ix "BadText" "BadText" true, .ib "BadText" "ValueError" true, .he (.exc "TooLong"), .kx "TooLong", .he (.exm "TooLong" "TooLong" true), .he (.exm "TooLong" "FormError" true), .ix "TooLong" "BadName" false, .ix "TooLong" "Twice" false, .ix "TooLong" "TooLong" true, .ix "TooLong" "NoForm" false, .ix "TooLong" "NoPlace" false, .ix "TooLong" "BadPaper" false, .ix "TooLong" "BadText" false, .ib "TooLong" "ValueError" true, .he (.exc "BadPaper"), .kx "BadPaper", .he (.exm "BadPaper" "TooLong" false), .he (.exm "BadPaper" "FormError" true), .ix "BadPaper" "BadName" false, .ix "BadPaper" "Twice" false, .ix "BadPaper" "TooLong" false, .ix "BadPaper" "NoForm" false, .ix "BadPaper" "NoPlace" false, .ix "BadPaper" "BadPaper" true, .ix "BadPaper" "BadText" false, .ib "BadPaper" "ValueError" true, .he (.exc "BadName"), .kx "BadName", .he (.exm "BadName" "TooLong" false), .he (.exm "BadName" "FormError" true), .ix "BadName" "BadName" true, .ix "BadName" "Twice" false, .ix "BadName" "TooLong" false, .ix "BadName" "NoForm" false, .ix "BadName" "NoPlace" false, .ix "BadName" "BadPaper" false, .ix "BadName" "BadText" false, .ib "BadName" "ValueError" true, .he (.exc "Twice"), .kx "Twice", .he (.exm "Twice" "TooLong" false), .he (.exm "Twice" "FormError" true), .ix "Twice" "BadName" false, .ix "Twice" "Twice" true, .ix "Twice" "TooLong" false, .ix "Twice" "NoForm" false, .ix "Twice" "NoPlace" false, .ix "Twice" "BadPaper" false, .ix "Twice" "BadText" false, .ib "Twice" "ValueError" true, .he (.exc "NoForm"), .kx "NoForm", .he (.exm "NoForm" "TooLong" false), .he (.exm "NoForm" "FormError" true), .ix "NoForm" "BadName" false, .ix "NoForm" "Twice" false, .ix "NoForm" "TooLong" false, .ix "NoForm" "NoForm" true, .ix "NoForm" "NoPlace" false, .ix "NoForm" "BadPaper" false, .ix "NoForm" "BadText" false, .ib "NoForm" "ValueError" true, .he (.cls "Likenesses"), .he (.noat "Likenesses" "pairs"), .he (.noat "Likenesses" "steps"), .he (.noat "Likenesses" "known"), .he (.noat "Likenesses" "seen"), .he (.noat "Likenesses" "waiting"), .he (.noat "Likenesses" "bound"), .he (.meth "Likenesses" "__init__"), .he (.meth "Likenesses" "give"), .he (.meth "Likenesses" "turn"), .he (.meth "Likenesses" "link"), .he (.meth "Likenesses" "wait"), .he (.meth "Likenesses" "ended"), .he (.meth "Likenesses" "blocks_of_blanks"), .he (.meth "Likenesses" "inner"), .he (.meth "Likenesses" "ring"), .he (.meth "Likenesses" "treat"), .he (.meth "Likenesses" "solved"), .he (.mkr "Likenesses"), .he (.cls "Cabinet"), .he (.noat "Cabinet" "kept"), .he (.noat "Cabinet" "root"), .he (.meth "Cabinet" "__init__"), .he (.meth "Cabinet" "put"), .he (.meth "Cabinet" "take"), .he (.meth "Cabinet" "form_of"), .he (.meth "Cabinet" "names"), .he (.meth "Cabinet" "boughs"), .he (.meth "Cabinet" "rows_below"), .he (.meth "Cabinet" "rows_meeting"), .he (.meth "Cabinet" "rows_within"), .he (.meth "Cabinet" "rows_above"), .he (.meth "Cabinet" "answer"), .he (.meth "Cabinet" "below"), .he (.meth "Cabinet" "above"), .he (.meth "Cabinet" "meeting"), .he (.meth "Cabinet" "change"), .he (.mkr "Cabinet")]
abbrev R : PySem.W.OpenRow := PySem.W.OpenLaw.row PySem.Challenge.rw_commonform_k61_refused_once
abbrev hk : PySem.W.Hook := hookX 5 fa fn
def ob (s : PySem.W.SharedT) : He.AlD := obsXG 5 fa fn (HandSHeadRun.getT s)
theorem ob_eq (s : PySem.W.SharedT) : ob s = hk.obs s.abs := obsXG_eq (HandSHeadRun.getT_eq s)
def ls0 : List PySem.Str := ["_wall", "same_blocks", "fit_under", "fitting", "of_one_kind", "go_down", "nearest_of", "FormError", "NoPlace", "BadText", "TooLong", "BadPaper", "BadName", "Twice", "NoForm", "SMALL", "FIGURES", "LONGEST", "is_name", "parts_of", "knots_of", "depth_of", "blanks_of", "put_at", "MOST_BOUGHS", "names_on", "form_on", "knot_of", "best_bough", "hung"]
def ls1 : List PySem.Str := ["cut_off", "bough_copy", "exchanged", "plain", "moved_on", "apart", "both_blocks", "same_kind", "MOST_KNOTS", "MOST_DEEP", "Likenesses", "measure", "resolved", "in_order", "numbered", "side_filling", "widest", "MOST_KEPT", "paper_against", "Cabinet", "_law_cell_at", "_law_mixed", "_law_put_at", "_law_of_knots", "_law_chain", "_law_do", "_law_refused", "_law_case", "_law_opened", "_law_less"]
def ls : List PySem.Str := ls0 ++ ls1
theorem run (w : World) : HandSHeadRun.RunEq R (PySem.W.view R.prog [70]) hk ob 15850 ls w := by
  intro os
  kernel_rfl
end Hd
namespace Wk
open PySem PySem.Spec PyProof.Rows L2 DV Hd
section
variable {P : Program} {w : World} {K : PySem.W.Frag} {mg : Str → Option Value} {base : Heap} {n : Nat} {f : Addr} {fd : FuncData}
theorem sc_same_blocks : FnScope ["form", "tree"] ["form", "tree"] (defScope s_same_blocks) := ⟨rfl, rfl, rfl, by decide +kernel, rfl, by decide +kernel, by decide +kernel⟩
theorem ok_same_blocks (F : FunD K "same_blocks" "same_blocks" (defArgs s_same_blocks) (defBody s_same_blocks) (defScope s_same_blocks) [] [] f fd) (B : Blt mg) :
    FnOk P w K mg base (L2.CX P w) (n + 1) f fd ["form", "tree"] (spM K 2 (kPure.f (runM 2 2 (m_same_blocks)))) :=
  def_ok (N := ["form", "tree"]) kPure F sc_same_blocks fun cdv A outer s H E W hr tk =>
    sms_one (sm_ret (em_and (em_chain (o_eq (hu195 hr)) (o_eq (hu195 hr)) (em_ix (o_ix (by first | exact hu1 hr | (have hz := hu1 hr; exact hz))) (em_v (pv 0)) (em_int) (fun _ _ => rfl)) (em_ix (o_ix (by first | exact hu1 hr | (have hz := hu1 hr; exact hz))) (em_v (pv 1)) (em_int) (fun _ _ => rfl)) (em_str)) (em_and (em_cmp (o_eq (hu195 hr)) (em_ix (o_ix (by first | exact hu1 hr | (have hz := hu1 hr; exact hz))) (em_v (pv 0)) (em_int) (fun _ _ => rfl)) (em_ix (o_ix (by first | exact hu1 hr | (have hz := hu1 hr; exact hz))) (em_v (pv 1)) (em_int) (fun _ _ => rfl)) (nomark _)) (em_one (em_cmp (o_eq (hu195 hr)) (em_callB c_len rfl B.z_len (by decide +kernel) (am_cons (em_ix (o_ix (by first | exact hu1 hr | (have hz := hu1 hr; exact hz))) (em_v (pv 0)) (em_int) (fun _ _ => rfl)) (am_nil))) (em_callB c_len rfl B.z_len (by decide +kernel) (am_cons (em_ix (o_ix (by first | exact hu1 hr | (have hz := hu1 hr; exact hz))) (em_v (pv 1)) (em_int) (fun _ _ => rfl)) (am_nil))) (nomark _))))))
theorem sc_fit_under : FnScope ["form", "tree", "filling", "k", "part"] ["form", "tree", "filling"] (defScope s_fit_under) := ⟨rfl, rfl, rfl, by decide +kernel, rfl, by decide +kernel, by decide +kernel⟩
theorem ok_fit_under (F : FunD K "fit_under" "fit_under" (defArgs s_fit_under) (defBody s_fit_under) (defScope s_fit_under) [] [] f fd) (B : Blt mg) {f_fit_under f_same_blocks : Fm} (A_fit_under : FnAt P w K mg base n "fit_under" ["form", "tree", "filling"] f_fit_under) (A_same_blocks : FnAt P w K mg base n "same_blocks" ["form", "tree"] f_same_blocks) :
    FnOk P w K mg base (L2.CX P w) (n + 1) f fd ["form", "tree", "filling"] (spM K 3 (kEff.f (runM 3 5 (m_fit_under f_fit_under f_same_blocks)))) :=
  def_ok (N := ["form", "tree", "filling", "k", "part"]) kEff F sc_fit_under fun cdv A outer s H E W hr tk =>
    sms_cons (sm_if (tm_cmp (o_eq (hu195 hr)) (em_ix (o_ix (by first | exact hu1 hr | (have hz := hu1 hr; exact hz))) (em_v (pv 0)) (em_int) (fun _ _ => rfl)) (em_str) (nomark _)) (sms_one (sm_ret (em_cmp (o_eq (hu195 hr)) (em_bm rfl PySem.F.plainAttrs_dict PySem.F.slot_dict_setdefault PySem.F.type_dict_setdefault k_setd (fun _ _ _ _ _ => ckDct_ty) (em_v (pv 2)) (am_cons (em_ix (o_ix (by first | exact hu1 hr | (have hz := hu1 hr; exact hz))) (em_v (pv 0)) (em_int) (fun _ _ => rfl)) (am_cons (em_v (pv 1)) (am_nil)))) (em_v (pv 1)) (nomark _)))) (sms_nil))
    (sms_cons (sm_if (tm_not (tm_tru (em_call A_same_blocks rfl hr tk rfl (am_cons (em_v (pv 0)) (am_cons (em_v (pv 1)) (am_nil)))) rfl)) (sms_one (sm_ret (em_bl))) (sms_nil))
    (sms_cons (sm_for (passes_of rfl) rfl (im_enum rfl rfl B.z_enumerate (em_ix (o_ix (by first | exact hu1 hr | (have hz := hu1 hr; exact hz))) (em_v (pv 0)) (em_int) (fun _ _ => rfl))) (gm_tup rfl (gms_cons (gm_name (i := 3) (pg_name (i := 3) sc_fit_under.nd rfl (by first | exact Or.inl rfl | exact Or.inr rfl))) (gms_cons (gm_name (i := 4) (pg_name (i := 4) sc_fit_under.nd rfl (by first | exact Or.inl rfl | exact Or.inr rfl))) (gms_nil))) rfl) (sms_one (sm_if (tm_not (tm_tru (em_call A_fit_under rfl hr tk rfl (am_cons (em_v (pv 4)) (am_cons (em_ix (o_ix (by first | exact hu1 hr | (have hz := hu1 hr; exact hz))) (em_ix (o_ix (by first | exact hu1 hr | (have hz := hu1 hr; exact hz))) (em_v (pv 1)) (em_int) (fun _ _ => rfl)) (em_v (pv 3)) (fun _ _ => rfl)) (am_cons (em_v (pv 2)) (am_nil))))) rfl)) (sms_one (sm_ret (em_bl))) (sms_nil))))
    (sms_one (sm_ret (em_bl)))))
theorem sc_fitting : FnScope ["form", "tree", "filling"] ["form", "tree"] (defScope s_fitting) := ⟨rfl, rfl, rfl, by decide +kernel, rfl, by decide +kernel, by decide +kernel⟩
theorem ok_fitting (F : FunD K "fitting" "fitting" (defArgs s_fitting) (defBody s_fitting) (defScope s_fitting) [] [] f fd) (B : Blt mg) {f_fit_under : Fm} (A_fit_under : FnAt P w K mg base n "fit_under" ["form", "tree", "filling"] f_fit_under) :
    FnOk P w K mg base (L2.CX P w) (n + 1) f fd ["form", "tree"] (spM K 2 (kRaw.f (runM 2 3 (m_fitting f_fit_under)))) :=
  def_ok (N := ["form", "tree", "filling"]) kRaw F sc_fitting fun cdv A outer s H E W hr tk =>
    sms_cons (sm_set (i := 2) sc_fitting.nd rfl (by first | exact Or.inl rfl | exact Or.inr rfl) (em_newD))
    (sms_cons (sm_if (tm_tru (em_call A_fit_under rfl hr tk rfl (am_cons (em_v (pv 0)) (am_cons (em_v (pv 1)) (am_cons (em_v (pv 2)) (am_nil))))) rfl) (sms_one (sm_ret (em_v (pv 2)))) (sms_nil))
    (sms_one (sm_ret (em_non))))
theorem sc_of_one_kind : FnScope ["trees", "first", "tree"] ["trees"] (defScope s_of_one_kind) := ⟨rfl, rfl, rfl, by decide +kernel, rfl, by decide +kernel, by decide +kernel⟩
theorem ok_of_one_kind (F : FunD K "of_one_kind" "of_one_kind" (defArgs s_of_one_kind) (defBody s_of_one_kind) (defScope s_of_one_kind) [] [] f fd) (B : Blt mg) :
    FnOk P w K mg base (L2.CX P w) (n + 1) f fd ["trees"] (spM K 1 (kPure.f (runM 1 3 (m_of_one_kind)))) :=
  def_ok (N := ["trees", "first", "tree"]) kPure F sc_of_one_kind fun cdv A outer s H E W hr tk =>
    sms_cons (sm_set (i := 1) sc_of_one_kind.nd rfl (by first | exact Or.inl rfl | exact Or.inr rfl) (em_ix (o_ix (by first | exact hu1 hr | (have hz := hu1 hr; exact hz))) (em_v (pv 0)) (em_int) (fun _ _ => rfl)))
    (sms_cons (sm_for (passes_of rfl) rfl (im_val rfl (em_v (pv 0))) (gm_name (i := 2) (pg_name (i := 2) sc_of_one_kind.nd rfl (by first | exact Or.inl rfl | exact Or.inr rfl))) (sms_cons (sm_if (PW.pt (tm_or (tm_cmp (o_ne (hu195 hr)) (em_ix (o_ix (by first | exact hu1 hr | (have hz := hu1 hr; exact hz))) (em_v (pv 2)) (em_int) (fun _ _ => rfl)) (em_str) (nomark _)) (tm_or1 (tm_cmp (o_ne (hu195 hr)) (em_ix (o_ix (by first | exact hu1 hr | (have hz := hu1 hr; exact hz))) (em_v (pv 1)) (em_int) (fun _ _ => rfl)) (em_str) (nomark _))))) (sms_one (sm_ret (em_bl))) (sms_nil))
    (sms_one (sm_if (PW.pt (tm_or (tm_cmp (o_ne (hu195 hr)) (em_ix (o_ix (by first | exact hu1 hr | (have hz := hu1 hr; exact hz))) (em_v (pv 2)) (em_int) (fun _ _ => rfl)) (em_ix (o_ix (by first | exact hu1 hr | (have hz := hu1 hr; exact hz))) (em_v (pv 1)) (em_int) (fun _ _ => rfl)) (nomark _)) (tm_or1 (tm_cmp (o_ne (hu195 hr)) (em_callB c_len rfl B.z_len (by decide +kernel) (am_cons (em_ix (o_ix (by first | exact hu1 hr | (have hz := hu1 hr; exact hz))) (em_v (pv 2)) (em_int) (fun _ _ => rfl)) (am_nil))) (em_callB c_len rfl B.z_len (by decide +kernel) (am_cons (em_ix (o_ix (by first | exact hu1 hr | (have hz := hu1 hr; exact hz))) (em_v (pv 1)) (em_int) (fun _ _ => rfl)) (am_nil))) (nomark _))))) (sms_one (sm_ret (em_bl))) (sms_nil)))))
    (sms_one (sm_ret (em_bl))))
theorem sc_go_down : FnScope ["trees", "rows", "parts", "k", "tree", "row"] ["trees", "rows"] (defScope s_go_down) := ⟨rfl, rfl, rfl, by decide +kernel, rfl, by decide +kernel, by decide +kernel⟩
theorem ok_go_down (F : FunD K "go_down" "go_down" (defArgs s_go_down) (defBody s_go_down) (defScope s_go_down) [] [] f fd) (B : Blt mg) {f_of_one_kind f_go_down : Fm} (A_of_one_kind : FnAt P w K mg base n "of_one_kind" ["trees"] f_of_one_kind) (A_go_down : FnAt P w K mg base n "go_down" ["trees", "rows"] f_go_down) :
    FnOk P w K mg base (L2.CX P w) (n + 1) f fd ["trees", "rows"] (spM K 2 (kPure.f (runM 2 6 (m_go_down f_of_one_kind f_go_down)))) :=
  def_ok (N := ["trees", "rows", "parts", "k", "tree", "row"]) kPure F sc_go_down fun cdv A outer s H E W hr tk =>
    sms_cons (sm_if (tm_tru (em_call A_of_one_kind rfl hr tk rfl (am_cons (em_v (pv 0)) (am_nil))) rfl) (sms_cons (sm_set (i := 2) sc_go_down.nd rfl (by first | exact Or.inl rfl | exact Or.inr rfl) (em_lst (am_nil)))
    (sms_cons (sm_for (passes_of rfl) rfl (im_rng1 (by rfl) B.z_range (am_cons (em_callB c_len rfl B.z_len (by decide +kernel) (am_cons (em_ix (o_ix (by first | exact hu1 hr | (have hz := hu1 hr; exact hz))) (em_ix (o_ix (by first | exact hu1 hr | (have hz := hu1 hr; exact hz))) (em_v (pv 0)) (em_int) (fun _ _ => rfl)) (em_int) (fun _ _ => rfl)) (am_nil))) (am_nil))) (gm_name (i := 3) (pg_name (i := 3) sc_go_down.nd rfl (by first | exact Or.inl rfl | exact Or.inr rfl))) (sms_one (sm_expr (em_bm rfl PySem.F.plainAttrs_list PySem.F.slot_list_append PySem.F.type_list_append k_append (fun _ _ _ _ _ => ckList_ty) (em_v (pv 2)) (am_cons (em_call A_go_down rfl hr tk rfl (am_cons (em_lc (own := [("tree", 4)]) rfl sc_go_down.nd (im_val rfl (em_v (pv 0))) (blkOk_by (own := [("tree", 4)]) (N := ["trees", "rows", "parts", "k", "tree", "row"]) (sc := defScope s_go_down) (by decide +kernel)) (ct_name _ 4) (fun _ _ _ _ _ => pg_name (i := 4) sc_go_down.nd rfl (Or.inl rfl)) (fun _ _ _ _ _ => tms_nil) (fun _ _ _ _ _ => em_ix (o_ix (by first | exact hu1 hr | (have hz := hu1 hr; exact hz))) (em_ix (o_ix (by first | exact hu1 hr | (have hz := hu1 hr; exact hz))) (em_v (pv 4)) (em_int) (fun _ _ => rfl)) (em_v (pv 3)) (fun _ _ => rfl))) (am_cons (em_v (pv 1)) (am_nil)))) (am_nil))))))
    (sms_one (sm_ret (em_tup (am_cons (em_str) (am_cons (em_ix (o_ix (by first | exact hu1 hr | (have hz := hu1 hr; exact hz))) (em_ix (o_ix (by first | exact hu1 hr | (have hz := hu1 hr; exact hz))) (em_v (pv 0)) (em_int) (fun _ _ => rfl)) (em_int) (fun _ _ => rfl)) (am_cons (em_callTy c_tuple rfl B.z_tuple (by decide +kernel) (am_cons (em_v (pv 2)) (am_nil))) (am_nil))))))))) (sms_nil))
    (sms_cons (sm_set (i := 5) sc_go_down.nd rfl (by first | exact Or.inl rfl | exact Or.inr rfl) (em_callTy c_tuple rfl B.z_tuple (by decide +kernel) (am_cons (em_v (pv 0)) (am_nil))))
    (sms_cons (sm_if (tm_cmp (o_nin (hu195 hr)) (em_v (pv 5)) (em_v (pv 1)) rfl) (sms_one (sm_setIx (s_any (hu1 hr)) (em_bin o_add (em_callB c_len rfl B.z_len (by decide +kernel) (am_cons (em_v (pv 1)) (am_nil))) (em_int)) (em_v (pv 1)) (em_v (pv 5)))) (sms_nil))
    (sms_one (sm_ret (em_tup (am_cons (em_str) (am_cons (em_ix (o_ix (by first | exact hu1 hr | (have hz := hu1 hr; exact hz))) (em_v (pv 1)) (em_v (pv 5)) (fun _ _ => rfl)) (am_nil))))))))
theorem sc_nearest_of : FnScope ["trees", "rows", "form", "fillings", "k", "filling", "row", "number"] ["trees"] (defScope s_nearest_of) := ⟨rfl, rfl, rfl, by decide +kernel, rfl, by decide +kernel, by decide +kernel⟩
theorem ok_nearest_of (F : FunD K "nearest_of" "nearest_of" (defArgs s_nearest_of) (defBody s_nearest_of) (defScope s_nearest_of) [] [] f fd) (B : Blt mg) {f_go_down : Fm} (A_go_down : FnAt P w K mg base n "go_down" ["trees", "rows"] f_go_down) :
    FnOk P w K mg base (L2.CX P w) (n + 1) f fd ["trees"] (spM K 1 (kRaw.f (runM 1 8 (m_nearest_of f_go_down)))) :=
  def_ok (N := ["trees", "rows", "form", "fillings", "k", "filling", "row", "number"]) kRaw F sc_nearest_of fun cdv A outer s H E W hr tk =>
    sms_cons (sm_set (i := 1) sc_nearest_of.nd rfl (by first | exact Or.inl rfl | exact Or.inr rfl) (em_newD))
    (sms_cons (sm_set (i := 2) sc_nearest_of.nd rfl (by first | exact Or.inl rfl | exact Or.inr rfl) (em_call A_go_down rfl hr tk rfl (am_cons (em_v (pv 0)) (am_cons (em_v (pv 1)) (am_nil)))))
    (sms_cons (sm_set (i := 3) sc_nearest_of.nd rfl (by first | exact Or.inl rfl | exact Or.inr rfl) (em_lst (am_nil)))
    (sms_cons (sm_for (passes_of rfl) rfl (im_rng1 (by rfl) B.z_range (am_cons (em_callB c_len rfl B.z_len (by decide +kernel) (am_cons (em_v (pv 0)) (am_nil))) (am_nil))) (gm_name (i := 4) (pg_name (i := 4) sc_nearest_of.nd rfl (by first | exact Or.inl rfl | exact Or.inr rfl))) (sms_cons (sm_set (i := 5) sc_nearest_of.nd rfl (by first | exact Or.inl rfl | exact Or.inr rfl) (em_newD))
    (sms_cons (sm_lock (i := 1) (sm_for (passes_of rfl) rfl (im_fdIt rfl (pv 1)) (gm_tup rfl (gms_cons (gm_name (i := 6) (pg_name (i := 6) sc_nearest_of.nd rfl (by first | exact Or.inl rfl | exact Or.inr rfl))) (gms_cons (gm_name (i := 7) (pg_name (i := 7) sc_nearest_of.nd rfl (by first | exact Or.inl rfl | exact Or.inr rfl))) (gms_nil))) rfl) (sms_one (sm_setIx (s_any (hu1 hr)) (em_ix (o_ix (by first | exact hu1 hr | (have hz := hu1 hr; exact hz))) (em_v (pv 6)) (em_v (pv 4)) (fun _ _ => rfl)) (em_v (pv 5)) (em_v (pv 7))))))
    (sms_one (sm_expr (em_bm rfl PySem.F.plainAttrs_list PySem.F.slot_list_append PySem.F.type_list_append k_append (fun _ _ _ _ _ => ckList_ty) (em_v (pv 3)) (am_cons (em_v (pv 5)) (am_nil))))))))
    (sms_one (sm_ret (em_tup (am_cons (em_v (pv 2)) (am_cons (em_v (pv 3)) (am_nil)))))))))
theorem sc_is_name : FnScope ["text", "sign"] ["text"] (defScope s_is_name) := ⟨rfl, rfl, rfl, by decide +kernel, rfl, by decide +kernel, by decide +kernel⟩
theorem ok_is_name (F : FunD K "is_name" "is_name" (defArgs s_is_name) (defBody s_is_name) (defScope s_is_name) [] [] f fd) (B : Blt mg) (c_SMALL : ∃ t, mg "SMALL" = some (.str "abcdefghijklmnopqrstuvwxyz" t)) (c_FIGURES : ∃ t, mg "FIGURES" = some (.str "0123456789" t)) (c_LONGEST : ∃ t, mg "LONGEST" = some (.int 12 t)) :
    FnOk P w K mg base (L2.CX P w) (n + 1) f fd ["text"] (spM K 1 (kPure.f (runM 1 2 (m_is_name)))) :=
  def_ok (N := ["text", "sign"]) kPure F sc_is_name fun cdv A outer s H E W hr tk =>
    sms_cons (sm_if (PW.pt (tm_or (tm_not (tm_chain o_le o_le (em_int) (em_callB c_len rfl B.z_len (by decide +kernel) (am_cons (em_v (pv 0)) (am_nil))) (em_gint rfl c_LONGEST))) (tm_or1 (tm_cmp (o_nin (hu195 hr)) (em_ix (o_ix (by first | exact hu1 hr | (have hz := hu1 hr; exact hz))) (em_v (pv 0)) (em_int) (fun _ _ => rfl)) (em_gstr rfl c_SMALL) rfl)))) (sms_one (sm_ret (em_bl))) (sms_nil))
    (sms_cons (sm_for (passes_of rfl) rfl (im_val rfl (em_v (pv 0))) (gm_name (i := 1) (pg_name (i := 1) sc_is_name.nd rfl (by first | exact Or.inl rfl | exact Or.inr rfl))) (sms_one (sm_if (PW.pt (tm_and (tm_cmp (o_nin (hu195 hr)) (em_v (pv 1)) (em_gstr rfl c_SMALL) rfl) (tm_and1 (tm_cmp (o_nin (hu195 hr)) (em_v (pv 1)) (em_gstr rfl c_FIGURES) rfl)))) (sms_one (sm_ret (em_bl))) (sms_nil))))
    (sms_one (sm_ret (em_bl))))
theorem sc_parts_of : FnScope ["tree"] ["tree"] (defScope s_parts_of) := ⟨rfl, rfl, rfl, by decide +kernel, rfl, by decide +kernel, by decide +kernel⟩
theorem ok_parts_of (F : FunD K "parts_of" "parts_of" (defArgs s_parts_of) (defBody s_parts_of) (defScope s_parts_of) [] [] f fd) (B : Blt mg) :
    FnOk P w K mg base (L2.CX P w) (n + 1) f fd ["tree"] (spM K 1 (kPure.f (runM 1 1 (m_parts_of)))) :=
  def_ok (N := ["tree"]) kPure F sc_parts_of fun cdv A outer s H E W hr tk =>
    sms_cons (sm_if (tm_cmp (o_eq (hu195 hr)) (em_ix (o_ix (by first | exact hu1 hr | (have hz := hu1 hr; exact hz))) (em_v (pv 0)) (em_int) (fun _ _ => rfl)) (em_str) (nomark _)) (sms_one (sm_ret (em_tup (am_nil)))) (sms_nil))
    (sms_one (sm_ret (em_ix (o_ix (by first | exact hu1 hr | (have hz := hu1 hr; exact hz))) (em_v (pv 0)) (em_int) (fun _ _ => rfl))))
theorem sc_knots_of : FnScope ["tree", "part"] ["tree"] (defScope s_knots_of) := ⟨rfl, rfl, rfl, by decide +kernel, rfl, by decide +kernel, by decide +kernel⟩
theorem ok_knots_of (F : FunD K "knots_of" "knots_of" (defArgs s_knots_of) (defBody s_knots_of) (defScope s_knots_of) [] [] f fd) (B : Blt mg) {f_parts_of f_knots_of : Fm} (A_parts_of : FnAt P w K mg base n "parts_of" ["tree"] f_parts_of) (A_knots_of : FnAt P w K mg base n "knots_of" ["tree"] f_knots_of) :
    FnOk P w K mg base (L2.CX P w) (n + 1) f fd ["tree"] (spM K 1 (kPure.f (runM 1 2 (m_knots_of f_parts_of f_knots_of)))) :=
  def_ok (N := ["tree", "part"]) kPure F sc_knots_of fun cdv A outer s H E W hr tk =>
    sms_one (sm_ret (em_bin o_add (em_int) (em_callB (c_sum rfl) rfl B.z_sum (by decide +kernel) (am_cons (em_lc (own := [("part", 1)]) rfl sc_knots_of.nd (im_val rfl (em_call A_parts_of rfl hr tk rfl (am_cons (em_v (pv 0)) (am_nil)))) (blkOk_by (own := [("part", 1)]) (N := ["tree", "part"]) (sc := defScope s_knots_of) (by decide +kernel)) (ct_name _ 1) (fun _ _ _ _ _ => pg_name (i := 1) sc_knots_of.nd rfl (Or.inl rfl)) (fun _ _ _ _ _ => tms_nil) (fun _ _ _ _ _ => em_call A_knots_of rfl hr takes0 rfl (am_cons (em_v (pv 1)) (am_nil)))) (am_nil)))))
theorem sc_depth_of : FnScope ["tree", "part"] ["tree"] (defScope s_depth_of) := ⟨rfl, rfl, rfl, by decide +kernel, rfl, by decide +kernel, by decide +kernel⟩
theorem ok_depth_of (F : FunD K "depth_of" "depth_of" (defArgs s_depth_of) (defBody s_depth_of) (defScope s_depth_of) [] [] f fd) (B : Blt mg) {f_parts_of f_depth_of : Fm} (A_parts_of : FnAt P w K mg base n "parts_of" ["tree"] f_parts_of) (A_depth_of : FnAt P w K mg base n "depth_of" ["tree"] f_depth_of) :
    FnOk P w K mg base (L2.CX P w) (n + 1) f fd ["tree"] (spM K 1 (kPure.f (runM 1 2 (m_depth_of f_parts_of f_depth_of)))) :=
  def_ok (N := ["tree", "part"]) kPure F sc_depth_of fun cdv A outer s H E W hr tk =>
    sms_one (sm_ret (em_bin o_add (em_int) (em_maxd rfl rfl (hu1 hr) rfl B.z_max (em_lc (own := [("part", 1)]) rfl sc_depth_of.nd (im_val rfl (em_call A_parts_of rfl hr tk rfl (am_cons (em_v (pv 0)) (am_nil)))) (blkOk_by (own := [("part", 1)]) (N := ["tree", "part"]) (sc := defScope s_depth_of) (by decide +kernel)) (ct_name _ 1) (fun _ _ _ _ _ => pg_name (i := 1) sc_depth_of.nd rfl (Or.inl rfl)) (fun _ _ _ _ _ => tms_nil) (fun _ _ _ _ _ => em_call A_depth_of rfl hr takes0 rfl (am_cons (em_v (pv 1)) (am_nil)))) (em_int))))
theorem sc_put_at : FnScope ["tree", "place", "part", "k", "parts"] ["tree", "place", "part"] (defScope s_put_at) := ⟨rfl, rfl, rfl, by decide +kernel, rfl, by decide +kernel, by decide +kernel⟩
theorem ok_put_at (F : FunD K "put_at" "put_at" (defArgs s_put_at) (defBody s_put_at) (defScope s_put_at) [] [] f fd) (B : Blt mg) (x_NoPlace : ExcF K mg "NoPlace") {f_put_at f_parts_of : Fm} (A_put_at : FnAt P w K mg base n "put_at" ["tree", "place", "part"] f_put_at) (A_parts_of : FnAt P w K mg base n "parts_of" ["tree"] f_parts_of) :
    FnOk P w K mg base (L2.CX P w) (n + 1) f fd ["tree", "place", "part"] (spM K 3 (kPure.f (runM 3 5 (m_put_at f_put_at f_parts_of)))) :=
  def_ok (N := ["tree", "place", "part", "k", "parts"]) kPure F sc_put_at fun cdv A outer s H E W hr tk =>
    sms_cons (sm_if (tm_cmp (o_eq (hu195 hr)) (em_callB c_len rfl B.z_len (by decide +kernel) (am_cons (em_v (pv 1)) (am_nil))) (em_int) (nomark _)) (sms_one (sm_ret (em_v (pv 2)))) (sms_nil))
    (sms_cons (sm_set (i := 3) sc_put_at.nd rfl (by first | exact Or.inl rfl | exact Or.inr rfl) (em_ix (o_ix (by first | exact hu1 hr | (have hz := hu1 hr; exact hz))) (em_v (pv 1)) (em_int) (fun _ _ => rfl)))
    (sms_cons (sm_if (tm_not (tm_chain o_le o_lt (em_int) (em_v (pv 3)) (em_callB c_len rfl B.z_len (by decide +kernel) (am_cons (em_call A_parts_of rfl hr tk rfl (am_cons (em_v (pv 0)) (am_nil))) (am_nil))))) (sms_one (sm_raise x_NoPlace rfl rfl tk rfl)) (sms_nil))
    (sms_cons (sm_set (i := 4) sc_put_at.nd rfl (by first | exact Or.inl rfl | exact Or.inr rfl) (em_callTy c_list rfl B.z_list (by decide +kernel) (am_cons (em_ix (o_ix (by first | exact hu1 hr | (have hz := hu1 hr; exact hz))) (em_v (pv 0)) (em_int) (fun _ _ => rfl)) (am_nil))))
    (sms_cons (sm_setIx (s_any (hu1 hr)) (em_call A_put_at rfl hr tk rfl (am_cons (em_ix (o_ix (by first | exact hu1 hr | (have hz := hu1 hr; exact hz))) (em_v (pv 4)) (em_v (pv 3)) (fun _ _ => rfl)) (am_cons (em_slice rfl (em_v (pv 1)) (pm_some (em_int)) (pm_no)) (am_cons (em_v (pv 2)) (am_nil))))) (em_v (pv 4)) (em_v (pv 3)))
    (sms_one (sm_ret (em_tup (am_cons (em_str) (am_cons (em_ix (o_ix (by first | exact hu1 hr | (have hz := hu1 hr; exact hz))) (em_v (pv 0)) (em_int) (fun _ _ => rfl)) (am_cons (em_callTy c_tuple rfl B.z_tuple (by decide +kernel) (am_cons (em_v (pv 4)) (am_nil))) (am_nil)))))))))))
theorem sc_names_on : FnScope ["bough", "found", "inner"] ["bough"] (defScope s_names_on) := ⟨rfl, rfl, rfl, by decide +kernel, rfl, by decide +kernel, by decide +kernel⟩
theorem ok_names_on (F : FunD K "names_on" "names_on" (defArgs s_names_on) (defBody s_names_on) (defScope s_names_on) [] [] f fd) (B : Blt mg) {f_names_on : Fm} (A_names_on : FnAt P w K mg base n "names_on" ["bough"] f_names_on) :
    FnOk P w K mg base (L2.CX P w) (n + 1) f fd ["bough"] (spM K 1 (kNew.f (runM 1 3 (m_names_on f_names_on)))) :=
  def_ok (N := ["bough", "found", "inner"]) kNew F sc_names_on fun cdv A outer s H E W hr tk =>
    sms_cons (sm_if (tm_cmp (o_eq (hu195 hr)) (em_ix (o_ix (by first | exact hu1 hr | (have hz := hu1 hr; exact hz))) (em_v (pv 0)) (em_int) (fun _ _ => rfl)) (em_str) (nomark _)) (sms_one (sm_ret (em_lst (am_cons (em_ix (o_ix (by first | exact hu1 hr | (have hz := hu1 hr; exact hz))) (em_v (pv 0)) (em_int) (fun _ _ => rfl)) (am_nil))))) (sms_nil))
    (sms_cons (sm_set (i := 1) sc_names_on.nd rfl (by first | exact Or.inl rfl | exact Or.inr rfl) (em_lst (am_nil)))
    (sms_cons (sm_for (passes_of rfl) rfl (im_val rfl (em_ix (o_ix (by first | exact hu1 hr | (have hz := hu1 hr; exact hz))) (em_v (pv 0)) (em_int) (fun _ _ => rfl))) (gm_name (i := 2) (pg_name (i := 2) sc_names_on.nd rfl (by first | exact Or.inl rfl | exact Or.inr rfl))) (sms_one (sm_set (i := 1) sc_names_on.nd rfl (by first | exact Or.inl rfl | exact Or.inr rfl) (em_bin o_add (em_v (pv 1)) (em_call A_names_on rfl hr tk rfl (am_cons (em_v (pv 2)) (am_nil)))))))
    (sms_one (sm_ret (em_callB (c_sortedS rfl) rfl B.z_sorted (by decide +kernel) (am_cons (em_v (pv 1)) (am_nil)))))))
theorem sc_form_on : FnScope ["bough", "kept"] ["bough", "kept"] (defScope s_form_on) := ⟨rfl, rfl, rfl, by decide +kernel, rfl, by decide +kernel, by decide +kernel⟩
theorem ok_form_on (F : FunD K "form_on" "form_on" (defArgs s_form_on) (defBody s_form_on) (defScope s_form_on) [] [] f fd) (B : Blt mg) :
    FnOk P w K mg base (L2.CX P w) (n + 1) f fd ["bough", "kept"] (spM K 2 (kPure.f (runM 2 2 (m_form_on)))) :=
  def_ok (N := ["bough", "kept"]) kPure F sc_form_on fun cdv A outer s H E W hr tk =>
    sms_cons (sm_if (tm_cmp (o_eq (hu195 hr)) (em_ix (o_ix (by first | exact hu1 hr | (have hz := hu1 hr; exact hz))) (em_v (pv 0)) (em_int) (fun _ _ => rfl)) (em_str) (nomark _)) (sms_one (sm_ret (em_ix (o_ix (by first | exact hu1 hr | (have hz := hu1 hr; exact hz))) (em_v (pv 1)) (em_ix (o_ix (by first | exact hu1 hr | (have hz := hu1 hr; exact hz))) (em_v (pv 0)) (em_int) (fun _ _ => rfl)) (fun _ _ => rfl)))) (sms_nil))
    (sms_one (sm_ret (em_ix (o_ix (by first | exact hu1 hr | (have hz := hu1 hr; exact hz))) (em_v (pv 0)) (em_int) (fun _ _ => rfl))))
theorem sc_knot_of : FnScope ["boughs", "kept", "bough"] ["boughs", "kept"] (defScope s_knot_of) := ⟨rfl, rfl, rfl, by decide +kernel, rfl, by decide +kernel, by decide +kernel⟩
theorem ok_knot_of (F : FunD K "knot_of" "knot_of" (defArgs s_knot_of) (defBody s_knot_of) (defScope s_knot_of) [] [] f fd) (B : Blt mg) {f_form_on f_nearest_of : Fm} (A_form_on : FnAt P w K mg base n "form_on" ["bough", "kept"] f_form_on) (A_nearest_of : FnAt P w K mg base n "nearest_of" ["trees"] f_nearest_of) :
    FnOk P w K mg base (L2.CX P w) (n + 1) f fd ["boughs", "kept"] (spM K 2 (kRaw.f (runM 2 3 (m_knot_of f_form_on f_nearest_of)))) :=
  def_ok (N := ["boughs", "kept", "bough"]) kRaw F sc_knot_of fun cdv A outer s H E W hr tk =>
    sms_cons (sm_if (tm_cmp (o_eq (hu195 hr)) (em_callB c_len rfl B.z_len (by decide +kernel) (am_cons (em_v (pv 0)) (am_nil))) (em_int) (nomark _)) (sms_one (sm_ret (em_ix (o_ix (by first | exact hu1 hr | (have hz := hu1 hr; exact hz))) (em_v (pv 0)) (em_int) (fun _ _ => rfl)))) (sms_nil))
    (sms_one (sm_ret (em_tup (am_cons (em_str) (am_cons (em_ix (o_ix (by first | exact hu1 hr | (have hz := hu1 hr; exact hz))) (em_call A_nearest_of rfl hr tk rfl (am_cons (em_lc (own := [("bough", 2)]) rfl sc_knot_of.nd (im_val rfl (em_v (pv 0))) (blkOk_by (own := [("bough", 2)]) (N := ["boughs", "kept", "bough"]) (sc := defScope s_knot_of) (by decide +kernel)) (ct_name _ 2) (fun _ _ _ _ _ => pg_name (i := 2) sc_knot_of.nd rfl (Or.inl rfl)) (fun _ _ _ _ _ => tms_nil) (fun _ _ _ _ _ => em_call A_form_on rfl hr takes0 rfl (am_cons (em_v (pv 2)) (am_cons (em_v (pv 1)) (am_nil))))) (am_nil))) (em_int) (fun _ _ => rfl)) (am_cons (em_v (pv 0)) (am_nil)))))))
theorem sc_best_bough : FnScope ["boughs", "leaf", "kept", "best", "most", "k", "bough", "many"] ["boughs", "leaf", "kept"] (defScope s_best_bough) := ⟨rfl, rfl, rfl, by decide +kernel, rfl, by decide +kernel, by decide +kernel⟩
theorem ok_best_bough (F : FunD K "best_bough" "best_bough" (defArgs s_best_bough) (defBody s_best_bough) (defScope s_best_bough) [] [] f fd) (B : Blt mg) {f_form_on f_nearest_of f_knots_of : Fm} (A_form_on : FnAt P w K mg base n "form_on" ["bough", "kept"] f_form_on) (A_nearest_of : FnAt P w K mg base n "nearest_of" ["trees"] f_nearest_of) (A_knots_of : FnAt P w K mg base n "knots_of" ["tree"] f_knots_of) :
    FnOk P w K mg base (L2.CX P w) (n + 1) f fd ["boughs", "leaf", "kept"] (spM K 3 (kPure.f (runM 3 8 (m_best_bough f_form_on f_nearest_of f_knots_of)))) :=
  def_ok (N := ["boughs", "leaf", "kept", "best", "most", "k", "bough", "many"]) kPure F sc_best_bough fun cdv A outer s H E W hr tk =>
    sms_cons (sm_set (i := 3) sc_best_bough.nd rfl (by first | exact Or.inl rfl | exact Or.inr rfl) (em_int))
    (sms_cons (sm_set (i := 4) sc_best_bough.nd rfl (by first | exact Or.inl rfl | exact Or.inr rfl) (em_int))
    (sms_cons (sm_for (passes_of rfl) rfl (im_enum rfl rfl B.z_enumerate (em_v (pv 0))) (gm_tup rfl (gms_cons (gm_name (i := 5) (pg_name (i := 5) sc_best_bough.nd rfl (by first | exact Or.inl rfl | exact Or.inr rfl))) (gms_cons (gm_name (i := 6) (pg_name (i := 6) sc_best_bough.nd rfl (by first | exact Or.inl rfl | exact Or.inr rfl))) (gms_nil))) rfl) (sms_cons (sm_set (i := 7) sc_best_bough.nd rfl (by first | exact Or.inl rfl | exact Or.inr rfl) (em_call A_knots_of rfl hr tk rfl (am_cons (em_ix (o_ix (by first | exact hu1 hr | (have hz := hu1 hr; exact hz))) (em_call A_nearest_of rfl hr tk rfl (am_cons (em_lst (am_cons (em_call A_form_on rfl hr tk rfl (am_cons (em_v (pv 6)) (am_cons (em_v (pv 2)) (am_nil)))) (am_cons (em_call A_form_on rfl hr tk rfl (am_cons (em_v (pv 1)) (am_cons (em_v (pv 2)) (am_nil)))) (am_nil)))) (am_nil))) (em_int) (fun _ _ => rfl)) (am_nil))))
    (sms_one (sm_if (tm_cmp o_gt (em_v (pv 7)) (em_v (pv 4)) (nomark _)) (sms_cons (sm_set (i := 3) sc_best_bough.nd rfl (by first | exact Or.inl rfl | exact Or.inr rfl) (em_v (pv 5)))
    (sms_one (sm_set (i := 4) sc_best_bough.nd rfl (by first | exact Or.inl rfl | exact Or.inr rfl) (em_v (pv 7))))) (sms_nil)))))
    (sms_one (sm_ret (em_v (pv 3))))))
theorem sc_hung : FnScope ["bough", "leaf", "kept", "boughs", "at"] ["bough", "leaf", "kept"] (defScope s_hung) := ⟨rfl, rfl, rfl, by decide +kernel, rfl, by decide +kernel, by decide +kernel⟩
theorem ok_hung (F : FunD K "hung" "hung" (defArgs s_hung) (defBody s_hung) (defScope s_hung) [] [] f fd) (B : Blt mg) (c_MOST_BOUGHS : ∃ t, mg "MOST_BOUGHS" = some (.int 4 t)) {f_knot_of f_hung f_best_bough f_form_on f_fitting : Fm} (A_knot_of : FnAt P w K mg base n "knot_of" ["boughs", "kept"] f_knot_of) (A_hung : FnAt P w K mg base n "hung" ["bough", "leaf", "kept"] f_hung) (A_best_bough : FnAt P w K mg base n "best_bough" ["boughs", "leaf", "kept"] f_best_bough) (A_form_on : FnAt P w K mg base n "form_on" ["bough", "kept"] f_form_on) (A_fitting : FnAt P w K mg base n "fitting" ["form", "tree"] f_fitting) :
    FnOk P w K mg base (L2.CX P w) (n + 1) f fd ["bough", "leaf", "kept"] (spM K 3 (kRaw.f (runM 3 5 (m_hung f_knot_of f_hung f_best_bough f_form_on f_fitting)))) :=
  def_ok (N := ["bough", "leaf", "kept", "boughs", "at"]) kRaw F sc_hung fun cdv A outer s H E W hr tk =>
    sms_cons (sm_if (PW.pt (tm_or (tm_cmp (o_eq (hu195 hr)) (em_ix (o_ix (by first | exact hu1 hr | (have hz := hu1 hr; exact hz))) (em_v (pv 0)) (em_int) (fun _ _ => rfl)) (em_str) (nomark _)) (tm_or1 (tm_cmp o_is (em_call A_fitting rfl hr tk rfl (am_cons (em_ix (o_ix (by first | exact hu1 hr | (have hz := hu1 hr; exact hz))) (em_v (pv 0)) (em_int) (fun _ _ => rfl)) (am_cons (em_call A_form_on rfl hr tk rfl (am_cons (em_v (pv 1)) (am_cons (em_v (pv 2)) (am_nil)))) (am_nil)))) (em_non) (nomark _))))) (sms_one (sm_ret (em_call A_knot_of rfl hr tk rfl (am_cons (em_lst (am_cons (em_v (pv 0)) (am_cons (em_v (pv 1)) (am_nil)))) (am_cons (em_v (pv 2)) (am_nil)))))) (sms_nil))
    (sms_cons (sm_set (i := 3) sc_hung.nd rfl (by first | exact Or.inl rfl | exact Or.inr rfl) (em_callTy c_list rfl B.z_list (by decide +kernel) (am_cons (em_ix (o_ix (by first | exact hu1 hr | (have hz := hu1 hr; exact hz))) (em_v (pv 0)) (em_int) (fun _ _ => rfl)) (am_nil))))
    (sms_cons (sm_if (tm_cmp o_lt (em_callB c_len rfl B.z_len (by decide +kernel) (am_cons (em_v (pv 3)) (am_nil))) (em_gint rfl c_MOST_BOUGHS) (nomark _)) (sms_one (sm_ret (em_call A_knot_of rfl hr tk rfl (am_cons (em_bin o_add (em_v (pv 3)) (em_lst (am_cons (em_v (pv 1)) (am_nil)))) (am_cons (em_v (pv 2)) (am_nil)))))) (sms_nil))
    (sms_cons (sm_set (i := 4) sc_hung.nd rfl (by first | exact Or.inl rfl | exact Or.inr rfl) (em_call A_best_bough rfl hr tk rfl (am_cons (em_v (pv 3)) (am_cons (em_v (pv 1)) (am_cons (em_v (pv 2)) (am_nil))))))
    (sms_cons (sm_setIx (s_any (hu1 hr)) (em_call A_hung rfl hr tk rfl (am_cons (em_ix (o_ix (by first | exact hu1 hr | (have hz := hu1 hr; exact hz))) (em_v (pv 3)) (em_v (pv 4)) (fun _ _ => rfl)) (am_cons (em_v (pv 1)) (am_cons (em_v (pv 2)) (am_nil))))) (em_v (pv 3)) (em_v (pv 4)))
    (sms_one (sm_ret (em_call A_knot_of rfl hr tk rfl (am_cons (em_v (pv 3)) (am_cons (em_v (pv 2)) (am_nil))))))))))
theorem sc_cut_off : FnScope ["bough", "name", "kept", "boughs", "inner", "left"] ["bough", "name", "kept"] (defScope s_cut_off) := ⟨rfl, rfl, rfl, by decide +kernel, rfl, by decide +kernel, by decide +kernel⟩
theorem ok_cut_off (F : FunD K "cut_off" "cut_off" (defArgs s_cut_off) (defBody s_cut_off) (defScope s_cut_off) [] [] f fd) (B : Blt mg) {f_knot_of f_cut_off f_names_on : Fm} (A_knot_of : FnAt P w K mg base n "knot_of" ["boughs", "kept"] f_knot_of) (A_cut_off : FnAt P w K mg base n "cut_off" ["bough", "name", "kept"] f_cut_off) (A_names_on : FnAt P w K mg base n "names_on" ["bough"] f_names_on) :
    FnOk P w K mg base (L2.CX P w) (n + 1) f fd ["bough", "name", "kept"] (spM K 3 (kRaw.f (runM 3 6 (m_cut_off f_knot_of f_cut_off f_names_on)))) :=
  def_ok (N := ["bough", "name", "kept", "boughs", "inner", "left"]) kRaw F sc_cut_off fun cdv A outer s H E W hr tk =>
    sms_cons (sm_if (tm_cmp (o_eq (hu195 hr)) (em_ix (o_ix (by first | exact hu1 hr | (have hz := hu1 hr; exact hz))) (em_v (pv 0)) (em_int) (fun _ _ => rfl)) (em_str) (nomark _)) (sms_cons (sm_if (tm_cmp (o_eq (hu195 hr)) (em_ix (o_ix (by first | exact hu1 hr | (have hz := hu1 hr; exact hz))) (em_v (pv 0)) (em_int) (fun _ _ => rfl)) (em_v (pv 1)) (nomark _)) (sms_one (sm_ret (em_non))) (sms_nil))
    (sms_one (sm_ret (em_v (pv 0))))) (sms_nil))
    (sms_cons (sm_if (tm_cmp (o_nin (hu195 hr)) (em_v (pv 1)) (em_call A_names_on rfl hr tk rfl (am_cons (em_v (pv 0)) (am_nil))) rfl) (sms_one (sm_ret (em_v (pv 0)))) (sms_nil))
    (sms_cons (sm_set (i := 3) sc_cut_off.nd rfl (by first | exact Or.inl rfl | exact Or.inr rfl) (em_lst (am_nil)))
    (sms_cons (sm_for (passes_of rfl) rfl (im_val rfl (em_ix (o_ix (by first | exact hu1 hr | (have hz := hu1 hr; exact hz))) (em_v (pv 0)) (em_int) (fun _ _ => rfl))) (gm_name (i := 4) (pg_name (i := 4) sc_cut_off.nd rfl (by first | exact Or.inl rfl | exact Or.inr rfl))) (sms_cons (sm_set (i := 5) sc_cut_off.nd rfl (by first | exact Or.inl rfl | exact Or.inr rfl) (em_call A_cut_off rfl hr tk rfl (am_cons (em_v (pv 4)) (am_cons (em_v (pv 1)) (am_cons (em_v (pv 2)) (am_nil))))))
    (sms_one (sm_if (tm_cmp o_isn (em_v (pv 5)) (em_non) (nomark _)) (sms_one (sm_expr (em_bm rfl PySem.F.plainAttrs_list PySem.F.slot_list_append PySem.F.type_list_append k_append (fun _ _ _ _ _ => ckList_ty) (em_v (pv 3)) (am_cons (em_v (pv 5)) (am_nil))))) (sms_nil)))))
    (sms_one (sm_ret (em_call A_knot_of rfl hr tk rfl (am_cons (em_v (pv 3)) (am_cons (em_v (pv 2)) (am_nil)))))))))
theorem sc_Cabinet___init__ : FnScope ["self"] ["self"] (defScope s_Cabinet___init__) := ⟨rfl, rfl, rfl, by decide +kernel, rfl, by decide +kernel, by decide +kernel⟩
theorem ok_Cabinet___init__ (F : FunD K "__init__" "Cabinet.__init__" (defArgs s_Cabinet___init__) (defBody s_Cabinet___init__) (defScope s_Cabinet___init__) [] [] f fd) (B : Blt mg) (i_Cabinet : InsF K "Cabinet" ["kept", "root"]) :
    FnOk P w K mg base (L2.CX P w) (n + 1) f fd ["self"] (spM K 1 (kRaw.f (runM 1 1 (m_Cabinet___init__)))) :=
  def_ok (N := ["self"]) kRaw F sc_Cabinet___init__ fun cdv A outer s H E W hr tk =>
    sms_cons (sm_fld rfl i_Cabinet (by decide) (em_v (pv 0)) (em_newD))
    (sms_one (sm_fld rfl i_Cabinet (by decide) (em_v (pv 0)) (em_non)))
theorem sc_Cabinet_put : FnScope ["self", "name", "form"] ["self", "name", "form"] (defScope s_Cabinet_put) := ⟨rfl, rfl, rfl, by decide +kernel, rfl, by decide +kernel, by decide +kernel⟩
theorem ok_Cabinet_put (F : FunD K "put" "Cabinet.put" (defArgs s_Cabinet_put) (defBody s_Cabinet_put) (defScope s_Cabinet_put) [] [] f fd) (B : Blt mg) (c_MOST_KEPT : ∃ t, mg "MOST_KEPT" = some (.int 40 t)) (x_TooLong : ExcF K mg "TooLong") (x_Twice : ExcF K mg "Twice") (x_BadName : ExcF K mg "BadName") (i_Cabinet : InsF K "Cabinet" ["kept", "root"]) {f_hung f_is_name : Fm} (A_hung : FnAt P w K mg base n "hung" ["bough", "leaf", "kept"] f_hung) (A_is_name : FnAt P w K mg base n "is_name" ["text"] f_is_name) :
    FnOk P w K mg base (L2.CX P w) (n + 1) f fd ["self", "name", "form"] (spM K 3 (kRaw.f (runM 3 3 (m_Cabinet_put f_hung f_is_name)))) :=
  def_ok (N := ["self", "name", "form"]) kRaw F sc_Cabinet_put fun cdv A outer s H E W hr tk =>
    sms_cons (sm_if (tm_not (tm_tru (em_call A_is_name rfl hr tk rfl (am_cons (em_v (pv 1)) (am_nil))) rfl)) (sms_one (sm_raise x_BadName rfl rfl tk rfl)) (sms_nil))
    (sms_cons (sm_if (tm_cmp (o_in (hu195 hr)) (em_v (pv 1)) (em_fld rfl i_Cabinet (by decide) (em_v (pv 0))) rfl) (sms_one (sm_raise x_Twice rfl rfl tk rfl)) (sms_nil))
    (sms_cons (sm_if (tm_cmp o_ge (em_callB c_len rfl B.z_len (by decide +kernel) (am_cons (em_fld rfl i_Cabinet (by decide) (em_v (pv 0))) (am_nil))) (em_gint rfl c_MOST_KEPT) (nomark _)) (sms_one (sm_raise x_TooLong rfl rfl tk rfl)) (sms_nil))
    (sms_cons (sm_setIx (s_any (hu1 hr)) (em_v (pv 2)) (em_fld rfl i_Cabinet (by decide) (em_v (pv 0))) (em_v (pv 1)))
    (sms_one (sm_if (tm_cmp o_is (em_fld rfl i_Cabinet (by decide) (em_v (pv 0))) (em_non) (nomark _)) (sms_one (sm_fld rfl i_Cabinet (by decide) (em_v (pv 0)) (em_tup (am_cons (em_str) (am_cons (em_v (pv 1)) (am_nil)))))) (sms_one (sm_fld rfl i_Cabinet (by decide) (em_v (pv 0)) (em_call A_hung rfl hr tk rfl (am_cons (em_fld rfl i_Cabinet (by decide) (em_v (pv 0))) (am_cons (em_tup (am_cons (em_str) (am_cons (em_v (pv 1)) (am_nil)))) (am_cons (em_fld rfl i_Cabinet (by decide) (em_v (pv 0))) (am_nil))))))))))))
theorem sc_Cabinet_take : FnScope ["self", "name"] ["self", "name"] (defScope s_Cabinet_take) := ⟨rfl, rfl, rfl, by decide +kernel, rfl, by decide +kernel, by decide +kernel⟩
theorem ok_Cabinet_take (F : FunD K "take" "Cabinet.take" (defArgs s_Cabinet_take) (defBody s_Cabinet_take) (defScope s_Cabinet_take) [] [] f fd) (B : Blt mg) (x_NoForm : ExcF K mg "NoForm") (i_Cabinet : InsF K "Cabinet" ["kept", "root"]) {f_cut_off : Fm} (A_cut_off : FnAt P w K mg base n "cut_off" ["bough", "name", "kept"] f_cut_off) :
    FnOk P w K mg base (L2.CX P w) (n + 1) f fd ["self", "name"] (spM K 2 (kRaw.f (runM 2 2 (m_Cabinet_take f_cut_off)))) :=
  def_ok (N := ["self", "name"]) kRaw F sc_Cabinet_take fun cdv A outer s H E W hr tk =>
    sms_cons (sm_if (tm_cmp (o_nin (hu195 hr)) (em_v (pv 1)) (em_fld rfl i_Cabinet (by decide) (em_v (pv 0))) rfl) (sms_one (sm_raise x_NoForm rfl rfl tk rfl)) (sms_nil))
    (sms_cons (sm_fld rfl i_Cabinet (by decide) (em_v (pv 0)) (em_call A_cut_off rfl hr tk rfl (am_cons (em_fld rfl i_Cabinet (by decide) (em_v (pv 0))) (am_cons (em_v (pv 1)) (am_cons (em_fld rfl i_Cabinet (by decide) (em_v (pv 0))) (am_nil))))))
    (sms_one (sm_expr (em_bm rfl PySem.F.plainAttrs_dict PySem.F.slot_dict_pop PySem.F.type_dict_pop k_dpop (fun _ _ _ _ _ => ckDct_ty) (em_fld rfl i_Cabinet (by decide) (em_v (pv 0))) (am_cons (em_v (pv 1)) (am_nil))))))
theorem sc_Cabinet_form_of : FnScope ["self", "name"] ["self", "name"] (defScope s_Cabinet_form_of) := ⟨rfl, rfl, rfl, by decide +kernel, rfl, by decide +kernel, by decide +kernel⟩
theorem ok_Cabinet_form_of (F : FunD K "form_of" "Cabinet.form_of" (defArgs s_Cabinet_form_of) (defBody s_Cabinet_form_of) (defScope s_Cabinet_form_of) [] [] f fd) (B : Blt mg) (x_NoForm : ExcF K mg "NoForm") (i_Cabinet : InsF K "Cabinet" ["kept", "root"]) :
    FnOk P w K mg base (L2.CX P w) (n + 1) f fd ["self", "name"] (spM K 2 (kPure.f (runM 2 2 (m_Cabinet_form_of)))) :=
  def_ok (N := ["self", "name"]) kPure F sc_Cabinet_form_of fun cdv A outer s H E W hr tk =>
    sms_cons (sm_if (tm_cmp (o_nin (hu195 hr)) (em_v (pv 1)) (em_fld rfl i_Cabinet (by decide) (em_v (pv 0))) rfl) (sms_one (sm_raise x_NoForm rfl rfl tk rfl)) (sms_nil))
    (sms_one (sm_ret (em_ix (o_ix (by first | exact hu1 hr | (have hz := hu1 hr; exact hz))) (em_fld rfl i_Cabinet (by decide) (em_v (pv 0))) (em_v (pv 1)) (fun _ _ => rfl))))
theorem sc_Cabinet_names : FnScope ["self"] ["self"] (defScope s_Cabinet_names) := ⟨rfl, rfl, rfl, by decide +kernel, rfl, by decide +kernel, by decide +kernel⟩
theorem ok_Cabinet_names (F : FunD K "names" "Cabinet.names" (defArgs s_Cabinet_names) (defBody s_Cabinet_names) (defScope s_Cabinet_names) [] [] f fd) (B : Blt mg) (i_Cabinet : InsF K "Cabinet" ["kept", "root"]) :
    FnOk P w K mg base (L2.CX P w) (n + 1) f fd ["self"] (spM K 1 (kNew.f (runM 1 1 (m_Cabinet_names)))) :=
  def_ok (N := ["self"]) kNew F sc_Cabinet_names fun cdv A outer s H E W hr tk =>
    sms_one (sm_ret (em_callB (c_sortedS rfl) rfl B.z_sorted (by decide +kernel) (am_cons (em_fld rfl i_Cabinet (by decide) (em_v (pv 0))) (am_nil))))
theorem sc_Cabinet_rows_below_v4 : FnScope ["self", "bough", "form"] ["self", "bough", "form"] (defScope s_Cabinet_rows_below) := ⟨rfl, rfl, rfl, by decide +kernel, rfl, by decide +kernel, by decide +kernel⟩
theorem ok_Cabinet_rows_below_v4 (F : FunD K "rows_below" "Cabinet.rows_below" (defArgs s_Cabinet_rows_below) (defBody s_Cabinet_rows_below) (defScope s_Cabinet_rows_below) [] [] f fd) (B : Blt mg) (i_Cabinet : InsF K "Cabinet" ["kept", "root"]) {f_Cabinet_rows_within f_fitting f_names_on : Fm} (A_Cabinet_rows_within : MtAt P w K mg base n "Cabinet" "rows_within" ["self", "bough", "form", "question"] f_Cabinet_rows_within) (A_fitting : FnAt P w K mg base n "fitting" ["form", "tree"] f_fitting) (A_names_on : FnAt P w K mg base n "names_on" ["bough"] f_names_on) :
    FnOk P w K mg base (L2.CX P w) (n + 1) f fd ["self", "bough", "form"] (spM K 3 (kRaw.f (runM 3 3 (m_Cabinet_rows_below_v4 f_Cabinet_rows_within f_fitting f_names_on)))) :=
  def_ok (N := ["self", "bough", "form"]) kRaw F sc_Cabinet_rows_below_v4 fun cdv A outer s H E W hr tk =>
    sms_cons (sm_if (tm_cmp (o_eq (hu195 hr)) (em_ix (o_ix (by first | exact hu1 hr | (have hz := hu1 hr; exact hz))) (em_v (pv 1)) (em_int) (fun _ _ => rfl)) (em_str) (nomark _)) (sms_one (sm_ret (em_lst (am_cons (em_tup (am_cons (em_str) (am_cons (em_ix (o_ix (by first | exact hu1 hr | (have hz := hu1 hr; exact hz))) (em_v (pv 1)) (em_int) (fun _ _ => rfl)) (am_cons (em_cmp o_isn (em_call A_fitting rfl hr tk rfl (am_cons (em_v (pv 2)) (am_cons (em_ix (o_ix (by first | exact hu1 hr | (have hz := hu1 hr; exact hz))) (em_fld rfl i_Cabinet (by decide) (em_v (pv 0))) (em_ix (o_ix (by first | exact hu1 hr | (have hz := hu1 hr; exact hz))) (em_v (pv 1)) (em_int) (fun _ _ => rfl)) (fun _ _ => rfl)) (am_nil)))) (em_non) (nomark _)) (am_nil))))) (am_nil))))) (sms_nil))
    (sms_cons (sm_if (tm_cmp o_isn (em_call A_fitting rfl hr tk rfl (am_cons (em_v (pv 2)) (am_cons (em_ix (o_ix (by first | exact hu1 hr | (have hz := hu1 hr; exact hz))) (em_v (pv 1)) (em_int) (fun _ _ => rfl)) (am_nil)))) (em_non) (nomark _)) (sms_one (sm_ret (em_lst (am_cons (em_tup (am_cons (em_str) (am_cons (em_call A_names_on rfl hr tk rfl (am_cons (em_v (pv 1)) (am_nil))) (am_nil)))) (am_nil))))) (sms_nil))
    (sms_one (sm_ret (em_meth A_Cabinet_rows_within rfl hr tk (em_v (pv 0)) (am_cons (em_v (pv 1)) (am_cons (em_v (pv 2)) (am_cons (em_str) (am_nil))))))))
theorem sc_Cabinet_rows_within_v4 : FnScope ["self", "bough", "form", "question", "paper", "rows", "inner"] ["self", "bough", "form", "question"] (defScope s_Cabinet_rows_within) := ⟨rfl, rfl, rfl, by decide +kernel, rfl, by decide +kernel, by decide +kernel⟩
theorem ok_Cabinet_rows_within_v4 (F : FunD K "rows_within" "Cabinet.rows_within" (defArgs s_Cabinet_rows_within) (defBody s_Cabinet_rows_within) (defScope s_Cabinet_rows_within) [] [] f fd) (B : Blt mg) :
    FnOk P w K mg base (L2.CX P w) (n + 1) f fd ["self", "bough", "form", "question"] (spM K 4 (kPure.f (runM 4 7 (m_Cabinet_rows_within_v4)))) :=
  def_ok (N := ["self", "bough", "form", "question", "paper", "rows", "inner"]) kPure F sc_Cabinet_rows_within_v4 fun cdv A outer s H E W hr tk =>
    sms_bad
theorem sc_Cabinet_answer_v3 : FnScope ["self", "rows", "found", "row"] ["self", "rows"] (defScope s_Cabinet_answer) := ⟨rfl, rfl, rfl, by decide +kernel, rfl, by decide +kernel, by decide +kernel⟩
theorem ok_Cabinet_answer_v3 (F : FunD K "answer" "Cabinet.answer" (defArgs s_Cabinet_answer) (defBody s_Cabinet_answer) (defScope s_Cabinet_answer) [] [] f fd) (B : Blt mg) :
    FnOk P w K mg base (L2.CX P w) (n + 1) f fd ["self", "rows"] (spM K 2 (kRaw.f (runM 2 4 (m_Cabinet_answer_v3)))) :=
  def_ok (N := ["self", "rows", "found", "row"]) kRaw F sc_Cabinet_answer_v3 fun cdv A outer s H E W hr tk =>
    sms_cons (sm_set (i := 2) sc_Cabinet_answer_v3.nd rfl (by first | exact Or.inl rfl | exact Or.inr rfl) (em_lst (am_nil)))
    (sms_cons (sm_for (passes_of rfl) rfl (im_val rfl (em_v (pv 1))) (gm_name (i := 3) (pg_name (i := 3) sc_Cabinet_answer_v3.nd rfl (by first | exact Or.inl rfl | exact Or.inr rfl))) (sms_one (sm_if (tm_cmp (o_eq (hu195 hr)) (em_ix (o_ix (by first | exact hu1 hr | (have hz := hu1 hr; exact hz))) (em_v (pv 3)) (em_int) (fun _ _ => rfl)) (em_str) (nomark _)) (sms_one (sm_set (i := 2) sc_Cabinet_answer_v3.nd rfl (by first | exact Or.inl rfl | exact Or.inr rfl) (em_bin o_add (em_v (pv 2)) (em_ix (o_ix (by first | exact hu1 hr | (have hz := hu1 hr; exact hz))) (em_v (pv 3)) (em_int) (fun _ _ => rfl))))) (sms_one (sm_if (PW.pt (tm_and (tm_cmp (o_eq (hu195 hr)) (em_ix (o_ix (by first | exact hu1 hr | (have hz := hu1 hr; exact hz))) (em_v (pv 3)) (em_int) (fun _ _ => rfl)) (em_str) (nomark _)) (tm_and1 (tm_tru (em_ix (o_ix (by first | exact hu1 hr | (have hz := hu1 hr; exact hz))) (em_v (pv 3)) (em_int) (fun _ _ => rfl)) rfl)))) (sms_one (sm_expr (em_bm rfl PySem.F.plainAttrs_list PySem.F.slot_list_append PySem.F.type_list_append k_append (fun _ _ _ _ _ => ckList_ty) (em_v (pv 2)) (am_cons (em_ix (o_ix (by first | exact hu1 hr | (have hz := hu1 hr; exact hz))) (em_v (pv 3)) (em_int) (fun _ _ => rfl)) (am_nil))))) (sms_nil))))))
    (sms_one (sm_ret (em_tup (am_cons (em_callB (c_sortedS rfl) rfl B.z_sorted (by decide +kernel) (am_cons (em_v (pv 2)) (am_nil))) (am_cons (em_v (pv 1)) (am_nil)))))))
theorem sc_Cabinet_below_v4 : FnScope ["self", "form"] ["self", "form"] (defScope s_Cabinet_below) := ⟨rfl, rfl, rfl, by decide +kernel, rfl, by decide +kernel, by decide +kernel⟩
theorem ok_Cabinet_below_v4 (F : FunD K "below" "Cabinet.below" (defArgs s_Cabinet_below) (defBody s_Cabinet_below) (defScope s_Cabinet_below) [] [] f fd) (B : Blt mg) (i_Cabinet : InsF K "Cabinet" ["kept", "root"]) {f_Cabinet_answer f_Cabinet_rows_below : Fm} (A_Cabinet_answer : MtAt P w K mg base n "Cabinet" "answer" ["self", "rows"] f_Cabinet_answer) (A_Cabinet_rows_below : MtAt P w K mg base n "Cabinet" "rows_below" ["self", "bough", "form"] f_Cabinet_rows_below) :
    FnOk P w K mg base (L2.CX P w) (n + 1) f fd ["self", "form"] (spM K 2 (kRaw.f (runM 2 2 (m_Cabinet_below_v4 f_Cabinet_answer f_Cabinet_rows_below)))) :=
  def_ok (N := ["self", "form"]) kRaw F sc_Cabinet_below_v4 fun cdv A outer s H E W hr tk =>
    sms_cons (sm_if (tm_cmp o_is (em_fld rfl i_Cabinet (by decide) (em_v (pv 0))) (em_non) (nomark _)) (sms_one (sm_ret (em_tup (am_cons (em_lst (am_nil)) (am_cons (em_lst (am_nil)) (am_nil)))))) (sms_nil))
    (sms_one (sm_ret (em_meth A_Cabinet_answer rfl hr tk (em_v (pv 0)) (am_cons (em_meth A_Cabinet_rows_below rfl hr tk (em_v (pv 0)) (am_cons (em_fld rfl i_Cabinet (by decide) (em_v (pv 0))) (am_cons (em_v (pv 1)) (am_nil)))) (am_nil)))))
theorem sc_Cabinet_change_v6 : FnScope ["self", "name", "place", "part", "changed"] ["self", "name", "place", "part"] (defScope s_Cabinet_change) := ⟨rfl, rfl, rfl, by decide +kernel, rfl, by decide +kernel, by decide +kernel⟩
theorem ok_Cabinet_change_v6 (F : FunD K "change" "Cabinet.change" (defArgs s_Cabinet_change) (defBody s_Cabinet_change) (defScope s_Cabinet_change) [] [] f fd) (B : Blt mg) (x_TooLong : ExcF K mg "TooLong") {f_Cabinet_put f_Cabinet_take f_knots_of f_depth_of f_Cabinet_form_of f_put_at : Fm} (A_Cabinet_put : MtAt P w K mg base n "Cabinet" "put" ["self", "name", "form"] f_Cabinet_put) (A_Cabinet_take : MtAt P w K mg base n "Cabinet" "take" ["self", "name"] f_Cabinet_take) (A_knots_of : FnAt P w K mg base n "knots_of" ["tree"] f_knots_of) (A_depth_of : FnAt P w K mg base n "depth_of" ["tree"] f_depth_of) (A_Cabinet_form_of : MtAt P w K mg base n "Cabinet" "form_of" ["self", "name"] f_Cabinet_form_of) (A_put_at : FnAt P w K mg base n "put_at" ["tree", "place", "part"] f_put_at) :
    FnOk P w K mg base (L2.CX P w) (n + 1) f fd ["self", "name", "place", "part"] (spM K 4 (kRaw.f (runM 4 5 (m_Cabinet_change_v6 f_Cabinet_put f_Cabinet_take f_knots_of f_depth_of f_Cabinet_form_of f_put_at)))) :=
  def_ok (N := ["self", "name", "place", "part", "changed"]) kRaw F sc_Cabinet_change_v6 fun cdv A outer s H E W hr tk =>
    sms_cons (sm_set (i := 4) sc_Cabinet_change_v6.nd rfl (by first | exact Or.inl rfl | exact Or.inr rfl) (em_call A_put_at rfl hr tk rfl (am_cons (em_meth A_Cabinet_form_of rfl hr tk (em_v (pv 0)) (am_cons (em_v (pv 1)) (am_nil))) (am_cons (em_v (pv 2)) (am_cons (em_v (pv 3)) (am_nil))))))
    (sms_cons (sm_if (PW.pt (tm_or (tm_cmp o_gt (em_call A_knots_of rfl hr tk rfl (am_cons (em_v (pv 4)) (am_nil))) (em_int) (nomark _)) (tm_or1 (tm_cmp o_gt (em_call A_depth_of rfl hr tk rfl (am_cons (em_v (pv 4)) (am_nil))) (em_int) (nomark _))))) (sms_one (sm_raise x_TooLong rfl rfl tk rfl)) (sms_nil))
    (sms_cons (sm_expr (em_meth A_Cabinet_take rfl hr tk (em_v (pv 0)) (am_cons (em_v (pv 1)) (am_nil))))
    (sms_one (sm_expr (em_meth A_Cabinet_put rfl hr tk (em_v (pv 0)) (am_cons (em_v (pv 1)) (am_cons (em_v (pv 4)) (am_nil))))))))
theorem sc__law_mixed : FnScope ["cell"] ["cell"] (defScope s__law_mixed) := ⟨rfl, rfl, rfl, by decide +kernel, rfl, by decide +kernel, by decide +kernel⟩
theorem ok__law_mixed (F : FunD K "_law_mixed" "_law_mixed" (defArgs s__law_mixed) (defBody s__law_mixed) (defScope s__law_mixed) [] [] f fd) (B : Blt mg) :
    FnOk P w K mg base (L2.CX P w) (n + 1) f fd ["cell"] (spM K 1 (kPure.f (runM 1 1 (m__law_mixed)))) :=
  def_ok (N := ["cell"]) kPure F sc__law_mixed fun cdv A outer s H E W hr tk =>
    sms_one (sm_ret (em_bin o_mod (em_bin o_mulX (em_bin o_add (em_v (pv 0)) (em_int)) (em_int)) (em_int)))
theorem sc__law_of_knots : FnScope ["many", "leaf", "tree", "count"] ["many"] (defScope s__law_of_knots) := ⟨rfl, rfl, rfl, by decide +kernel, rfl, by decide +kernel, by decide +kernel⟩
theorem ok__law_of_knots (F : FunD K "_law_of_knots" "_law_of_knots" (defArgs s__law_of_knots) (defBody s__law_of_knots) (defScope s__law_of_knots) [] [] f fd) (B : Blt mg) :
    FnOk P w K mg base (L2.CX P w) (n + 1) f fd ["many"] (spM K 1 (kPure.f (runM 1 4 (m__law_of_knots)))) :=
  def_ok (N := ["many", "leaf", "tree", "count"]) kPure F sc__law_of_knots fun cdv A outer s H E W hr tk =>
    sms_cons (sm_set (i := 1) sc__law_of_knots.nd rfl (by first | exact Or.inl rfl | exact Or.inr rfl) (em_tup (am_cons (em_str) (am_cons (em_str) (am_cons (em_tup (am_nil)) (am_nil))))))
    (sms_cons (sm_set (i := 2) sc__law_of_knots.nd rfl (by first | exact Or.inl rfl | exact Or.inr rfl) (em_v (pv 1)))
    (sms_cons (sm_set (i := 3) sc__law_of_knots.nd rfl (by first | exact Or.inl rfl | exact Or.inr rfl) (em_int))
    (sms_cons (sm_while FUEL (passes_of rfl) (tm_cmp o_le (em_bin o_add (em_v (pv 3)) (em_int)) (em_v (pv 0)) (nomark _)) (sms_cons (sm_set (i := 2) sc__law_of_knots.nd rfl (by first | exact Or.inl rfl | exact Or.inr rfl) (em_tup (am_cons (em_str) (am_cons (em_str) (am_cons (em_bin o_add (em_tup (am_cons (em_v (pv 2)) (am_nil))) (em_bin o_mulX (em_tup (am_cons (em_v (pv 1)) (am_nil))) (em_int))) (am_nil))))))
    (sms_one (sm_set (i := 3) sc__law_of_knots.nd rfl (by first | exact Or.inl rfl | exact Or.inr rfl) (em_bin o_add (em_v (pv 3)) (em_int))))))
    (sms_cons (sm_if (tm_cmp o_lt (em_v (pv 3)) (em_v (pv 0)) (nomark _)) (sms_one (sm_set (i := 2) sc__law_of_knots.nd rfl (by first | exact Or.inl rfl | exact Or.inr rfl) (em_tup (am_cons (em_str) (am_cons (em_str) (am_cons (em_bin o_add (em_tup (am_cons (em_v (pv 2)) (am_nil))) (em_bin o_mulX (em_tup (am_cons (em_v (pv 1)) (am_nil))) (em_bin o_sub (em_bin o_sub (em_v (pv 0)) (em_v (pv 3))) (em_int)))) (am_nil))))))) (sms_nil))
    (sms_one (sm_ret (em_v (pv 2))))))))
theorem sc__law_chain_v3 : FnScope ["deep", "tree", "k"] ["deep"] (defScope s__law_chain) := ⟨rfl, rfl, rfl, by decide +kernel, rfl, by decide +kernel, by decide +kernel⟩
theorem ok__law_chain_v3 (F : FunD K "_law_chain" "_law_chain" (defArgs s__law_chain) (defBody s__law_chain) (defScope s__law_chain) [] [] f fd) (B : Blt mg) :
    FnOk P w K mg base (L2.CX P w) (n + 1) f fd ["deep"] (spM K 1 (kPure.f (runM 1 3 (m__law_chain_v3)))) :=
  def_ok (N := ["deep", "tree", "k"]) kPure F sc__law_chain_v3 fun cdv A outer s H E W hr tk =>
    sms_cons (sm_set (i := 1) sc__law_chain_v3.nd rfl (by first | exact Or.inl rfl | exact Or.inr rfl) (em_tup (am_cons (em_str) (am_cons (em_str) (am_cons (em_tup (am_nil)) (am_nil))))))
    (sms_cons (sm_for (passes_of rfl) rfl (im_rng1 (by rfl) B.z_range (am_cons (em_bin o_sub (em_v (pv 0)) (em_int)) (am_nil))) (gm_name (i := 2) (pg_name (i := 2) sc__law_chain_v3.nd rfl (by first | exact Or.inl rfl | exact Or.inr rfl))) (sms_one (sm_set (i := 1) sc__law_chain_v3.nd rfl (by first | exact Or.inl rfl | exact Or.inr rfl) (em_tup (am_cons (em_str) (am_cons (em_str) (am_cons (em_tup (am_cons (em_v (pv 1)) (am_nil))) (am_nil))))))))
    (sms_one (sm_ret (em_v (pv 1)))))
theorem sc__law_do : FnScope ["cabinet", "deed", "kind", "name", "place", "part"] ["cabinet", "deed"] (defScope s__law_do) := ⟨rfl, rfl, rfl, by decide +kernel, rfl, by decide +kernel, by decide +kernel⟩
theorem ok__law_do (F : FunD K "_law_do" "_law_do" (defArgs s__law_do) (defBody s__law_do) (defScope s__law_do) [] [] f fd) (B : Blt mg) {f_Cabinet_change f_Cabinet_form_of f_Cabinet_take f_Cabinet_put : Fm} (A_Cabinet_change : MtAt P w K mg base n "Cabinet" "change" ["self", "name", "place", "part"] f_Cabinet_change) (A_Cabinet_form_of : MtAt P w K mg base n "Cabinet" "form_of" ["self", "name"] f_Cabinet_form_of) (A_Cabinet_take : MtAt P w K mg base n "Cabinet" "take" ["self", "name"] f_Cabinet_take) (A_Cabinet_put : MtAt P w K mg base n "Cabinet" "put" ["self", "name", "form"] f_Cabinet_put) :
    FnOk P w K mg base (L2.CX P w) (n + 1) f fd ["cabinet", "deed"] (spM K 2 (kRaw.f (runM 2 6 (m__law_do f_Cabinet_change f_Cabinet_form_of f_Cabinet_take f_Cabinet_put)))) :=
  def_ok (N := ["cabinet", "deed", "kind", "name", "place", "part"]) kRaw F sc__law_do fun cdv A outer s H E W hr tk =>
    sms_cons (sm_asg (em_v (pv 1)) (gm_tup rfl (gms_cons (gm_name (i := 2) (pg_name (i := 2) sc__law_do.nd rfl (by first | exact Or.inl rfl | exact Or.inr rfl))) (gms_cons (gm_name (i := 3) (pg_name (i := 3) sc__law_do.nd rfl (by first | exact Or.inl rfl | exact Or.inr rfl))) (gms_cons (gm_name (i := 4) (pg_name (i := 4) sc__law_do.nd rfl (by first | exact Or.inl rfl | exact Or.inr rfl))) (gms_cons (gm_name (i := 5) (pg_name (i := 5) sc__law_do.nd rfl (by first | exact Or.inl rfl | exact Or.inr rfl))) (gms_nil))))) rfl))
    (sms_cons (sm_if (tm_cmp (o_eq (hu195 hr)) (em_v (pv 2)) (em_str) (nomark _)) (sms_one (sm_ret (em_meth A_Cabinet_put rfl hr tk (em_v (pv 0)) (am_cons (em_v (pv 3)) (am_cons (em_v (pv 5)) (am_nil)))))) (sms_nil))
    (sms_cons (sm_if (tm_cmp (o_eq (hu195 hr)) (em_v (pv 2)) (em_str) (nomark _)) (sms_one (sm_ret (em_meth A_Cabinet_take rfl hr tk (em_v (pv 0)) (am_cons (em_v (pv 3)) (am_nil))))) (sms_nil))
    (sms_cons (sm_if (tm_cmp (o_eq (hu195 hr)) (em_v (pv 2)) (em_str) (nomark _)) (sms_one (sm_ret (em_meth A_Cabinet_form_of rfl hr tk (em_v (pv 0)) (am_cons (em_v (pv 3)) (am_nil))))) (sms_nil))
    (sms_one (sm_ret (em_meth A_Cabinet_change rfl hr tk (em_v (pv 0)) (am_cons (em_v (pv 3)) (am_cons (em_v (pv 4)) (am_cons (em_v (pv 5)) (am_nil))))))))))
theorem sc__law_refused_v4 : FnScope ["cabinet", "deed", "kinds", "e"] ["cabinet", "deed"] (defScope s__law_refused) := ⟨rfl, rfl, rfl, by decide +kernel, rfl, by decide +kernel, by decide +kernel⟩
theorem ok__law_refused_v4 (F : FunD K "_law_refused" "_law_refused" (defArgs s__law_refused) (defBody s__law_refused) (defScope s__law_refused) [] [] f fd) (B : Blt mg) (g_FormError : mg "FormError" = some (.ref (He.ga K "FormError"))) (g_BadText : mg "BadText" = some (.ref (He.ga K "BadText"))) (g_BadPaper : mg "BadPaper" = some (.ref (He.ga K "BadPaper"))) (g_NoPlace : mg "NoPlace" = some (.ref (He.ga K "NoPlace"))) (g_NoForm : mg "NoForm" = some (.ref (He.ga K "NoForm"))) (g_TooLong : mg "TooLong" = some (.ref (He.ga K "TooLong"))) (g_Twice : mg "Twice" = some (.ref (He.ga K "Twice"))) (g_BadName : mg "BadName" = some (.ref (He.ga K "BadName"))) (e_FormError : ExmOk K (.ref (He.ga K "FormError")) [("FormError", true), ("NoPlace", true), ("BadText", true), ("TooLong", true), ("BadPaper", true), ("BadName", true), ("Twice", true), ("NoForm", true)]) (z_ValueError : mg "ValueError" = none) (t_ValueError : TabOk K (.type "ValueError") [("FormError", true), ("NoPlace", true), ("BadText", true), ("TooLong", true), ("BadPaper", true), ("BadName", true), ("Twice", true), ("NoForm", true)]) (t_BadText : TabOk K (.ref (He.ga K "BadText")) [("FormError", false), ("NoPlace", false), ("BadText", true), ("TooLong", false), ("BadPaper", false), ("BadName", false), ("Twice", false), ("NoForm", false)]) (t_BadPaper : TabOk K (.ref (He.ga K "BadPaper")) [("FormError", false), ("NoPlace", false), ("BadText", false), ("TooLong", false), ("BadPaper", true), ("BadName", false), ("Twice", false), ("NoForm", false)]) (t_NoPlace : TabOk K (.ref (He.ga K "NoPlace")) [("FormError", false), ("NoPlace", true), ("BadText", false), ("TooLong", false), ("BadPaper", false), ("BadName", false), ("Twice", false), ("NoForm", false)]) (t_NoForm : TabOk K (.ref (He.ga K "NoForm")) [("FormError", false), ("NoPlace", false), ("BadText", false), ("TooLong", false), ("BadPaper", false), ("BadName", false), ("Twice", false), ("NoForm", true)]) (t_TooLong : TabOk K (.ref (He.ga K "TooLong")) [("FormError", false), ("NoPlace", false), ("BadText", false), ("TooLong", true), ("BadPaper", false), ("BadName", false), ("Twice", false), ("NoForm", false)]) (t_Twice : TabOk K (.ref (He.ga K "Twice")) [("FormError", false), ("NoPlace", false), ("BadText", false), ("TooLong", false), ("BadPaper", false), ("BadName", false), ("Twice", true), ("NoForm", false)]) (t_BadName : TabOk K (.ref (He.ga K "BadName")) [("FormError", false), ("NoPlace", false), ("BadText", false), ("TooLong", false), ("BadPaper", false), ("BadName", true), ("Twice", false), ("NoForm", false)]) {f__law_do : Fm} (A__law_do : FnAt P w K mg base n "_law_do" ["cabinet", "deed"] f__law_do) :
    FnOk P w K mg base (L2.CX P w) (n + 1) f fd ["cabinet", "deed"] (spM K 2 (kRaw.f (runM 2 4 (m__law_refused_v4 f__law_do)))) :=
  def_ok (N := ["cabinet", "deed", "kinds", "e"]) kRaw F sc__law_refused_v4 fun cdv A outer s H E W hr tk =>
    sms_cons (sm_set (i := 2) sc__law_refused_v4.nd rfl (by first | exact Or.inl rfl | exact Or.inr rfl) (em_non))
    (sms_cons (sm_try (oi := (some 3)) rfl rfl rfl sc__law_refused_v4.nd ⟨rfl, rfl⟩ ⟨rfl, by decide, .inl g_FormError⟩ tk rfl e_FormError (fun W pn xe tk1 hp1 => sms_one (sm_expr (em_call A__law_do rfl hr tk1 rfl (am_cons (em_v (pv 0)) (am_cons (em_v (pv 1)) (am_nil)))))) (fun a pn => sms_cons (sm_set (i := 2) sc__law_refused_v4.nd rfl (by first | exact Or.inl rfl | exact Or.inr rfl) (em_lst (am_cons (em_isx rfl rfl B.z_isinstance rfl g_BadName t_BadName (em_v (pv 3))) (am_cons (em_isx rfl rfl B.z_isinstance rfl g_Twice t_Twice (em_v (pv 3))) (am_cons (em_isx rfl rfl B.z_isinstance rfl g_TooLong t_TooLong (em_v (pv 3))) (am_cons (em_isx rfl rfl B.z_isinstance rfl g_NoForm t_NoForm (em_v (pv 3))) (am_nil)))))))
    (sms_cons (sm_set (i := 2) sc__law_refused_v4.nd rfl (by first | exact Or.inl rfl | exact Or.inr rfl) (em_bin o_add (em_v (pv 2)) (em_lst (am_cons (em_isx rfl rfl B.z_isinstance rfl g_NoPlace t_NoPlace (em_v (pv 3))) (am_cons (em_isx rfl rfl B.z_isinstance rfl g_BadPaper t_BadPaper (em_v (pv 3))) (am_cons (em_isx rfl rfl B.z_isinstance rfl g_BadText t_BadText (em_v (pv 3))) (am_nil)))))))
    (sms_one (sm_set (i := 2) sc__law_refused_v4.nd rfl (by first | exact Or.inl rfl | exact Or.inr rfl) (em_bin o_add (em_v (pv 2)) (em_lst (am_cons (em_isxB (T := "ValueError") rfl rfl B.z_isinstance rfl z_ValueError (by decide +kernel) t_ValueError (em_v (pv 3))) (am_nil)))))))))
    (sms_one (sm_ret (em_v (pv 2)))))
theorem sc__law_case : FnScope ["kind", "number", "leaf", "some", "bad"] ["kind", "number"] (defScope s__law_case) := ⟨rfl, rfl, rfl, by decide +kernel, rfl, by decide +kernel, by decide +kernel⟩
theorem ok__law_case (F : FunD K "_law_case" "_law_case" (defArgs s__law_case) (defBody s__law_case) (defScope s__law_case) [] [] f fd) (B : Blt mg) {f__law_chain f__law_of_knots : Fm} (A__law_chain : FnAt P w K mg base n "_law_chain" ["deep"] f__law_chain) (A__law_of_knots : FnAt P w K mg base n "_law_of_knots" ["many"] f__law_of_knots) :
    FnOk P w K mg base (L2.CX P w) (n + 1) f fd ["kind", "number"] (spM K 2 (kRaw.f (runM 2 5 (m__law_case f__law_chain f__law_of_knots)))) :=
  def_ok (N := ["kind", "number", "leaf", "some", "bad"]) kRaw F sc__law_case fun cdv A outer s H E W hr tk =>
    sms_cons (sm_set (i := 2) sc__law_case.nd rfl (by first | exact Or.inl rfl | exact Or.inr rfl) (em_tup (am_cons (em_str) (am_cons (em_str) (am_cons (em_tup (am_nil)) (am_nil))))))
    (sms_cons (sm_set (i := 3) sc__law_case.nd rfl (by first | exact Or.inl rfl | exact Or.inr rfl) (em_bin o_add (em_str) (em_callTy c_str rfl B.z_str (by decide +kernel) (am_cons (em_bin o_mod (em_v (pv 1)) (em_int)) (am_nil)))))
    (sms_cons (sm_if (tm_cmp (o_eq (hu195 hr)) (em_v (pv 0)) (em_int) (nomark _)) (sms_one (sm_ret (em_tup (am_cons (em_int) (am_cons (em_lst (am_nil)) (am_cons (em_tup (am_cons (em_str) (am_cons (em_ix (o_ix (by first | exact hu1 hr | (have hz := hu1 hr; exact hz))) (em_lst (am_cons (em_str) (am_cons (em_str) (am_cons (em_str) (am_cons (em_str) (am_nil)))))) (em_bin o_mod (em_v (pv 1)) (em_int)) (fun _ _ => rfl)) (am_cons (em_tup (am_nil)) (am_cons (em_v (pv 2)) (am_nil)))))) (am_nil))))))) (sms_nil))
    (sms_cons (sm_if (tm_cmp (o_eq (hu195 hr)) (em_v (pv 0)) (em_int) (nomark _)) (sms_one (sm_ret (em_tup (am_cons (em_int) (am_cons (em_lst (am_nil)) (am_cons (em_tup (am_cons (em_str) (am_cons (em_v (pv 3)) (am_cons (em_tup (am_nil)) (am_cons (em_v (pv 2)) (am_nil)))))) (am_nil))))))) (sms_nil))
    (sms_cons (sm_if (tm_cmp (o_eq (hu195 hr)) (em_v (pv 0)) (em_int) (nomark _)) (sms_one (sm_ret (em_tup (am_cons (em_int) (am_cons (em_lst (am_cons (em_tup (am_cons (em_str) (am_cons (em_v (pv 3)) (am_cons (em_tup (am_nil)) (am_cons (em_v (pv 2)) (am_nil)))))) (am_nil))) (am_cons (em_tup (am_cons (em_str) (am_cons (em_str) (am_cons (em_tup (am_nil)) (am_cons (em_v (pv 2)) (am_nil)))))) (am_nil))))))) (sms_nil))
    (sms_cons (sm_if (tm_cmp (o_eq (hu195 hr)) (em_v (pv 0)) (em_int) (nomark _)) (sms_one (sm_ret (em_tup (am_cons (em_int) (am_cons (em_lst (am_cons (em_tup (am_cons (em_str) (am_cons (em_str) (am_cons (em_tup (am_nil)) (am_cons (em_v (pv 2)) (am_nil)))))) (am_nil))) (am_cons (em_tup (am_cons (em_str) (am_cons (em_str) (am_cons (em_tup (am_nil)) (am_cons (em_v (pv 2)) (am_nil)))))) (am_nil))))))) (sms_nil))
    (sms_cons (sm_if (tm_cmp (o_eq (hu195 hr)) (em_v (pv 0)) (em_int) (nomark _)) (sms_one (sm_ret (em_tup (am_cons (em_int) (am_cons (em_lst (am_cons (em_tup (am_cons (em_str) (am_cons (em_str) (am_cons (em_tup (am_nil)) (am_cons (em_v (pv 2)) (am_nil)))))) (am_nil))) (am_cons (em_tup (am_cons (em_str) (am_cons (em_str) (am_cons (em_tup (am_nil)) (am_cons (em_v (pv 2)) (am_nil)))))) (am_nil))))))) (sms_nil))
    (sms_cons (sm_if (tm_cmp (o_eq (hu195 hr)) (em_v (pv 0)) (em_int) (nomark _)) (sms_one (sm_ret (em_tup (am_cons (em_int) (am_cons (em_lst (am_cons (em_tup (am_cons (em_str) (am_cons (em_str) (am_cons (em_tup (am_nil)) (am_cons (em_call A__law_chain rfl hr tk rfl (am_cons (em_int) (am_nil))) (am_nil)))))) (am_nil))) (am_cons (em_tup (am_cons (em_str) (am_cons (em_str) (am_cons (em_ix (o_ix (by first | exact hu1 hr | (have hz := hu1 hr; exact hz))) (em_lst (am_cons (em_tup (am_nil)) (am_cons (em_tup (am_cons (em_int) (am_nil))) (am_cons (em_tup (am_cons (em_int) (am_cons (em_int) (am_nil)))) (am_nil))))) (em_bin o_mod (em_v (pv 1)) (em_int)) (fun _ _ => rfl)) (am_cons (em_v (pv 2)) (am_nil)))))) (am_nil))))))) (sms_nil))
    (sms_cons (sm_if (tm_cmp (o_eq (hu195 hr)) (em_v (pv 0)) (em_int) (nomark _)) (sms_cons (sm_set (i := 4) sc__law_case.nd rfl (by first | exact Or.inl rfl | exact Or.inr rfl) (em_ix (o_ix (by first | exact hu1 hr | (have hz := hu1 hr; exact hz))) (em_lst (am_cons (em_tup (am_cons (em_int) (am_nil))) (am_cons (em_tup (am_cons (em_neg (em_int)) (am_nil))) (am_cons (em_tup (am_cons (em_int) (am_cons (em_int) (am_cons (em_int) (am_nil))))) (am_cons (em_tup (am_cons (em_int) (am_cons (em_int) (am_nil)))) (am_cons (em_tup (am_cons (em_int) (am_cons (em_bin o_add (em_int) (em_bin o_mod (em_v (pv 1)) (em_bin o_pow (em_int) (em_int)))) (am_nil)))) (am_nil))))))) (em_bin o_mod (em_v (pv 1)) (em_int)) (fun _ _ => rfl)))
    (sms_one (sm_ret (em_tup (am_cons (em_int) (am_cons (em_lst (am_nil)) (am_cons (em_tup (am_cons (em_str) (am_cons (em_str) (am_cons (em_v (pv 4)) (am_cons (em_call A__law_of_knots rfl hr tk rfl (am_cons (em_int) (am_nil))) (am_nil)))))) (am_nil)))))))) (sms_nil))
    (sms_cons (sm_if (tm_cmp (o_eq (hu195 hr)) (em_v (pv 0)) (em_int) (nomark _)) (sms_one (sm_ret (em_tup (am_cons (em_int) (am_cons (em_lst (am_cons (em_tup (am_cons (em_str) (am_cons (em_str) (am_cons (em_tup (am_cons (em_int) (am_cons (em_int) (am_nil)))) (am_cons (em_call A__law_chain rfl hr tk rfl (am_cons (em_int) (am_nil))) (am_nil)))))) (am_nil))) (am_cons (em_tup (am_cons (em_str) (am_cons (em_str) (am_cons (em_tup (am_cons (em_int) (am_cons (em_int) (am_cons (em_int) (am_nil))))) (am_cons (em_v (pv 2)) (am_nil)))))) (am_nil))))))) (sms_nil))
    (sms_cons (sm_if (tm_cmp (o_eq (hu195 hr)) (em_v (pv 0)) (em_int) (nomark _)) (sms_one (sm_ret (em_tup (am_cons (em_int) (am_cons (em_lst (am_cons (em_tup (am_cons (em_str) (am_cons (em_str) (am_cons (em_tup (am_cons (em_int) (am_cons (em_int) (am_nil)))) (am_cons (em_v (pv 2)) (am_nil)))))) (am_nil))) (am_cons (em_tup (am_cons (em_str) (am_cons (em_str) (am_cons (em_tup (am_cons (em_int) (am_cons (em_int) (am_nil)))) (am_cons (em_call A__law_of_knots rfl hr tk rfl (am_cons (em_int) (am_nil))) (am_nil)))))) (am_nil))))))) (sms_nil))
    (sms_one (sm_ret (em_tup (am_cons (em_int) (am_cons (em_lst (am_cons (em_tup (am_cons (em_str) (am_cons (em_str) (am_cons (em_tup (am_cons (em_int) (am_cons (em_int) (am_nil)))) (am_cons (em_v (pv 2)) (am_nil)))))) (am_nil))) (am_cons (em_tup (am_cons (em_str) (am_cons (em_str) (am_cons (em_tup (am_cons (em_int) (am_cons (em_int) (am_nil)))) (am_cons (em_call A__law_chain rfl hr tk rfl (am_cons (em_int) (am_nil))) (am_nil)))))) (am_nil)))))))))))))))))
theorem sc__law_opened : FnScope ["kind", "cabinet", "k"] ["kind"] (defScope s__law_opened) := ⟨rfl, rfl, rfl, by decide +kernel, rfl, by decide +kernel, by decide +kernel⟩
theorem ok__law_opened (F : FunD K "_law_opened" "_law_opened" (defArgs s__law_opened) (defBody s__law_opened) (defScope s__law_opened) [] [] f fd) (B : Blt mg) {f_Cabinet_put f__law_chain f_Cabinet___init__ : Fm} (A_Cabinet_put : MtAt P w K mg base n "Cabinet" "put" ["self", "name", "form"] f_Cabinet_put) (A__law_chain : FnAt P w K mg base n "_law_chain" ["deep"] f__law_chain) (A_Cabinet___init__ : MkN P w K mg base n "Cabinet" ["self"] f_Cabinet___init__) :
    FnOk P w K mg base (L2.CX P w) (n + 1) f fd ["kind"] (spM K 1 (kRaw.f (runM 1 3 (m__law_opened f_Cabinet_put f__law_chain f_Cabinet___init__)))) :=
  def_ok (N := ["kind", "cabinet", "k"]) kRaw F sc__law_opened fun cdv A outer s H E W hr tk =>
    sms_cons (sm_set (i := 1) sc__law_opened.nd rfl (by first | exact Or.inl rfl | exact Or.inr rfl) (em_newN0 A_Cabinet___init__ rfl hr rfl))
    (sms_cons (sm_if (tm_cmp o_lt (em_v (pv 0)) (em_int) (nomark _)) (sms_one (sm_for (passes_of rfl) rfl (im_rng1 (by rfl) B.z_range (am_cons (em_int) (am_nil))) (gm_name (i := 2) (pg_name (i := 2) sc__law_opened.nd rfl (by first | exact Or.inl rfl | exact Or.inr rfl))) (sms_one (sm_expr (em_meth A_Cabinet_put rfl hr tk (em_v (pv 1)) (am_cons (em_bin o_add (em_str) (em_callTy c_str rfl B.z_str (by decide +kernel) (am_cons (em_v (pv 2)) (am_nil)))) (am_cons (em_tup (am_cons (em_str) (am_cons (em_str) (am_cons (em_tup (am_nil)) (am_nil))))) (am_nil)))))))) (sms_nil))
    (sms_cons (sm_if (tm_cmp o_gt (em_v (pv 0)) (em_int) (nomark _)) (sms_one (sm_expr (em_meth A_Cabinet_put rfl hr tk (em_v (pv 1)) (am_cons (em_str) (am_cons (em_call A__law_chain rfl hr tk rfl (am_cons (em_int) (am_nil))) (am_nil)))))) (sms_nil))
    (sms_one (sm_ret (em_v (pv 1))))))
theorem sc__law_less : FnScope ["kind", "deed"] ["kind", "deed"] (defScope s__law_less) := ⟨rfl, rfl, rfl, by decide +kernel, rfl, by decide +kernel, by decide +kernel⟩
theorem ok__law_less (F : FunD K "_law_less" "_law_less" (defArgs s__law_less) (defBody s__law_less) (defScope s__law_less) [] [] f fd) (B : Blt mg) {f__law_chain f__law_of_knots : Fm} (A__law_chain : FnAt P w K mg base n "_law_chain" ["deep"] f__law_chain) (A__law_of_knots : FnAt P w K mg base n "_law_of_knots" ["many"] f__law_of_knots) :
    FnOk P w K mg base (L2.CX P w) (n + 1) f fd ["kind", "deed"] (spM K 2 (kPure.f (runM 2 2 (m__law_less f__law_chain f__law_of_knots)))) :=
  def_ok (N := ["kind", "deed"]) kPure F sc__law_less fun cdv A outer s H E W hr tk =>
    sms_cons (sm_if (tm_cmp (o_eq (hu195 hr)) (em_v (pv 0)) (em_int) (nomark _)) (sms_one (sm_ret (em_tup (am_cons (em_str) (am_cons (em_str) (am_cons (em_tup (am_cons (em_int) (am_cons (em_int) (am_nil)))) (am_cons (em_call A__law_of_knots rfl hr tk rfl (am_cons (em_int) (am_nil))) (am_nil)))))))) (sms_nil))
    (sms_cons (sm_if (tm_cmp (o_eq (hu195 hr)) (em_v (pv 0)) (em_int) (nomark _)) (sms_one (sm_ret (em_tup (am_cons (em_str) (am_cons (em_str) (am_cons (em_tup (am_cons (em_int) (am_cons (em_int) (am_nil)))) (am_cons (em_call A__law_chain rfl hr tk rfl (am_cons (em_int) (am_nil))) (am_nil)))))))) (sms_nil))
    (sms_one (sm_ret (em_v (pv 1)))))
theorem sc_law_k61 : FnScope ["script", "cell", "number", "kind", "due", "good", "deed", "cabinet", "ahead", "k", "step", "told"] ["script"] (defScope s_law) := ⟨rfl, rfl, rfl, by decide +kernel, rfl, by decide +kernel, by decide +kernel⟩
theorem ok_law_k61 (F : FunD K "law" "law" (defArgs s_law) (defBody s_law) (defScope s_law) [] [] f fd) (B : Blt mg) {f__law_less f__law_do f_Cabinet_below f__law_refused f_Cabinet_names f__law_opened f__law_case f__law_mixed : Fm} (A__law_less : FnAt P w K mg base n "_law_less" ["kind", "deed"] f__law_less) (A__law_do : FnAt P w K mg base n "_law_do" ["cabinet", "deed"] f__law_do) (A_Cabinet_below : MtAt P w K mg base n "Cabinet" "below" ["self", "form"] f_Cabinet_below) (A__law_refused : FnAt P w K mg base n "_law_refused" ["cabinet", "deed"] f__law_refused) (A_Cabinet_names : MtAt P w K mg base n "Cabinet" "names" ["self"] f_Cabinet_names) (A__law_opened : FnAt P w K mg base n "_law_opened" ["kind"] f__law_opened) (A__law_case : FnAt P w K mg base n "_law_case" ["kind", "number"] f__law_case) (A__law_mixed : FnAt P w K mg base n "_law_mixed" ["cell"] f__law_mixed) :
    FnOk P w K mg base (L2.CX P w) (n + 1) f fd ["script"] (spM K 1 (kPure.f (runM 1 12 (m_law_k61 f__law_less f__law_do f_Cabinet_below f__law_refused f_Cabinet_names f__law_opened f__law_case f__law_mixed)))) :=
  def_ok (N := ["script", "cell", "number", "kind", "due", "good", "deed", "cabinet", "ahead", "k", "step", "told"]) kPure F sc_law_k61 fun cdv A outer s H E W hr tk =>
    sms_cons (sm_for (passes_of rfl) rfl (im_val rfl (em_slice rfl (em_bin o_add (em_v (pv 0)) (em_lst (am_cons (em_int) (am_nil)))) (pm_no) (pm_some (em_int)))) (gm_name (i := 1) (pg_name (i := 1) sc_law_k61.nd rfl (by first | exact Or.inl rfl | exact Or.inr rfl))) (sms_cons (sm_set (i := 2) sc_law_k61.nd rfl (by first | exact Or.inl rfl | exact Or.inr rfl) (em_call A__law_mixed rfl hr tk rfl (am_cons (em_v (pv 1)) (am_nil))))
    (sms_cons (sm_set (i := 3) sc_law_k61.nd rfl (by first | exact Or.inl rfl | exact Or.inr rfl) (em_bin o_mod (em_v (pv 2)) (em_int)))
    (sms_cons (sm_asg (em_call A__law_case rfl hr tk rfl (am_cons (em_v (pv 3)) (am_cons (em_bin o_fdiv (em_v (pv 2)) (em_int)) (am_nil)))) (gm_tup rfl (gms_cons (gm_name (i := 4) (pg_name (i := 4) sc_law_k61.nd rfl (by first | exact Or.inl rfl | exact Or.inr rfl))) (gms_cons (gm_name (i := 5) (pg_name (i := 5) sc_law_k61.nd rfl (by first | exact Or.inl rfl | exact Or.inr rfl))) (gms_cons (gm_name (i := 6) (pg_name (i := 6) sc_law_k61.nd rfl (by first | exact Or.inl rfl | exact Or.inr rfl))) (gms_nil)))) rfl))
    (sms_cons (sm_set (i := 7) sc_law_k61.nd rfl (by first | exact Or.inl rfl | exact Or.inr rfl) (em_call A__law_opened rfl hr tk rfl (am_cons (em_v (pv 3)) (am_nil))))
    (sms_cons (sm_set (i := 8) sc_law_k61.nd rfl (by first | exact Or.inl rfl | exact Or.inr rfl) (em_meth0 A_Cabinet_names rfl hr tk (em_v (pv 7))))
    (sms_cons (sm_if (PW.pt (tm_or (tm_cmp (o_ne (hu195 hr)) (em_call A__law_refused rfl hr tk rfl (am_cons (em_v (pv 7)) (am_cons (em_v (pv 6)) (am_nil)))) (em_bin o_add (em_lc (own := [("k", 9)]) rfl sc_law_k61.nd (im_rng1 (by rfl) B.z_range (am_cons (em_int) (am_nil))) (blkOk_by (own := [("k", 9)]) (N := ["script", "cell", "number", "kind", "due", "good", "deed", "cabinet", "ahead", "k", "step", "told"]) (sc := defScope s_law) (by decide +kernel)) (ct_name _ 9) (fun _ _ _ _ _ => pg_name (i := 9) sc_law_k61.nd rfl (Or.inl rfl)) (fun _ _ _ _ _ => tms_nil) (fun _ _ _ _ _ => em_cmp (o_eq (hu195 hr)) (em_v (pv 9)) (em_v (pv 4)) (nomark _))) (em_lst (am_cons (em_bl) (am_nil)))) (nomark _)) (tm_or1 (tm_cmp (o_ne (hu195 hr)) (em_meth0 A_Cabinet_names rfl hr tk (em_v (pv 7))) (em_v (pv 8)) (nomark _))))) (sms_one (sm_ret (em_bl))) (sms_nil))
    (sms_cons (sm_if (tm_cmp (o_ne (hu195 hr)) (em_ix (o_ix (by first | exact hu1 hr | (have hz := hu1 hr; exact hz))) (em_meth A_Cabinet_below rfl hr tk (em_v (pv 7)) (am_cons (em_tup (am_cons (em_str) (am_cons (em_bin o_add (em_int) (em_bin o_mod (em_v (pv 2)) (em_bin o_pow (em_int) (em_int)))) (am_nil)))) (am_nil))) (em_int) (fun _ _ => rfl)) (em_v (pv 8)) (nomark _)) (sms_one (sm_ret (em_bl))) (sms_nil))
    (sms_cons (sm_for (passes_of rfl) rfl (im_val rfl (em_v (pv 5))) (gm_name (i := 10) (pg_name (i := 10) sc_law_k61.nd rfl (by first | exact Or.inl rfl | exact Or.inr rfl))) (sms_one (sm_expr (em_call A__law_do rfl hr tk rfl (am_cons (em_v (pv 7)) (am_cons (em_v (pv 10)) (am_nil)))))))
    (sms_one (sm_if (tm_cmp (o_ne (hu195 hr)) (em_v (pv 5)) (em_lst (am_nil)) (nomark _)) (sms_cons (sm_set (i := 11) sc_law_k61.nd rfl (by first | exact Or.inl rfl | exact Or.inr rfl) (em_call A__law_do rfl hr tk rfl (am_cons (em_v (pv 7)) (am_cons (em_call A__law_less rfl hr tk rfl (am_cons (em_v (pv 3)) (am_cons (em_v (pv 6)) (am_nil)))) (am_nil)))))
    (sms_one (sm_if (PW.pt (tm_or (PW.pt (tm_and (tm_cmp (o_ne (hu195 hr)) (em_v (pv 3)) (em_int) (nomark _)) (tm_and1 (tm_cmp o_isn (em_v (pv 11)) (em_non) (nomark _))))) (tm_or1 (PW.pt (tm_and (tm_cmp (o_eq (hu195 hr)) (em_v (pv 3)) (em_int) (nomark _)) (tm_and1 (tm_cmp (o_ne (hu195 hr)) (em_v (pv 11)) (em_tup (am_cons (em_str) (am_cons (em_str) (am_cons (em_tup (am_nil)) (am_nil))))) (nomark _)))))))) (sms_one (sm_ret (em_bl))) (sms_nil)))) (sms_nil))))))))))))
    (sms_one (sm_ret (em_bl)))
end
section
variable {P : Program} {w : World} {K : PySem.W.Frag} {mg : Str → Option Value} {h : Heap} (X : K.In h) (G : h.Ns mainGlobals mg) (c : SaysX fa fn K)
include X G c
theorem blt : Blt mg := ⟨He.free_ok X G (c.fact 54 (f := .free "len") rfl), He.free_ok X G (c.fact 55 (f := .free "range") rfl), He.free_ok X G (c.fact 56 (f := .free "int") rfl), He.free_ok X G (c.fact 57 (f := .free "str") rfl), He.free_ok X G (c.fact 58 (f := .free "sum") rfl), He.free_ok X G (c.fact 59 (f := .free "max") rfl), He.free_ok X G (c.fact 60 (f := .free "min") rfl), He.free_ok X G (c.fact 61 (f := .free "enumerate") rfl), He.free_ok X G (c.fact 62 (f := .free "isinstance") rfl), He.free_ok X G (c.fact 63 (f := .free "tuple") rfl), He.free_ok X G (c.fact 64 (f := .free "list") rfl), He.free_ok X G (c.fact 65 (f := .free "dict") rfl), He.free_ok X G (c.fact 66 (f := .free "sorted") rfl), He.free_ok X G (c.fact 67 (f := .free "abs") rfl), He.free_ok X G (c.fact 68 (f := .free "all") rfl), He.free_ok X G (c.fact 69 (f := .free "set") rfl), He.free_ok X G (c.fact 70 (f := .free "bool") rfl)⟩
theorem c_SMALL : ∃ t, mg "SMALL" = some (.str "abcdefghijklmnopqrstuvwxyz" t) := He.str_ok X G (c.fact 72 rfl)
theorem c_FIGURES : ∃ t, mg "FIGURES" = some (.str "0123456789" t) := He.str_ok X G (c.fact 73 rfl)
theorem c_LONGEST : ∃ t, mg "LONGEST" = some (.int (12) t) := He.int_ok X G (c.fact 74 rfl)
theorem c_MOST_BOUGHS : ∃ t, mg "MOST_BOUGHS" = some (.int (4) t) := He.int_ok X G (c.fact 75 rfl)
theorem c_MOST_KEPT : ∃ t, mg "MOST_KEPT" = some (.int (40) t) := He.int_ok X G (c.fact 78 rfl)
theorem x_NoPlace : ExcF K mg "NoPlace" := let ⟨q, k, b, t⟩ := He.exc_ok (c.fact 91 (f := .exc "NoPlace") rfl); ⟨q, He.glo_ok X G (c.fact 45 (f := .glo "NoPlace") rfl), k, b, t⟩
theorem x_TooLong : ExcF K mg "TooLong" := let ⟨q, k, b, t⟩ := He.exc_ok (c.fact 115 (f := .exc "TooLong") rfl); ⟨q, He.glo_ok X G (c.fact 47 (f := .glo "TooLong") rfl), k, b, t⟩
theorem x_BadName : ExcF K mg "BadName" := let ⟨q, k, b, t⟩ := He.exc_ok (c.fact 139 (f := .exc "BadName") rfl); ⟨q, He.glo_ok X G (c.fact 49 (f := .glo "BadName") rfl), k, b, t⟩
theorem x_Twice : ExcF K mg "Twice" := let ⟨q, k, b, t⟩ := He.exc_ok (c.fact 151 (f := .exc "Twice") rfl); ⟨q, He.glo_ok X G (c.fact 50 (f := .glo "Twice") rfl), k, b, t⟩
theorem x_NoForm : ExcF K mg "NoForm" := let ⟨q, k, b, t⟩ := He.exc_ok (c.fact 163 (f := .exc "NoForm") rfl); ⟨q, He.glo_ok X G (c.fact 51 (f := .glo "NoForm") rfl), k, b, t⟩
theorem g_TooLong : mg "TooLong" = some (.ref (He.ga K "TooLong")) := He.glo_ok X G (c.fact 47 (f := .glo "TooLong") rfl)
theorem g_FormError : mg "FormError" = some (.ref (He.ga K "FormError")) := He.glo_ok X G (c.fact 44 (f := .glo "FormError") rfl)
theorem g_BadName : mg "BadName" = some (.ref (He.ga K "BadName")) := He.glo_ok X G (c.fact 49 (f := .glo "BadName") rfl)
theorem g_Twice : mg "Twice" = some (.ref (He.ga K "Twice")) := He.glo_ok X G (c.fact 50 (f := .glo "Twice") rfl)
theorem g_NoForm : mg "NoForm" = some (.ref (He.ga K "NoForm")) := He.glo_ok X G (c.fact 51 (f := .glo "NoForm") rfl)
theorem g_NoPlace : mg "NoPlace" = some (.ref (He.ga K "NoPlace")) := He.glo_ok X G (c.fact 45 (f := .glo "NoPlace") rfl)
theorem g_BadPaper : mg "BadPaper" = some (.ref (He.ga K "BadPaper")) := He.glo_ok X G (c.fact 48 (f := .glo "BadPaper") rfl)
theorem g_BadText : mg "BadText" = some (.ref (He.ga K "BadText")) := He.glo_ok X G (c.fact 46 (f := .glo "BadText") rfl)
theorem e_FormError : ExmOk K (.ref (He.ga K "FormError")) [("FormError", true), ("NoPlace", true), ("BadText", true), ("TooLong", true), ("BadPaper", true), ("BadName", true), ("Twice", true), ("NoForm", true)] := fun c0 b0 h0 => by
  simp only [List.mem_cons, Prod.mk.injEq, List.not_mem_nil, or_false] at h0
  rcases h0 with ⟨rfl, rfl⟩ | ⟨rfl, rfl⟩ | ⟨rfl, rfl⟩ | ⟨rfl, rfl⟩ | ⟨rfl, rfl⟩ | ⟨rfl, rfl⟩ | ⟨rfl, rfl⟩ | ⟨rfl, rfl⟩
  · exact He.exm_ok (c.fact 82 rfl)
  · exact He.exm_ok (c.fact 94 rfl)
  · exact He.exm_ok (c.fact 106 rfl)
  · exact He.exm_ok (c.fact 118 rfl)
  · exact He.exm_ok (c.fact 130 rfl)
  · exact He.exm_ok (c.fact 142 rfl)
  · exact He.exm_ok (c.fact 154 rfl)
  · exact He.exm_ok (c.fact 166 rfl)
theorem t_BadName : TabOk K (.ref (He.ga K "BadName")) [("FormError", false), ("NoPlace", false), ("BadText", false), ("TooLong", false), ("BadPaper", false), ("BadName", true), ("Twice", false), ("NoForm", false)] := fun c0 b0 h0 => by
  simp only [List.mem_cons, Prod.mk.injEq, List.not_mem_nil, or_false] at h0
  rcases h0 with ⟨rfl, rfl⟩ | ⟨rfl, rfl⟩ | ⟨rfl, rfl⟩ | ⟨rfl, rfl⟩ | ⟨rfl, rfl⟩ | ⟨rfl, rfl⟩ | ⟨rfl, rfl⟩ | ⟨rfl, rfl⟩
  · exact ⟨c.fact0 80 (f := .kx "FormError") rfl, of_decide_eq_true (c.fact0 83 (f := .ix "FormError" "BadName" false) rfl)⟩
  · exact ⟨c.fact0 92 (f := .kx "NoPlace") rfl, of_decide_eq_true (c.fact0 95 (f := .ix "NoPlace" "BadName" false) rfl)⟩
  · exact ⟨c.fact0 104 (f := .kx "BadText") rfl, of_decide_eq_true (c.fact0 107 (f := .ix "BadText" "BadName" false) rfl)⟩
  · exact ⟨c.fact0 116 (f := .kx "TooLong") rfl, of_decide_eq_true (c.fact0 119 (f := .ix "TooLong" "BadName" false) rfl)⟩
  · exact ⟨c.fact0 128 (f := .kx "BadPaper") rfl, of_decide_eq_true (c.fact0 131 (f := .ix "BadPaper" "BadName" false) rfl)⟩
  · exact ⟨c.fact0 140 (f := .kx "BadName") rfl, of_decide_eq_true (c.fact0 143 (f := .ix "BadName" "BadName" true) rfl)⟩
  · exact ⟨c.fact0 152 (f := .kx "Twice") rfl, of_decide_eq_true (c.fact0 155 (f := .ix "Twice" "BadName" false) rfl)⟩
  · exact ⟨c.fact0 164 (f := .kx "NoForm") rfl, of_decide_eq_true (c.fact0 167 (f := .ix "NoForm" "BadName" false) rfl)⟩
theorem t_Twice : TabOk K (.ref (He.ga K "Twice")) [("FormError", false), ("NoPlace", false), ("BadText", false), ("TooLong", false), ("BadPaper", false), ("BadName", false), ("Twice", true), ("NoForm", false)] := fun c0 b0 h0 => by
  simp only [List.mem_cons, Prod.mk.injEq, List.not_mem_nil, or_false] at h0
  rcases h0 with ⟨rfl, rfl⟩ | ⟨rfl, rfl⟩ | ⟨rfl, rfl⟩ | ⟨rfl, rfl⟩ | ⟨rfl, rfl⟩ | ⟨rfl, rfl⟩ | ⟨rfl, rfl⟩ | ⟨rfl, rfl⟩
  · exact ⟨c.fact0 80 (f := .kx "FormError") rfl, of_decide_eq_true (c.fact0 84 (f := .ix "FormError" "Twice" false) rfl)⟩
  · exact ⟨c.fact0 92 (f := .kx "NoPlace") rfl, of_decide_eq_true (c.fact0 96 (f := .ix "NoPlace" "Twice" false) rfl)⟩
  · exact ⟨c.fact0 104 (f := .kx "BadText") rfl, of_decide_eq_true (c.fact0 108 (f := .ix "BadText" "Twice" false) rfl)⟩
  · exact ⟨c.fact0 116 (f := .kx "TooLong") rfl, of_decide_eq_true (c.fact0 120 (f := .ix "TooLong" "Twice" false) rfl)⟩
  · exact ⟨c.fact0 128 (f := .kx "BadPaper") rfl, of_decide_eq_true (c.fact0 132 (f := .ix "BadPaper" "Twice" false) rfl)⟩
  · exact ⟨c.fact0 140 (f := .kx "BadName") rfl, of_decide_eq_true (c.fact0 144 (f := .ix "BadName" "Twice" false) rfl)⟩
  · exact ⟨c.fact0 152 (f := .kx "Twice") rfl, of_decide_eq_true (c.fact0 156 (f := .ix "Twice" "Twice" true) rfl)⟩
  · exact ⟨c.fact0 164 (f := .kx "NoForm") rfl, of_decide_eq_true (c.fact0 168 (f := .ix "NoForm" "Twice" false) rfl)⟩
theorem t_TooLong : TabOk K (.ref (He.ga K "TooLong")) [("FormError", false), ("NoPlace", false), ("BadText", false), ("TooLong", true), ("BadPaper", false), ("BadName", false), ("Twice", false), ("NoForm", false)] := fun c0 b0 h0 => by
  simp only [List.mem_cons, Prod.mk.injEq, List.not_mem_nil, or_false] at h0
  rcases h0 with ⟨rfl, rfl⟩ | ⟨rfl, rfl⟩ | ⟨rfl, rfl⟩ | ⟨rfl, rfl⟩ | ⟨rfl, rfl⟩ | ⟨rfl, rfl⟩ | ⟨rfl, rfl⟩ | ⟨rfl, rfl⟩
  · exact ⟨c.fact0 80 (f := .kx "FormError") rfl, of_decide_eq_true (c.fact0 85 (f := .ix "FormError" "TooLong" false) rfl)⟩
  · exact ⟨c.fact0 92 (f := .kx "NoPlace") rfl, of_decide_eq_true (c.fact0 97 (f := .ix "NoPlace" "TooLong" false) rfl)⟩
  · exact ⟨c.fact0 104 (f := .kx "BadText") rfl, of_decide_eq_true (c.fact0 109 (f := .ix "BadText" "TooLong" false) rfl)⟩
  · exact ⟨c.fact0 116 (f := .kx "TooLong") rfl, of_decide_eq_true (c.fact0 121 (f := .ix "TooLong" "TooLong" true) rfl)⟩
  · exact ⟨c.fact0 128 (f := .kx "BadPaper") rfl, of_decide_eq_true (c.fact0 133 (f := .ix "BadPaper" "TooLong" false) rfl)⟩
  · exact ⟨c.fact0 140 (f := .kx "BadName") rfl, of_decide_eq_true (c.fact0 145 (f := .ix "BadName" "TooLong" false) rfl)⟩
  · exact ⟨c.fact0 152 (f := .kx "Twice") rfl, of_decide_eq_true (c.fact0 157 (f := .ix "Twice" "TooLong" false) rfl)⟩
  · exact ⟨c.fact0 164 (f := .kx "NoForm") rfl, of_decide_eq_true (c.fact0 169 (f := .ix "NoForm" "TooLong" false) rfl)⟩
theorem t_NoForm : TabOk K (.ref (He.ga K "NoForm")) [("FormError", false), ("NoPlace", false), ("BadText", false), ("TooLong", false), ("BadPaper", false), ("BadName", false), ("Twice", false), ("NoForm", true)] := fun c0 b0 h0 => by
  simp only [List.mem_cons, Prod.mk.injEq, List.not_mem_nil, or_false] at h0
  rcases h0 with ⟨rfl, rfl⟩ | ⟨rfl, rfl⟩ | ⟨rfl, rfl⟩ | ⟨rfl, rfl⟩ | ⟨rfl, rfl⟩ | ⟨rfl, rfl⟩ | ⟨rfl, rfl⟩ | ⟨rfl, rfl⟩
  · exact ⟨c.fact0 80 (f := .kx "FormError") rfl, of_decide_eq_true (c.fact0 86 (f := .ix "FormError" "NoForm" false) rfl)⟩
  · exact ⟨c.fact0 92 (f := .kx "NoPlace") rfl, of_decide_eq_true (c.fact0 98 (f := .ix "NoPlace" "NoForm" false) rfl)⟩
  · exact ⟨c.fact0 104 (f := .kx "BadText") rfl, of_decide_eq_true (c.fact0 110 (f := .ix "BadText" "NoForm" false) rfl)⟩
  · exact ⟨c.fact0 116 (f := .kx "TooLong") rfl, of_decide_eq_true (c.fact0 122 (f := .ix "TooLong" "NoForm" false) rfl)⟩
  · exact ⟨c.fact0 128 (f := .kx "BadPaper") rfl, of_decide_eq_true (c.fact0 134 (f := .ix "BadPaper" "NoForm" false) rfl)⟩
  · exact ⟨c.fact0 140 (f := .kx "BadName") rfl, of_decide_eq_true (c.fact0 146 (f := .ix "BadName" "NoForm" false) rfl)⟩
  · exact ⟨c.fact0 152 (f := .kx "Twice") rfl, of_decide_eq_true (c.fact0 158 (f := .ix "Twice" "NoForm" false) rfl)⟩
  · exact ⟨c.fact0 164 (f := .kx "NoForm") rfl, of_decide_eq_true (c.fact0 170 (f := .ix "NoForm" "NoForm" true) rfl)⟩
theorem t_NoPlace : TabOk K (.ref (He.ga K "NoPlace")) [("FormError", false), ("NoPlace", true), ("BadText", false), ("TooLong", false), ("BadPaper", false), ("BadName", false), ("Twice", false), ("NoForm", false)] := fun c0 b0 h0 => by
  simp only [List.mem_cons, Prod.mk.injEq, List.not_mem_nil, or_false] at h0
  rcases h0 with ⟨rfl, rfl⟩ | ⟨rfl, rfl⟩ | ⟨rfl, rfl⟩ | ⟨rfl, rfl⟩ | ⟨rfl, rfl⟩ | ⟨rfl, rfl⟩ | ⟨rfl, rfl⟩ | ⟨rfl, rfl⟩
  · exact ⟨c.fact0 80 (f := .kx "FormError") rfl, of_decide_eq_true (c.fact0 87 (f := .ix "FormError" "NoPlace" false) rfl)⟩
  · exact ⟨c.fact0 92 (f := .kx "NoPlace") rfl, of_decide_eq_true (c.fact0 99 (f := .ix "NoPlace" "NoPlace" true) rfl)⟩
  · exact ⟨c.fact0 104 (f := .kx "BadText") rfl, of_decide_eq_true (c.fact0 111 (f := .ix "BadText" "NoPlace" false) rfl)⟩
  · exact ⟨c.fact0 116 (f := .kx "TooLong") rfl, of_decide_eq_true (c.fact0 123 (f := .ix "TooLong" "NoPlace" false) rfl)⟩
  · exact ⟨c.fact0 128 (f := .kx "BadPaper") rfl, of_decide_eq_true (c.fact0 135 (f := .ix "BadPaper" "NoPlace" false) rfl)⟩
  · exact ⟨c.fact0 140 (f := .kx "BadName") rfl, of_decide_eq_true (c.fact0 147 (f := .ix "BadName" "NoPlace" false) rfl)⟩
  · exact ⟨c.fact0 152 (f := .kx "Twice") rfl, of_decide_eq_true (c.fact0 159 (f := .ix "Twice" "NoPlace" false) rfl)⟩
  · exact ⟨c.fact0 164 (f := .kx "NoForm") rfl, of_decide_eq_true (c.fact0 171 (f := .ix "NoForm" "NoPlace" false) rfl)⟩
theorem t_BadPaper : TabOk K (.ref (He.ga K "BadPaper")) [("FormError", false), ("NoPlace", false), ("BadText", false), ("TooLong", false), ("BadPaper", true), ("BadName", false), ("Twice", false), ("NoForm", false)] := fun c0 b0 h0 => by
  simp only [List.mem_cons, Prod.mk.injEq, List.not_mem_nil, or_false] at h0
  rcases h0 with ⟨rfl, rfl⟩ | ⟨rfl, rfl⟩ | ⟨rfl, rfl⟩ | ⟨rfl, rfl⟩ | ⟨rfl, rfl⟩ | ⟨rfl, rfl⟩ | ⟨rfl, rfl⟩ | ⟨rfl, rfl⟩
  · exact ⟨c.fact0 80 (f := .kx "FormError") rfl, of_decide_eq_true (c.fact0 88 (f := .ix "FormError" "BadPaper" false) rfl)⟩
  · exact ⟨c.fact0 92 (f := .kx "NoPlace") rfl, of_decide_eq_true (c.fact0 100 (f := .ix "NoPlace" "BadPaper" false) rfl)⟩
  · exact ⟨c.fact0 104 (f := .kx "BadText") rfl, of_decide_eq_true (c.fact0 112 (f := .ix "BadText" "BadPaper" false) rfl)⟩
  · exact ⟨c.fact0 116 (f := .kx "TooLong") rfl, of_decide_eq_true (c.fact0 124 (f := .ix "TooLong" "BadPaper" false) rfl)⟩
  · exact ⟨c.fact0 128 (f := .kx "BadPaper") rfl, of_decide_eq_true (c.fact0 136 (f := .ix "BadPaper" "BadPaper" true) rfl)⟩
  · exact ⟨c.fact0 140 (f := .kx "BadName") rfl, of_decide_eq_true (c.fact0 148 (f := .ix "BadName" "BadPaper" false) rfl)⟩
  · exact ⟨c.fact0 152 (f := .kx "Twice") rfl, of_decide_eq_true (c.fact0 160 (f := .ix "Twice" "BadPaper" false) rfl)⟩
  · exact ⟨c.fact0 164 (f := .kx "NoForm") rfl, of_decide_eq_true (c.fact0 172 (f := .ix "NoForm" "BadPaper" false) rfl)⟩
theorem t_BadText : TabOk K (.ref (He.ga K "BadText")) [("FormError", false), ("NoPlace", false), ("BadText", true), ("TooLong", false), ("BadPaper", false), ("BadName", false), ("Twice", false), ("NoForm", false)] := fun c0 b0 h0 => by
  simp only [List.mem_cons, Prod.mk.injEq, List.not_mem_nil, or_false] at h0
  rcases h0 with ⟨rfl, rfl⟩ | ⟨rfl, rfl⟩ | ⟨rfl, rfl⟩ | ⟨rfl, rfl⟩ | ⟨rfl, rfl⟩ | ⟨rfl, rfl⟩ | ⟨rfl, rfl⟩ | ⟨rfl, rfl⟩
  · exact ⟨c.fact0 80 (f := .kx "FormError") rfl, of_decide_eq_true (c.fact0 89 (f := .ix "FormError" "BadText" false) rfl)⟩
  · exact ⟨c.fact0 92 (f := .kx "NoPlace") rfl, of_decide_eq_true (c.fact0 101 (f := .ix "NoPlace" "BadText" false) rfl)⟩
  · exact ⟨c.fact0 104 (f := .kx "BadText") rfl, of_decide_eq_true (c.fact0 113 (f := .ix "BadText" "BadText" true) rfl)⟩
  · exact ⟨c.fact0 116 (f := .kx "TooLong") rfl, of_decide_eq_true (c.fact0 125 (f := .ix "TooLong" "BadText" false) rfl)⟩
  · exact ⟨c.fact0 128 (f := .kx "BadPaper") rfl, of_decide_eq_true (c.fact0 137 (f := .ix "BadPaper" "BadText" false) rfl)⟩
  · exact ⟨c.fact0 140 (f := .kx "BadName") rfl, of_decide_eq_true (c.fact0 149 (f := .ix "BadName" "BadText" false) rfl)⟩
  · exact ⟨c.fact0 152 (f := .kx "Twice") rfl, of_decide_eq_true (c.fact0 161 (f := .ix "Twice" "BadText" false) rfl)⟩
  · exact ⟨c.fact0 164 (f := .kx "NoForm") rfl, of_decide_eq_true (c.fact0 173 (f := .ix "NoForm" "BadText" false) rfl)⟩
theorem z_ValueError : mg "ValueError" = none := He.free_ok X G (c.fact 71 (f := .free "ValueError") rfl)
theorem t_ValueError : TabOk K (.type "ValueError") [("FormError", true), ("NoPlace", true), ("BadText", true), ("TooLong", true), ("BadPaper", true), ("BadName", true), ("Twice", true), ("NoForm", true)] := fun c0 b0 h0 => by
  simp only [List.mem_cons, Prod.mk.injEq, List.not_mem_nil, or_false] at h0
  rcases h0 with ⟨rfl, rfl⟩ | ⟨rfl, rfl⟩ | ⟨rfl, rfl⟩ | ⟨rfl, rfl⟩ | ⟨rfl, rfl⟩ | ⟨rfl, rfl⟩ | ⟨rfl, rfl⟩ | ⟨rfl, rfl⟩
  · exact ⟨c.fact0 80 (f := .kx "FormError") rfl, of_decide_eq_true (c.fact0 90 (f := .ib "FormError" "ValueError" true) rfl)⟩
  · exact ⟨c.fact0 92 (f := .kx "NoPlace") rfl, of_decide_eq_true (c.fact0 102 (f := .ib "NoPlace" "ValueError" true) rfl)⟩
  · exact ⟨c.fact0 104 (f := .kx "BadText") rfl, of_decide_eq_true (c.fact0 114 (f := .ib "BadText" "ValueError" true) rfl)⟩
  · exact ⟨c.fact0 116 (f := .kx "TooLong") rfl, of_decide_eq_true (c.fact0 126 (f := .ib "TooLong" "ValueError" true) rfl)⟩
  · exact ⟨c.fact0 128 (f := .kx "BadPaper") rfl, of_decide_eq_true (c.fact0 138 (f := .ib "BadPaper" "ValueError" true) rfl)⟩
  · exact ⟨c.fact0 140 (f := .kx "BadName") rfl, of_decide_eq_true (c.fact0 150 (f := .ib "BadName" "ValueError" true) rfl)⟩
  · exact ⟨c.fact0 152 (f := .kx "Twice") rfl, of_decide_eq_true (c.fact0 162 (f := .ib "Twice" "ValueError" true) rfl)⟩
  · exact ⟨c.fact0 164 (f := .kx "NoForm") rfl, of_decide_eq_true (c.fact0 174 (f := .ib "NoForm" "ValueError" true) rfl)⟩
theorem i_Cabinet : InsF K "Cabinet" ["kept", "root"] := ⟨He.cls_ok (c.fact 194 (f := .cls "Cabinet") rfl), fun f0 h0 => by
  simp only [List.mem_cons, List.not_mem_nil, or_false] at h0
  rcases h0 with rfl | rfl
  · exact He.noat_ok (c.fact 195 rfl)
  · exact He.noat_ok (c.fact 196 rfl)⟩
theorem at_same_blocks (base : Heap) : ∀ n, FnAt P w K mg base n "same_blocks" ["form", "tree"] (F_same_blocks n) := by
  obtain ⟨fd, F⟩ := c.def_ 1 (d := d_same_blocks) rfl
  have b : Binds K fd ["form", "tree"] [] := F.bindsN fun _ _ _ _ _ _ us hl => match us, hl with | [_, _], _ => rfl
  have g := He.glo_ok X G (c.fact 1 (f := .glo "same_blocks") rfl)
  intro n
  induction n with
  | zero => exact fnAt_zero F g b
  | succ n ih => exact fnAt_by kPure rfl F g b (ok_same_blocks F (blt X G c))
theorem at_fit_under (base : Heap) : ∀ n, FnAt P w K mg base n "fit_under" ["form", "tree", "filling"] (F_fit_under n) := by
  obtain ⟨fd, F⟩ := c.def_ 2 (d := d_fit_under) rfl
  have b : Binds K fd ["form", "tree", "filling"] [] := F.bindsN fun _ _ _ _ _ _ us hl => match us, hl with | [_, _, _], _ => rfl
  have g := He.glo_ok X G (c.fact 2 (f := .glo "fit_under") rfl)
  intro n
  induction n with
  | zero => exact fnAt_zero F g b
  | succ n ih => exact fnAt_by kEff rfl F g b (ok_fit_under F (blt X G c) ih (at_same_blocks X G c base n))
theorem at_fitting (base : Heap) : ∀ n, FnAt P w K mg base n "fitting" ["form", "tree"] (F_fitting n) := by
  obtain ⟨fd, F⟩ := c.def_ 3 (d := d_fitting) rfl
  have b : Binds K fd ["form", "tree"] [] := F.bindsN fun _ _ _ _ _ _ us hl => match us, hl with | [_, _], _ => rfl
  have g := He.glo_ok X G (c.fact 3 (f := .glo "fitting") rfl)
  intro n
  induction n with
  | zero => exact fnAt_zero F g b
  | succ n ih => exact fnAt_by kRaw rfl F g b (ok_fitting F (blt X G c) (at_fit_under X G c base n))
theorem at_of_one_kind (base : Heap) : ∀ n, FnAt P w K mg base n "of_one_kind" ["trees"] (F_of_one_kind n) := by
  obtain ⟨fd, F⟩ := c.def_ 4 (d := d_of_one_kind) rfl
  have b : Binds K fd ["trees"] [] := F.bindsN fun _ _ _ _ _ _ us hl => match us, hl with | [_], _ => rfl
  have g := He.glo_ok X G (c.fact 4 (f := .glo "of_one_kind") rfl)
  intro n
  induction n with
  | zero => exact fnAt_zero F g b
  | succ n ih => exact fnAt_by kPure rfl F g b (ok_of_one_kind F (blt X G c))
theorem at_go_down (base : Heap) : ∀ n, FnAt P w K mg base n "go_down" ["trees", "rows"] (F_go_down n) := by
  obtain ⟨fd, F⟩ := c.def_ 5 (d := d_go_down) rfl
  have b : Binds K fd ["trees", "rows"] [] := F.bindsN fun _ _ _ _ _ _ us hl => match us, hl with | [_, _], _ => rfl
  have g := He.glo_ok X G (c.fact 5 (f := .glo "go_down") rfl)
  intro n
  induction n with
  | zero => exact fnAt_zero F g b
  | succ n ih => exact fnAt_by kPure rfl F g b (ok_go_down F (blt X G c) (at_of_one_kind X G c base n) ih)
theorem at_nearest_of (base : Heap) : ∀ n, FnAt P w K mg base n "nearest_of" ["trees"] (F_nearest_of n) := by
  obtain ⟨fd, F⟩ := c.def_ 6 (d := d_nearest_of) rfl
  have b : Binds K fd ["trees"] [] := F.bindsN fun _ _ _ _ _ _ us hl => match us, hl with | [_], _ => rfl
  have g := He.glo_ok X G (c.fact 6 (f := .glo "nearest_of") rfl)
  intro n
  induction n with
  | zero => exact fnAt_zero F g b
  | succ n ih => exact fnAt_by kRaw rfl F g b (ok_nearest_of F (blt X G c) (at_go_down X G c base n))
theorem at_is_name (base : Heap) : ∀ n, FnAt P w K mg base n "is_name" ["text"] (F_is_name n) := by
  obtain ⟨fd, F⟩ := c.def_ 7 (d := d_is_name) rfl
  have b : Binds K fd ["text"] [] := F.bindsN fun _ _ _ _ _ _ us hl => match us, hl with | [_], _ => rfl
  have g := He.glo_ok X G (c.fact 7 (f := .glo "is_name") rfl)
  intro n
  induction n with
  | zero => exact fnAt_zero F g b
  | succ n ih => exact fnAt_by kPure rfl F g b (ok_is_name F (blt X G c) (c_SMALL X G c) (c_FIGURES X G c) (c_LONGEST X G c))
theorem at_parts_of (base : Heap) : ∀ n, FnAt P w K mg base n "parts_of" ["tree"] (F_parts_of n) := by
  obtain ⟨fd, F⟩ := c.def_ 8 (d := d_parts_of) rfl
  have b : Binds K fd ["tree"] [] := F.bindsN fun _ _ _ _ _ _ us hl => match us, hl with | [_], _ => rfl
  have g := He.glo_ok X G (c.fact 8 (f := .glo "parts_of") rfl)
  intro n
  induction n with
  | zero => exact fnAt_zero F g b
  | succ n ih => exact fnAt_by kPure rfl F g b (ok_parts_of F (blt X G c))
theorem at_knots_of (base : Heap) : ∀ n, FnAt P w K mg base n "knots_of" ["tree"] (F_knots_of n) := by
  obtain ⟨fd, F⟩ := c.def_ 9 (d := d_knots_of) rfl
  have b : Binds K fd ["tree"] [] := F.bindsN fun _ _ _ _ _ _ us hl => match us, hl with | [_], _ => rfl
  have g := He.glo_ok X G (c.fact 9 (f := .glo "knots_of") rfl)
  intro n
  induction n with
  | zero => exact fnAt_zero F g b
  | succ n ih => exact fnAt_by kPure rfl F g b (ok_knots_of F (blt X G c) (at_parts_of X G c base n) ih)
theorem at_depth_of (base : Heap) : ∀ n, FnAt P w K mg base n "depth_of" ["tree"] (F_depth_of n) := by
  obtain ⟨fd, F⟩ := c.def_ 10 (d := d_depth_of) rfl
  have b : Binds K fd ["tree"] [] := F.bindsN fun _ _ _ _ _ _ us hl => match us, hl with | [_], _ => rfl
  have g := He.glo_ok X G (c.fact 10 (f := .glo "depth_of") rfl)
  intro n
  induction n with
  | zero => exact fnAt_zero F g b
  | succ n ih => exact fnAt_by kPure rfl F g b (ok_depth_of F (blt X G c) (at_parts_of X G c base n) ih)
theorem at_put_at (base : Heap) : ∀ n, FnAt P w K mg base n "put_at" ["tree", "place", "part"] (F_put_at n) := by
  obtain ⟨fd, F⟩ := c.def_ 12 (d := d_put_at) rfl
  have b : Binds K fd ["tree", "place", "part"] [] := F.bindsN fun _ _ _ _ _ _ us hl => match us, hl with | [_, _, _], _ => rfl
  have g := He.glo_ok X G (c.fact 12 (f := .glo "put_at") rfl)
  intro n
  induction n with
  | zero => exact fnAt_zero F g b
  | succ n ih => exact fnAt_by kPure rfl F g b (ok_put_at F (blt X G c) (x_NoPlace X G c) ih (at_parts_of X G c base n))
theorem at_names_on (base : Heap) : ∀ n, FnAt P w K mg base n "names_on" ["bough"] (F_names_on n) := by
  obtain ⟨fd, F⟩ := c.def_ 13 (d := d_names_on) rfl
  have b : Binds K fd ["bough"] [] := F.bindsN fun _ _ _ _ _ _ us hl => match us, hl with | [_], _ => rfl
  have g := He.glo_ok X G (c.fact 13 (f := .glo "names_on") rfl)
  intro n
  induction n with
  | zero => exact fnAt_zero F g b
  | succ n ih => exact fnAt_by kNew rfl F g b (ok_names_on F (blt X G c) ih)
theorem at_form_on (base : Heap) : ∀ n, FnAt P w K mg base n "form_on" ["bough", "kept"] (F_form_on n) := by
  obtain ⟨fd, F⟩ := c.def_ 14 (d := d_form_on) rfl
  have b : Binds K fd ["bough", "kept"] [] := F.bindsN fun _ _ _ _ _ _ us hl => match us, hl with | [_, _], _ => rfl
  have g := He.glo_ok X G (c.fact 14 (f := .glo "form_on") rfl)
  intro n
  induction n with
  | zero => exact fnAt_zero F g b
  | succ n ih => exact fnAt_by kPure rfl F g b (ok_form_on F (blt X G c))
theorem at_knot_of (base : Heap) : ∀ n, FnAt P w K mg base n "knot_of" ["boughs", "kept"] (F_knot_of n) := by
  obtain ⟨fd, F⟩ := c.def_ 15 (d := d_knot_of) rfl
  have b : Binds K fd ["boughs", "kept"] [] := F.bindsN fun _ _ _ _ _ _ us hl => match us, hl with | [_, _], _ => rfl
  have g := He.glo_ok X G (c.fact 15 (f := .glo "knot_of") rfl)
  intro n
  induction n with
  | zero => exact fnAt_zero F g b
  | succ n ih => exact fnAt_by kRaw rfl F g b (ok_knot_of F (blt X G c) (at_form_on X G c base n) (at_nearest_of X G c base n))
theorem at_best_bough (base : Heap) : ∀ n, FnAt P w K mg base n "best_bough" ["boughs", "leaf", "kept"] (F_best_bough n) := by
  obtain ⟨fd, F⟩ := c.def_ 16 (d := d_best_bough) rfl
  have b : Binds K fd ["boughs", "leaf", "kept"] [] := F.bindsN fun _ _ _ _ _ _ us hl => match us, hl with | [_, _, _], _ => rfl
  have g := He.glo_ok X G (c.fact 16 (f := .glo "best_bough") rfl)
  intro n
  induction n with
  | zero => exact fnAt_zero F g b
  | succ n ih => exact fnAt_by kPure rfl F g b (ok_best_bough F (blt X G c) (at_form_on X G c base n) (at_nearest_of X G c base n) (at_knots_of X G c base n))
theorem at_hung (base : Heap) : ∀ n, FnAt P w K mg base n "hung" ["bough", "leaf", "kept"] (F_hung n) := by
  obtain ⟨fd, F⟩ := c.def_ 17 (d := d_hung) rfl
  have b : Binds K fd ["bough", "leaf", "kept"] [] := F.bindsN fun _ _ _ _ _ _ us hl => match us, hl with | [_, _, _], _ => rfl
  have g := He.glo_ok X G (c.fact 17 (f := .glo "hung") rfl)
  intro n
  induction n with
  | zero => exact fnAt_zero F g b
  | succ n ih => exact fnAt_by kRaw rfl F g b (ok_hung F (blt X G c) (c_MOST_BOUGHS X G c) (at_knot_of X G c base n) ih (at_best_bough X G c base n) (at_form_on X G c base n) (at_fitting X G c base n))
theorem at_cut_off (base : Heap) : ∀ n, FnAt P w K mg base n "cut_off" ["bough", "name", "kept"] (F_cut_off n) := by
  obtain ⟨fd, F⟩ := c.def_ 18 (d := d_cut_off) rfl
  have b : Binds K fd ["bough", "name", "kept"] [] := F.bindsN fun _ _ _ _ _ _ us hl => match us, hl with | [_, _, _], _ => rfl
  have g := He.glo_ok X G (c.fact 18 (f := .glo "cut_off") rfl)
  intro n
  induction n with
  | zero => exact fnAt_zero F g b
  | succ n ih => exact fnAt_by kRaw rfl F g b (ok_cut_off F (blt X G c) (at_knot_of X G c base n) ih (at_names_on X G c base n))
theorem at_Cabinet___init__ (base : Heap) : ∀ n, MkAt P w K mg base n "Cabinet" ["self"] (F_Cabinet___init__ n) := by
  obtain ⟨fd, F⟩ := c.def_ 44 (d := d_Cabinet___init__) rfl
  have b : Binds K fd ["self"] [] := F.bindsN fun _ _ _ _ _ _ us hl => match us, hl with | [_], _ => rfl
  have k := He.cls_ok (c.fact 194 (f := .cls "Cabinet") rfl)
  have g := He.glo_ok X G (c.fact 53 (f := .glo "Cabinet") rfl)
  have m := He.mkr_ok (c.fact 212 (f := .mkr "Cabinet") rfl)
  intro n
  induction n with
  | zero => exact mkAt_zero F m g b
  | succ n ih => exact mkAt_by kRaw rfl m g b (ok_Cabinet___init__ F (blt X G c) (i_Cabinet X G c))
theorem mk_Cabinet___init__ (base : Heap) (n : Nat) : MkN P w K mg base n "Cabinet" ["self"] (F_Cabinet___init__ (n - 1)) := by
  cases n with
  | zero => exact .inr fun _ _ => rfl
  | succ n => exact .inl ⟨n, rfl, at_Cabinet___init__ X G c base n⟩
theorem at_Cabinet_put (base : Heap) : ∀ n, MtAt P w K mg base n "Cabinet" "put" ["self", "name", "form"] (F_Cabinet_put n) := by
  obtain ⟨fd, F⟩ := c.def_ 45 (d := d_Cabinet_put) rfl
  have b : Binds K fd ["self", "name", "form"] [] := F.bindsN fun _ _ _ _ _ _ us hl => match us, hl with | [_, _, _], _ => rfl
  have k := He.cls_ok (c.fact 194 (f := .cls "Cabinet") rfl)
  have m := He.meth_ok (c.fact 198 (f := .meth "Cabinet" "put") rfl)
  intro n
  induction n with
  | zero => exact mtAt_zero F k m b
  | succ n ih => exact mtAt_by kRaw rfl k m b (ok_Cabinet_put F (blt X G c) (c_MOST_KEPT X G c) (x_TooLong X G c) (x_Twice X G c) (x_BadName X G c) (i_Cabinet X G c) (at_hung X G c base n) (at_is_name X G c base n))
theorem at_Cabinet_take (base : Heap) : ∀ n, MtAt P w K mg base n "Cabinet" "take" ["self", "name"] (F_Cabinet_take n) := by
  obtain ⟨fd, F⟩ := c.def_ 46 (d := d_Cabinet_take) rfl
  have b : Binds K fd ["self", "name"] [] := F.bindsN fun _ _ _ _ _ _ us hl => match us, hl with | [_, _], _ => rfl
  have k := He.cls_ok (c.fact 194 (f := .cls "Cabinet") rfl)
  have m := He.meth_ok (c.fact 199 (f := .meth "Cabinet" "take") rfl)
  intro n
  induction n with
  | zero => exact mtAt_zero F k m b
  | succ n ih => exact mtAt_by kRaw rfl k m b (ok_Cabinet_take F (blt X G c) (x_NoForm X G c) (i_Cabinet X G c) (at_cut_off X G c base n))
theorem at_Cabinet_form_of (base : Heap) : ∀ n, MtAt P w K mg base n "Cabinet" "form_of" ["self", "name"] (F_Cabinet_form_of n) := by
  obtain ⟨fd, F⟩ := c.def_ 47 (d := d_Cabinet_form_of) rfl
  have b : Binds K fd ["self", "name"] [] := F.bindsN fun _ _ _ _ _ _ us hl => match us, hl with | [_, _], _ => rfl
  have k := He.cls_ok (c.fact 194 (f := .cls "Cabinet") rfl)
  have m := He.meth_ok (c.fact 200 (f := .meth "Cabinet" "form_of") rfl)
  intro n
  induction n with
  | zero => exact mtAt_zero F k m b
  | succ n ih => exact mtAt_by kPure rfl k m b (ok_Cabinet_form_of F (blt X G c) (x_NoForm X G c) (i_Cabinet X G c))
theorem at_Cabinet_names (base : Heap) : ∀ n, MtAt P w K mg base n "Cabinet" "names" ["self"] (F_Cabinet_names n) := by
  obtain ⟨fd, F⟩ := c.def_ 48 (d := d_Cabinet_names) rfl
  have b : Binds K fd ["self"] [] := F.bindsN fun _ _ _ _ _ _ us hl => match us, hl with | [_], _ => rfl
  have k := He.cls_ok (c.fact 194 (f := .cls "Cabinet") rfl)
  have m := He.meth_ok (c.fact 201 (f := .meth "Cabinet" "names") rfl)
  intro n
  induction n with
  | zero => exact mtAt_zero F k m b
  | succ n ih => exact mtAt_by kNew rfl k m b (ok_Cabinet_names F (blt X G c) (i_Cabinet X G c))
theorem at_Cabinet_rows_within_v4 (base : Heap) : ∀ n, MtAt P w K mg base n "Cabinet" "rows_within" ["self", "bough", "form", "question"] (F_Cabinet_rows_within_v4 n) := by
  obtain ⟨fd, F⟩ := c.def_ 52 (d := d_Cabinet_rows_within) rfl
  have b : Binds K fd ["self", "bough", "form", "question"] [] := F.bindsN fun _ _ _ _ _ _ us hl => match us, hl with | [_, _, _, _], _ => rfl
  have k := He.cls_ok (c.fact 194 (f := .cls "Cabinet") rfl)
  have m := He.meth_ok (c.fact 205 (f := .meth "Cabinet" "rows_within") rfl)
  intro n
  induction n with
  | zero => exact mtAt_zero F k m b
  | succ n ih => exact mtAt_by kPure rfl k m b (ok_Cabinet_rows_within_v4 F (blt X G c))
theorem at_Cabinet_rows_below_v4 (base : Heap) : ∀ n, MtAt P w K mg base n "Cabinet" "rows_below" ["self", "bough", "form"] (F_Cabinet_rows_below_v4 n) := by
  obtain ⟨fd, F⟩ := c.def_ 50 (d := d_Cabinet_rows_below) rfl
  have b : Binds K fd ["self", "bough", "form"] [] := F.bindsN fun _ _ _ _ _ _ us hl => match us, hl with | [_, _, _], _ => rfl
  have k := He.cls_ok (c.fact 194 (f := .cls "Cabinet") rfl)
  have m := He.meth_ok (c.fact 203 (f := .meth "Cabinet" "rows_below") rfl)
  intro n
  induction n with
  | zero => exact mtAt_zero F k m b
  | succ n ih => exact mtAt_by kRaw rfl k m b (ok_Cabinet_rows_below_v4 F (blt X G c) (i_Cabinet X G c) (at_Cabinet_rows_within_v4 X G c base n) (at_fitting X G c base n) (at_names_on X G c base n))
theorem at_Cabinet_answer_v3 (base : Heap) : ∀ n, MtAt P w K mg base n "Cabinet" "answer" ["self", "rows"] (F_Cabinet_answer_v3 n) := by
  obtain ⟨fd, F⟩ := c.def_ 54 (d := d_Cabinet_answer) rfl
  have b : Binds K fd ["self", "rows"] [] := F.bindsN fun _ _ _ _ _ _ us hl => match us, hl with | [_, _], _ => rfl
  have k := He.cls_ok (c.fact 194 (f := .cls "Cabinet") rfl)
  have m := He.meth_ok (c.fact 207 (f := .meth "Cabinet" "answer") rfl)
  intro n
  induction n with
  | zero => exact mtAt_zero F k m b
  | succ n ih => exact mtAt_by kRaw rfl k m b (ok_Cabinet_answer_v3 F (blt X G c))
theorem at_Cabinet_below_v4 (base : Heap) : ∀ n, MtAt P w K mg base n "Cabinet" "below" ["self", "form"] (F_Cabinet_below_v4 n) := by
  obtain ⟨fd, F⟩ := c.def_ 55 (d := d_Cabinet_below) rfl
  have b : Binds K fd ["self", "form"] [] := F.bindsN fun _ _ _ _ _ _ us hl => match us, hl with | [_, _], _ => rfl
  have k := He.cls_ok (c.fact 194 (f := .cls "Cabinet") rfl)
  have m := He.meth_ok (c.fact 208 (f := .meth "Cabinet" "below") rfl)
  intro n
  induction n with
  | zero => exact mtAt_zero F k m b
  | succ n ih => exact mtAt_by kRaw rfl k m b (ok_Cabinet_below_v4 F (blt X G c) (i_Cabinet X G c) (at_Cabinet_answer_v3 X G c base n) (at_Cabinet_rows_below_v4 X G c base n))
theorem at_Cabinet_change_v6 (base : Heap) : ∀ n, MtAt P w K mg base n "Cabinet" "change" ["self", "name", "place", "part"] (F_Cabinet_change_v6 n) := by
  obtain ⟨fd, F⟩ := c.def_ 58 (d := d_Cabinet_change) rfl
  have b : Binds K fd ["self", "name", "place", "part"] [] := F.bindsN fun _ _ _ _ _ _ us hl => match us, hl with | [_, _, _, _], _ => rfl
  have k := He.cls_ok (c.fact 194 (f := .cls "Cabinet") rfl)
  have m := He.meth_ok (c.fact 211 (f := .meth "Cabinet" "change") rfl)
  intro n
  induction n with
  | zero => exact mtAt_zero F k m b
  | succ n ih => exact mtAt_by kRaw rfl k m b (ok_Cabinet_change_v6 F (blt X G c) (x_TooLong X G c) (at_Cabinet_put X G c base n) (at_Cabinet_take X G c base n) (at_knots_of X G c base n) (at_depth_of X G c base n) (at_Cabinet_form_of X G c base n) (at_put_at X G c base n))
theorem at__law_mixed (base : Heap) : ∀ n, FnAt P w K mg base n "_law_mixed" ["cell"] (F__law_mixed n) := by
  obtain ⟨fd, F⟩ := c.def_ 60 (d := d__law_mixed) rfl
  have b : Binds K fd ["cell"] [] := F.bindsN fun _ _ _ _ _ _ us hl => match us, hl with | [_], _ => rfl
  have g := He.glo_ok X G (c.fact 34 (f := .glo "_law_mixed") rfl)
  intro n
  induction n with
  | zero => exact fnAt_zero F g b
  | succ n ih => exact fnAt_by kPure rfl F g b (ok__law_mixed F (blt X G c))
theorem at__law_of_knots (base : Heap) : ∀ n, FnAt P w K mg base n "_law_of_knots" ["many"] (F__law_of_knots n) := by
  obtain ⟨fd, F⟩ := c.def_ 62 (d := d__law_of_knots) rfl
  have b : Binds K fd ["many"] [] := F.bindsN fun _ _ _ _ _ _ us hl => match us, hl with | [_], _ => rfl
  have g := He.glo_ok X G (c.fact 36 (f := .glo "_law_of_knots") rfl)
  intro n
  induction n with
  | zero => exact fnAt_zero F g b
  | succ n ih => exact fnAt_by kPure rfl F g b (ok__law_of_knots F (blt X G c))
theorem at__law_chain_v3 (base : Heap) : ∀ n, FnAt P w K mg base n "_law_chain" ["deep"] (F__law_chain_v3 n) := by
  obtain ⟨fd, F⟩ := c.def_ 63 (d := d__law_chain) rfl
  have b : Binds K fd ["deep"] [] := F.bindsN fun _ _ _ _ _ _ us hl => match us, hl with | [_], _ => rfl
  have g := He.glo_ok X G (c.fact 37 (f := .glo "_law_chain") rfl)
  intro n
  induction n with
  | zero => exact fnAt_zero F g b
  | succ n ih => exact fnAt_by kPure rfl F g b (ok__law_chain_v3 F (blt X G c))
theorem at__law_do (base : Heap) : ∀ n, FnAt P w K mg base n "_law_do" ["cabinet", "deed"] (F__law_do n) := by
  obtain ⟨fd, F⟩ := c.def_ 64 (d := d__law_do) rfl
  have b : Binds K fd ["cabinet", "deed"] [] := F.bindsN fun _ _ _ _ _ _ us hl => match us, hl with | [_, _], _ => rfl
  have g := He.glo_ok X G (c.fact 38 (f := .glo "_law_do") rfl)
  intro n
  induction n with
  | zero => exact fnAt_zero F g b
  | succ n ih => exact fnAt_by kRaw rfl F g b (ok__law_do F (blt X G c) (at_Cabinet_change_v6 X G c base n) (at_Cabinet_form_of X G c base n) (at_Cabinet_take X G c base n) (at_Cabinet_put X G c base n))
theorem at__law_refused_v4 (base : Heap) : ∀ n, FnAt P w K mg base n "_law_refused" ["cabinet", "deed"] (F__law_refused_v4 n) := by
  obtain ⟨fd, F⟩ := c.def_ 65 (d := d__law_refused) rfl
  have b : Binds K fd ["cabinet", "deed"] [] := F.bindsN fun _ _ _ _ _ _ us hl => match us, hl with | [_, _], _ => rfl
  have g := He.glo_ok X G (c.fact 39 (f := .glo "_law_refused") rfl)
  intro n
  induction n with
  | zero => exact fnAt_zero F g b
  | succ n ih => exact fnAt_by kRaw rfl F g b (ok__law_refused_v4 F (blt X G c) (g_FormError X G c) (g_BadText X G c) (g_BadPaper X G c) (g_NoPlace X G c) (g_NoForm X G c) (g_TooLong X G c) (g_Twice X G c) (g_BadName X G c) (e_FormError X G c) (z_ValueError X G c) (t_ValueError X G c) (t_BadText X G c) (t_BadPaper X G c) (t_NoPlace X G c) (t_NoForm X G c) (t_TooLong X G c) (t_Twice X G c) (t_BadName X G c) (at__law_do X G c base n))
theorem at__law_case (base : Heap) : ∀ n, FnAt P w K mg base n "_law_case" ["kind", "number"] (F__law_case n) := by
  obtain ⟨fd, F⟩ := c.def_ 66 (d := d__law_case) rfl
  have b : Binds K fd ["kind", "number"] [] := F.bindsN fun _ _ _ _ _ _ us hl => match us, hl with | [_, _], _ => rfl
  have g := He.glo_ok X G (c.fact 40 (f := .glo "_law_case") rfl)
  intro n
  induction n with
  | zero => exact fnAt_zero F g b
  | succ n ih => exact fnAt_by kRaw rfl F g b (ok__law_case F (blt X G c) (at__law_chain_v3 X G c base n) (at__law_of_knots X G c base n))
theorem at__law_opened (base : Heap) : ∀ n, FnAt P w K mg base n "_law_opened" ["kind"] (F__law_opened n) := by
  obtain ⟨fd, F⟩ := c.def_ 67 (d := d__law_opened) rfl
  have b : Binds K fd ["kind"] [] := F.bindsN fun _ _ _ _ _ _ us hl => match us, hl with | [_], _ => rfl
  have g := He.glo_ok X G (c.fact 41 (f := .glo "_law_opened") rfl)
  intro n
  induction n with
  | zero => exact fnAt_zero F g b
  | succ n ih => exact fnAt_by kRaw rfl F g b (ok__law_opened F (blt X G c) (at_Cabinet_put X G c base n) (at__law_chain_v3 X G c base n) (mk_Cabinet___init__ X G c base n))
theorem at__law_less (base : Heap) : ∀ n, FnAt P w K mg base n "_law_less" ["kind", "deed"] (F__law_less n) := by
  obtain ⟨fd, F⟩ := c.def_ 68 (d := d__law_less) rfl
  have b : Binds K fd ["kind", "deed"] [] := F.bindsN fun _ _ _ _ _ _ us hl => match us, hl with | [_, _], _ => rfl
  have g := He.glo_ok X G (c.fact 42 (f := .glo "_law_less") rfl)
  intro n
  induction n with
  | zero => exact fnAt_zero F g b
  | succ n ih => exact fnAt_by kPure rfl F g b (ok__law_less F (blt X G c) (at__law_chain_v3 X G c base n) (at__law_of_knots X G c base n))
end
end Wk
open PySem PySem.W PySem.Calls PyProof.Rows
theorem head_holds (hc : PySem.W.WalkO (view (OpenLaw.row PySem.Challenge.rw_commonform_k61_refused_once).prog [70]) Hd.ls (XL (view (OpenLaw.row PySem.Challenge.rw_commonform_k61_refused_once).prog [70]) []) Hd.hk.says (OpenLaw.row PySem.Challenge.rw_commonform_k61_refused_once).toRowW (HandSHeadRun.topDef (OpenLaw.row PySem.Challenge.rw_commonform_k61_refused_once).prog 70) [] fun f vs => PySem.call f vs) : PySem.Challenge.rw_commonform_k61_refused_once.Holds := by
  w_on; o_law
  refine HandSHeadRun.head_any (r := OpenLaw.row PySem.Challenge.rw_commonform_k61_refused_once) (q := view (OpenLaw.row PySem.Challenge.rw_commonform_k61_refused_once).prog [70]) (H := Hd.hk) (ob := Hd.ob) (M := 15850) (loose := Hd.ls) (d := HandSHeadRun.topDef (OpenLaw.row PySem.Challenge.rw_commonform_k61_refused_once).prog 70) (kwd := []) Hd.ob_eq
    (by kernel_rfl) (fun s => by kernel_rfl) Hd.run (by kernel_rfl) (by kernel_rfl) (by kernel_rfl) (by rfl) (by first | assumption | decide +kernel) (by decide +kernel) ⟨rfl, rfl, rfl, rfl, rfl, by decide +kernel⟩ ?hw hc
  case hw => w_witness2
theorem law_done (hφ : ∀ ns : List Int, ns.length ≤ 63 → ∃ h, DV.F_law_k61 230 [.ro ns] [] = .ok (.bl true) h) : PySem.Challenge.rw_commonform_k61_refused_once.Holds := by
  refine head_holds (DV.law_end (k := 230) rfl (by kernel_rfl) ⟨rfl, by decide, by decide⟩ hφ ?_)
  intro w mg fa h Y G hm
  obtain ⟨K, KX, c⟩ := Y
  obtain ⟨fd, F⟩ := c.def_ 69 (d := Hd.d_law) rfl
  have e1 : mg "law" = some (.ref fa) := by
    have e : (HandSHeadRun.topDef (OpenLaw.row PySem.Challenge.rw_commonform_k61_refused_once).prog 70).name = ("law" : PySem.Str) := by kernel_rfl
    rw [← e]; exact hm
  have e2 := e1.symm.trans (He.glo_ok KX G (c.fact 43 (f := .glo "law") rfl))
  cases e2
  have b := L2.FunD.bindsA (ps := ["script"]) F fun _ _ _ _ _ _ us hl => match us, hl with | [_], _ => rfl
  refine ⟨K, fd, KX, fun s u => b s [u] rfl, fun base _ _ => ?_⟩
  exact Wk.ok_law_k61 (n := 229) F (Wk.blt KX G c) (Wk.at__law_less KX G c base 229) (Wk.at__law_do KX G c base 229) (Wk.at_Cabinet_below_v4 KX G c base 229) (Wk.at__law_refused_v4 KX G c base 229) (Wk.at_Cabinet_names KX G c base 229) (Wk.at__law_opened KX G c base 229) (Wk.at__law_case KX G c base 229) (Wk.at__law_mixed KX G c base 229)
theorem PySem.Challenge.cw_commonform_k61_refused_once_holds : PySem.Challenge.rw_commonform_k61_refused_once.Holds := by
  exact law_done DV.law_k61_ok
