import PyProof.Rows.All
import Wide.All
import OpenK.AllK
import Wide.FinOn
import KE.KStateDown
import HandS.ForMost
import HandS.Exc
import HandS.TryOnly
import HandS.TryMany
import HandS.ExcOwn
import HandS.WordsExc
import HandS.Defaults
import HandS.Head0
import HandS.Head1
import HandS.Head2
import HandS.HeadEnd
import HandS.HeadHook1
import HandS.HeadHook2
import HandS.CallSlots
import HandS.TupAny
import HandS.IsInst
import KE.DataMinMax
import KE.GoesEnum
import KE.KDictLaws
import HandS.Finally
import HandS.More
import HandS.Iter
import HandS.WordsDict
import HandS.DictComp
import HandS.TupMul
import HandS.Text
import HandS.StrMore
import HandS.SortInts
import HandS.Style
import KE.KExcIs
import HandS.Flt
import KE.KEqDict
import PyProof.Rows.SetFrom
import HandS.Strs
import HandS.SetFor
import PySem.Challenge.RW_commonform_k25_first_clashes
set_option Elab.async false
set_option linter.all false
set_option maxRecDepth 100000
set_option maxHeartbeats 0
namespace DV
open PySem PySem.Spec PyProof.Rows L2
abbrev St := L2.St
inductive D where
  | non | bl (b : Bool) | int (i : Int) | str (s : Str) | tup (ds : List D) | loc (l : Nat) | ro (ns : List Int) | exn (c : Str)
inductive AO where
  | lst (ds : List D) | dct (kvs : List (Key × D)) | fdc (kvs : List (Key × D)) | dcT (kvs : List (List Key × D)) | ins (C : Str) (fs : List (Str × D))
abbrev Hs := List AO
abbrev Sl := List (Option D)
inductive R (α : Type) where
  | ok (a : α) (h : Hs) | exc (c : Str) (h : Hs) | bad
def R.bind {α β : Type} (r : R α) (k : α → Hs → R β) : R β := match r with
  | .ok a h => k a h
  | .exc c h => .exc c h
  | .bad => .bad
inductive RS where
  | nx (ds : Sl) (h : Hs) | rt (d : D) (h : Hs) | bk (ds : Sl) (h : Hs) | ct (ds : Sl) (h : Hs) | exc (c : Str) (ds : Sl) (h : Hs) | bad
def lift {α : Type} (r : R α) (ds : Sl) (k : α → Hs → RS) : RS := match r with
  | .ok a h => k a h
  | .exc c h => .exc c ds h
  | .bad => .bad
abbrev EM := Sl → Hs → R D
abbrev AM := Sl → Hs → R (List D)
abbrev TM := Sl → Hs → R Bool
abbrev SM := Sl → Hs → RS
@[simp] theorem R.bind_ok {α β : Type} (a : α) (h : Hs) (k : α → Hs → R β) : (R.ok a h).bind k = k a h := rfl
@[simp] theorem R.bind_exc {α β : Type} (c : Str) (h : Hs) (k : α → Hs → R β) : (R.exc c h).bind k = .exc c h := rfl
@[simp] theorem R.bind_bad {α β : Type} (k : α → Hs → R β) : (R.bad).bind k = .bad := rfl
@[simp] theorem lift_ok {α : Type} (a : α) (h : Hs) (ds : Sl) (k : α → Hs → RS) : lift (R.ok a h) ds k = k a h := rfl
@[simp] theorem lift_exc {α : Type} (c : Str) (h : Hs) (ds : Sl) (k : α → Hs → RS) : lift (R.exc c h) ds k = .exc c ds h := rfl
@[simp] theorem lift_bad {α : Type} (ds : Sl) (k : α → Hs → RS) : lift (R.bad) ds k = .bad := rfl
/-- the script: known, or written -/
def SqR (K : PySem.W.Frag) (H : Hp) (a : Addr) (xs : List V) : Prop :=
  (∃ o, H a = some (.frz o (.lst xs))) ∨ ∃ (o : Obj) (its : Array Value) (n : Nat), K.lookup a = some o ∧ o.cls = .type "list" ∧ o.dict = none ∧ o.data = .seq its n ∧ its.size ≤ sizeLine ∧ Vals xs its.toList
theorem SqR.sq {K : PySem.W.Frag} {H : Hp} {a : Addr} {xs : List V} (h : SqR K H a xs) : SqL K H a xs := by
  rcases h with h | h
  · exact .inl (.inr h)
  · exact .inr h
/-- a caught exception's object -/
def exO (K : PySem.W.Frag) (c : Str) (a : Addr) : HO := .ext fun h => ∃ (oe : Obj) (vs : Array Value), h.get? a = some oe ∧ oe.cls = .ref (He.ga K c) ∧ oe.dict = none ∧ oe.data = .fields vs
variable (K : PySem.W.Frag)
mutual
def RepV (m : List Addr) (H : Hp) : D → V → Prop
  | .non, v => v = .non
  | .bl b, v => v = .bl b
  | .int i, v => v = .int i
  | .str s, v => v = .str s
  | .tup ds, v => ∃ a xs, v = .ref a ∧ H a = some (.tup xs) ∧ RepL m H ds xs
  | .loc l, v => ∃ a, m[l]? = some a ∧ v = .ref a
  | .ro ns, v => ∃ a, v = .ref a ∧ SqR K H a (ns.map V.int)
  | .exn c, v => ∃ a, v = .ref a ∧ H a = some (exO K c a)
def RepL (m : List Addr) (H : Hp) : List D → List V → Prop
  | [], xs => xs = []
  | d :: ds, xs => ∃ x r, xs = x :: r ∧ RepV m H d x ∧ RepL m H ds r
end
variable {K}
/-- what a value leans on goes on -/
structure Grw (m : List Addr) (H : Hp) (m' : List Addr) (H' : Hp) : Prop where
  pre : ∃ r, m' = m ++ r
  tup : ∀ a xs, H a = some (.tup xs) → H' a = some (.tup xs)
  frz : ∀ a o xs, H a = some (.frz o (.lst xs)) → H' a = some (.frz o (.lst xs))
  ext : ∀ a φ, H a = some (.ext φ) → H' a = some (.ext φ)
/-- what goes on: the numbers keep their addresses, the tuples stay, what is locked stays so -/
structure Grow (m : List Addr) (H : Hp) (m' : List Addr) (H' : Hp) : Prop where
  pre : ∃ r, m' = m ++ r
  tup : ∀ a xs, H a = some (.tup xs) → H' a = some (.tup xs)
  frz : ∀ a o u, H a = some (.frz o u) → H' a = some (.frz o u)
  ext : ∀ a φ, H a = some (.ext φ) → H' a = some (.ext φ)
theorem Grow.w {m m' : List Addr} {H H' : Hp} (g : Grow m H m' H') : Grw m H m' H' := ⟨g.pre, g.tup, fun a o _ h => g.frz a o _ h, g.ext⟩
theorem Grow.refl (m : List Addr) (H : Hp) : Grow m H m H := ⟨⟨[], by simp⟩, fun _ _ h => h, fun _ _ _ h => h, fun _ _ h => h⟩
theorem Grow.trans {m m1 m2 : List Addr} {H H1 H2 : Hp} (a : Grow m H m1 H1) (b : Grow m1 H1 m2 H2) : Grow m H m2 H2 := by
  obtain ⟨⟨r, rfl⟩, t, f, x⟩ := a
  obtain ⟨⟨r', rfl⟩, t', f', x'⟩ := b
  exact ⟨⟨r ++ r', by simp⟩, fun x xs h => t' x xs (t x xs h), fun x o xs h => f' x o xs (f x o xs h), fun y φ h => x' y φ (x y φ h)⟩
mutual
theorem RepV.mono0 {m m' : List Addr} {H H' : Hp} (g : Grw m H m' H') : ∀ {d : D} {v : V}, RepV K m H d v → RepV K m' H' d v
  | .non, _, h => h
  | .bl _, _, h => h
  | .int _, _, h => h
  | .str _, _, h => h
  | .tup ds, v, h => by
    unfold RepV at h ⊢
    obtain ⟨a, xs, e, ha, hl⟩ := h
    exact ⟨a, xs, e, g.tup _ _ ha, RepL.mono0 g hl⟩
  | .loc l, v, h => by
    unfold RepV at h ⊢
    obtain ⟨a, ha, e⟩ := h
    obtain ⟨⟨r, rfl⟩, _, _, _⟩ := g
    obtain ⟨hl, _⟩ := List.getElem?_eq_some_iff.mp ha
    exact ⟨a, by rw [List.getElem?_append_left hl]; exact ha, e⟩
  | .exn c, v, h => by
    unfold RepV at h ⊢
    obtain ⟨a, e, q⟩ := h
    exact ⟨a, e, g.ext _ _ q⟩
  | .ro ns, v, h => by
    unfold RepV at h ⊢
    obtain ⟨a, e, q⟩ := h
    refine ⟨a, e, ?_⟩
    rcases q with ⟨o, q⟩ | q
    · exact .inl ⟨o, g.frz _ _ _ q⟩
    · exact .inr q
theorem RepL.mono0 {m m' : List Addr} {H H' : Hp} (g : Grw m H m' H') : ∀ {ds : List D} {xs : List V}, RepL K m H ds xs → RepL K m' H' ds xs
  | [], _, h => h
  | d :: ds, xs, h => by
    unfold RepL at h ⊢
    obtain ⟨x, r, e, h1, h2⟩ := h
    exact ⟨x, r, e, RepV.mono0 g h1, RepL.mono0 g h2⟩
end
theorem RepV.mono {m m' : List Addr} {H H' : Hp} (g : Grow m H m' H') {d : D} {v : V} (h : RepV K m H d v) : RepV K m' H' d v := h.mono0 g.w
theorem RepL.mono {m m' : List Addr} {H H' : Hp} (g : Grow m H m' H') {ds : List D} {xs : List V} (h : RepL K m H ds xs) : RepL K m' H' ds xs := h.mono0 g.w
section
variable {m : List Addr} {H : Hp}
theorem RepL.nil : RepL K m H [] [] := by unfold RepL; rfl
theorem RepL.cons {d : D} {x : V} {ds : List D} {xs : List V} (h : RepV K m H d x) (t : RepL K m H ds xs) : RepL K m H (d :: ds) (x :: xs) := by unfold RepL; exact ⟨x, xs, rfl, h, t⟩
theorem RepL.length : ∀ {ds : List D} {xs : List V}, RepL K m H ds xs → xs.length = ds.length
  | [], xs, h => by unfold RepL at h; subst h; rfl
  | d :: ds, xs, h => by
    unfold RepL at h
    obtain ⟨x, r, rfl, _, h2⟩ := h
    simp [RepL.length h2]
theorem RepL.get : ∀ {ds : List D} {xs : List V} {i : Nat} {d : D}, RepL K m H ds xs → ds[i]? = some d → ∃ x, xs[i]? = some x ∧ RepV K m H d x
  | [], _, _, _, _, e => by simp at e
  | d :: ds, xs, i, d', h, e => by
    unfold RepL at h
    obtain ⟨x, r, rfl, h1, h2⟩ := h
    cases i with
    | zero => simp at e; subst e; exact ⟨x, rfl, h1⟩
    | succ i =>
      obtain ⟨y, hy, hr⟩ := RepL.get (i := i) h2 (by simpa using e)
      exact ⟨y, by simpa using hy, hr⟩
theorem RepL.append : ∀ {ds es : List D} {xs ys : List V}, RepL K m H ds xs → RepL K m H es ys → RepL K m H (ds ++ es) (xs ++ ys)
  | [], _, xs, _, h, t => by unfold RepL at h; subst h; exact t
  | d :: ds, es, xs, ys, h, t => by
    unfold RepL at h
    obtain ⟨x, r, rfl, h1, h2⟩ := h
    exact .cons h1 (RepL.append h2 t)
theorem RepL.set : ∀ {ds : List D} {xs : List V} (i : Nat) {d : D} {x : V}, RepL K m H ds xs → RepV K m H d x → RepL K m H (ds.set i d) (xs.set i x)
  | [], xs, i, _, _, h, _ => by unfold RepL at h; subst h; exact RepL.nil
  | d :: ds, xs, i, e, y, h, t => by
    unfold RepL at h
    obtain ⟨x, r, rfl, h1, h2⟩ := h
    cases i with
    | zero => exact .cons t h2
    | succ i => exact .cons h1 (RepL.set i h2 t)
theorem RepL.take : ∀ {ds : List D} {xs : List V} (n : Nat), RepL K m H ds xs → RepL K m H (ds.take n) (xs.take n)
  | [], xs, n, h => by unfold RepL at h; subst h; cases n <;> exact RepL.nil
  | d :: ds, xs, n, h => by
    unfold RepL at h
    obtain ⟨x, r, rfl, h1, h2⟩ := h
    cases n with
    | zero => exact RepL.nil
    | succ n => exact .cons h1 (RepL.take n h2)
theorem RepL.drop : ∀ {ds : List D} {xs : List V} (n : Nat), RepL K m H ds xs → RepL K m H (ds.drop n) (xs.drop n)
  | [], xs, n, h => by unfold RepL at h; subst h; cases n <;> exact RepL.nil
  | d :: ds, xs, n, h => by
    have h' := h
    unfold RepL at h
    obtain ⟨x, r, rfl, h1, h2⟩ := h
    cases n with
    | zero => exact h'
    | succ n => exact RepL.drop n h2
theorem RepL.nil_iff {ds : List D} {xs : List V} (h : RepL K m H ds xs) : xs = [] ↔ ds = [] := by
  rw [← List.length_eq_zero_iff, ← List.length_eq_zero_iff, h.length]
end
variable (K)
/-- the slots -/
def RepS (m : List Addr) (H : Hp) : Sl → St → Prop
  | [], [] => True
  | od :: ds, ov :: vs => (∀ d, od = some d → ∃ v, ov = some v ∧ RepV K m H d v) ∧ RepS m H ds vs
  | _, _ => False
variable {K}
theorem RepS.mono0 {m m' : List Addr} {H H' : Hp} (g : Grw m H m' H') : ∀ {ds : Sl} {σ : St}, RepS K m H ds σ → RepS K m' H' ds σ
  | [], [], _ => trivial
  | _ :: _, _ :: _, ⟨a, b⟩ => ⟨fun d e => let ⟨v, e1, r⟩ := a d e; ⟨v, e1, r.mono0 g⟩, RepS.mono0 g b⟩
  | [], _ :: _, h => h.elim
  | _ :: _, [], h => h.elim
theorem RepS.mono {m m' : List Addr} {H H' : Hp} (g : Grow m H m' H') {ds : Sl} {σ : St} (h : RepS K m H ds σ) : RepS K m' H' ds σ := h.mono0 g.w
theorem RepS.get {m : List Addr} {H : Hp} : ∀ {ds : Sl} {σ : St} {i : Nat} {d : D}, RepS K m H ds σ → ds[i]? = some (some d) → ∃ v, σ[i]? = some (some v) ∧ RepV K m H d v
  | [], _, _, _, _, e => by simp at e
  | _ :: _, [], _, _, h, _ => h.elim
  | od :: ds, ov :: vs, 0, d, ⟨a, _⟩, e => by
    simp at e
    obtain ⟨v, e1, r⟩ := a d e
    exact ⟨v, by simp [e1], r⟩
  | od :: ds, ov :: vs, i + 1, d, ⟨_, b⟩, e => by
    obtain ⟨v, e1, r⟩ := RepS.get (i := i) b (by simpa using e)
    exact ⟨v, by simpa using e1, r⟩
theorem RepS.set {m : List Addr} {H : Hp} {od : Option D} {ov : Option V} (h : ∀ d, od = some d → ∃ v, ov = some v ∧ RepV K m H d v) : ∀ {ds : Sl} {σ : St} (i : Nat), RepS K m H ds σ → RepS K m H (ds.set i od) (σ.set i ov)
  | [], [], _, _ => trivial
  | [], _ :: _, _, h => h.elim
  | _ :: _, [], _, h => h.elim
  | _ :: _, _ :: _, 0, ⟨_, b⟩ => ⟨h, b⟩
  | _ :: _, _ :: _, i + 1, ⟨a, b⟩ => ⟨a, RepS.set h i b⟩
theorem RepS.put {m : List Addr} {H : Hp} {d : D} {v : V} {ds : Sl} {σ : St} (i : Nat) (r : RepS K m H ds σ) (h : RepV K m H d v) : RepS K m H (ds.set i (some d)) (σ.set i (some v)) :=
  r.set (fun _ e => by cases e; exact ⟨v, rfl, h⟩) i
theorem RepS.forget {m : List Addr} {H : Hp} {ds : Sl} {σ : St} (i : Nat) (r : RepS K m H ds σ) (ov : Option V) : RepS K m H (ds.set i none) (σ.set i ov) :=
  r.set (fun _ e => by cases e) i
theorem RepS.length {m : List Addr} {H : Hp} : ∀ {ds : Sl} {σ : St}, RepS K m H ds σ → ds.length = σ.length
  | [], [], _ => rfl
  | [], _ :: _, h => h.elim
  | _ :: _, [], h => h.elim
  | _ :: _, _ :: _, ⟨_, b⟩ => by simp [RepS.length b]
variable (K) in
/-- the attributes of an instance -/
def RepF (m : List Addr) (H : Hp) (fs : List (Str × D)) (xs : List (Str × V)) : Prop := fs.map (·.1) = xs.map (·.1) ∧ RepL K m H (fs.map (·.2)) (xs.map (·.2))
/-- keys by value -/
def keyD : D → Option Key
  | .int i => some (.inl i)
  | .str s => some (.inr s)
  | _ => none
variable (K) in
def RepO (m : List Addr) (H : Hp) (a : Addr) : AO → Prop
  | .lst ds => ∃ xs, H a = some (.lst xs) ∧ RepL K m H ds xs
  | .dct kvs => ∃ ks : List (Key × V), H a = some (.dK ks) ∧ kvs.map (·.1) = ks.map (·.1) ∧ RepL K m H (kvs.map (·.2)) (ks.map (·.2))
  | .fdc kvs => ∃ (o : Obj) (ks : List (Key × V)), H a = some (.frz o (.dK ks)) ∧ kvs.map (·.1) = ks.map (·.1) ∧ RepL K m H (kvs.map (·.2)) (ks.map (·.2))
  | .dcT kvs => ∃ ks : List (List Key × V), H a = some (.dT ks) ∧ kvs.map (·.1) = ks.map (·.1) ∧ RepL K m H (kvs.map (·.2)) (ks.map (·.2))
  | .ins C fs => ∃ dx xs, H a = some (.ins (He.ga K C) dx xs) ∧ RepF K m H fs xs
variable (K) in
structure RepH (m : List Addr) (H : Hp) (h : Hs) : Prop where
  len : m.length = h.length
  nd : m.Nodup
  at_ : ∀ (i : Nat) (a : Addr) (o : AO), m[i]? = some a → h[i]? = some o → RepO K m H a o
theorem RepO.some {m : List Addr} {H : Hp} {a : Addr} {o : AO} (r : RepO K m H a o) : H a ≠ none := by
  cases o with
  | lst ds => obtain ⟨xs, e, _⟩ := r; rw [e]; exact fun z => nomatch z
  | dct kvs => obtain ⟨xs, e, _⟩ := r; rw [e]; exact fun z => nomatch z
  | fdc kvs => obtain ⟨o, xs, e, _⟩ := r; rw [e]; exact fun z => nomatch z
  | dcT kvs => obtain ⟨xs, e, _⟩ := r; rw [e]; exact fun z => nomatch z
  | ins C fs => obtain ⟨dx, xs, e, _⟩ := r; rw [e]; exact fun z => nomatch z
structure Cfg where
  K : PySem.W.Frag
  W : WX
def OutE (g : Cfg) (m : List Addr) (H : Hp) (σ : St) (Q : VK) : R D → Prop
  | .ok d h' => ∀ v m' H', Grow m H m' H' → RepV g.K m' H' d v → RepH g.K m' H' h' → Q v H'
  | .exc c h' => ∀ m' H', Grow m H m' H' → RepH g.K m' H' h' → g.W (.ref (He.ga g.K c)) none σ H'
  | .bad => False
def OutA (g : Cfg) (m : List Addr) (H : Hp) (σ : St) (Q : List V → Hp → Prop) : R (List D) → Prop
  | .ok ds h' => ∀ vs m' H', Grow m H m' H' → RepL g.K m' H' ds vs → RepH g.K m' H' h' → Q vs H'
  | .exc c h' => ∀ m' H', Grow m H m' H' → RepH g.K m' H' h' → g.W (.ref (He.ga g.K c)) none σ H'
  | .bad => False
def OutT (g : Cfg) (m : List Addr) (H : Hp) (σ : St) (Q : Bool → Hp → Prop) : R Bool → Prop
  | .ok b h' => ∀ m' H', Grow m H m' H' → RepH g.K m' H' h' → Q b H'
  | .exc c h' => ∀ m' H', Grow m H m' H' → RepH g.K m' H' h' → g.W (.ref (He.ga g.K c)) none σ H'
  | .bad => False
def OutS (g : Cfg) (m : List Addr) (H : Hp) (N : Ends) : RS → Prop
  | .nx ds h' => ∀ σ' m' H', Grow m H m' H' → RepS g.K m' H' ds σ' → RepH g.K m' H' h' → N.nx σ' H'
  | .rt d h' => ∀ v m' H', Grow m H m' H' → RepV g.K m' H' d v → RepH g.K m' H' h' → N.rt v H'
  | .bk ds h' => ∀ σ' m' H', Grow m H m' H' → RepS g.K m' H' ds σ' → RepH g.K m' H' h' → N.bk σ' H'
  | .ct ds h' => ∀ σ' m' H', Grow m H m' H' → RepS g.K m' H' ds σ' → RepH g.K m' H' h' → N.ct σ' H'
  | .exc c ds h' => ∀ σ' m' H', Grow m H m' H' → RepS g.K m' H' ds σ' → RepH g.K m' H' h' → g.W (.ref (He.ga g.K c)) none σ' H'
  | .bad => False
def tM (g : Cfg) (M : EM) : TE := fun σ H Q => ∃ m ds h, RepS g.K m H ds σ ∧ RepH g.K m H h ∧ OutE g m H σ Q (M ds h)
def tA (g : Cfg) (M : AM) : TA := fun σ H Q => ∃ m ds h, RepS g.K m H ds σ ∧ RepH g.K m H h ∧ OutA g m H σ Q (M ds h)
def tT (g : Cfg) (M : TM) : TT := fun σ H Q => ∃ m ds h, RepS g.K m H ds σ ∧ RepH g.K m H h ∧ OutT g m H σ Q (M ds h)
def tS (g : Cfg) (M : SM) : TS := fun N σ H => ∃ m ds h, RepS g.K m H ds σ ∧ RepH g.K m H h ∧ OutS g m H N (M ds h)
section
variable {g : Cfg} {m m' : List Addr} {H H' : Hp} {σ : St}
theorem OutE.mono {Q : VK} {r : R D} (o : OutE g m H σ Q r) (w : Grow m H m' H') : OutE g m' H' σ Q r := by
  cases r with
  | ok d h => exact fun v m2 H2 w2 => o v m2 H2 (w.trans w2)
  | exc c h => exact fun m2 H2 w2 => o m2 H2 (w.trans w2)
  | bad => exact o
theorem OutA.mono {Q : List V → Hp → Prop} {r : R (List D)} (o : OutA g m H σ Q r) (w : Grow m H m' H') : OutA g m' H' σ Q r := by
  cases r with
  | ok d h => exact fun v m2 H2 w2 => o v m2 H2 (w.trans w2)
  | exc c h => exact fun m2 H2 w2 => o m2 H2 (w.trans w2)
  | bad => exact o
theorem OutT.mono {Q : Bool → Hp → Prop} {r : R Bool} (o : OutT g m H σ Q r) (w : Grow m H m' H') : OutT g m' H' σ Q r := by
  cases r with
  | ok d h => exact fun m2 H2 w2 => o m2 H2 (w.trans w2)
  | exc c h => exact fun m2 H2 w2 => o m2 H2 (w.trans w2)
  | bad => exact o
theorem OutS.mono {N : Ends} {r : RS} (o : OutS g m H N r) (w : Grow m H m' H') : OutS g m' H' N r := by
  cases r with
  | nx ds h => exact fun σ2 m2 H2 w2 => o σ2 m2 H2 (w.trans w2)
  | rt d h => exact fun v m2 H2 w2 => o v m2 H2 (w.trans w2)
  | bk ds h => exact fun σ2 m2 H2 w2 => o σ2 m2 H2 (w.trans w2)
  | ct ds h => exact fun σ2 m2 H2 w2 => o σ2 m2 H2 (w.trans w2)
  | exc c ds h => exact fun σ2 m2 H2 w2 => o σ2 m2 H2 (w.trans w2)
  | bad => exact o
/-- an expression's value taken on -/
theorem OutE.toE {Q Q' : VK} {r : R D} {k : D → Hs → R D} (o : OutE g m H σ Q (r.bind k)) (f : ∀ d h' v m' H', Grow m H m' H' → RepV g.K m' H' d v → RepH g.K m' H' h' → OutE g m' H' σ Q (k d h') → Q' v H') : OutE g m H σ Q' r := by
  cases r with
  | ok d h => exact fun v m' H' w rv rh => f d h v m' H' w rv rh (OutE.mono o w)
  | exc c h => exact o
  | bad => exact o
theorem OutE.toA {Q : List V → Hp → Prop} {Q' : VK} {r : R D} {k : D → Hs → R (List D)} (o : OutA g m H σ Q (r.bind k)) (f : ∀ d h' v m' H', Grow m H m' H' → RepV g.K m' H' d v → RepH g.K m' H' h' → OutA g m' H' σ Q (k d h') → Q' v H') : OutE g m H σ Q' r := by
  cases r with
  | ok d h => exact fun v m' H' w rv rh => f d h v m' H' w rv rh (OutA.mono o w)
  | exc c h => exact o
  | bad => exact o
theorem OutE.toT {Q : Bool → Hp → Prop} {Q' : VK} {r : R D} {k : D → Hs → R Bool} (o : OutT g m H σ Q (r.bind k)) (f : ∀ d h' v m' H', Grow m H m' H' → RepV g.K m' H' d v → RepH g.K m' H' h' → OutT g m' H' σ Q (k d h') → Q' v H') : OutE g m H σ Q' r := by
  cases r with
  | ok d h => exact fun v m' H' w rv rh => f d h v m' H' w rv rh (OutT.mono o w)
  | exc c h => exact o
  | bad => exact o
theorem OutE.toS {N : Ends} {Q' : VK} {r : R D} {ds : Sl} {k : D → Hs → RS} (hs : RepS g.K m H ds σ) (o : OutS g m H N (lift r ds k)) (f : ∀ d h' v m' H', Grow m H m' H' → RepV g.K m' H' d v → RepH g.K m' H' h' → OutS g m' H' N (k d h') → Q' v H') : OutE g m H σ Q' r := by
  cases r with
  | ok d h => exact fun v m' H' w rv rh => f d h v m' H' w rv rh (OutS.mono o w)
  | exc c h => exact fun m' H' w rh => o σ m' H' w (hs.mono w) rh
  | bad => exact o
theorem OutA.toE {Q : VK} {Q' : List V → Hp → Prop} {r : R (List D)} {k : List D → Hs → R D} (o : OutE g m H σ Q (r.bind k)) (f : ∀ d h' v m' H', Grow m H m' H' → RepL g.K m' H' d v → RepH g.K m' H' h' → OutE g m' H' σ Q (k d h') → Q' v H') : OutA g m H σ Q' r := by
  cases r with
  | ok d h => exact fun v m' H' w rv rh => f d h v m' H' w rv rh (OutE.mono o w)
  | exc c h => exact o
  | bad => exact o
theorem OutA.toA {Q : List V → Hp → Prop} {Q' : List V → Hp → Prop} {r : R (List D)} {k : List D → Hs → R (List D)} (o : OutA g m H σ Q (r.bind k)) (f : ∀ d h' v m' H', Grow m H m' H' → RepL g.K m' H' d v → RepH g.K m' H' h' → OutA g m' H' σ Q (k d h') → Q' v H') : OutA g m H σ Q' r := by
  cases r with
  | ok d h => exact fun v m' H' w rv rh => f d h v m' H' w rv rh (OutA.mono o w)
  | exc c h => exact o
  | bad => exact o
theorem OutT.toT {Q : Bool → Hp → Prop} {Q' : Bool → Hp → Prop} {r : R Bool} {k : Bool → Hs → R Bool} (o : OutT g m H σ Q (r.bind k)) (f : ∀ b h' m' H', Grow m H m' H' → RepH g.K m' H' h' → OutT g m' H' σ Q (k b h') → Q' b H') : OutT g m H σ Q' r := by
  cases r with
  | ok d h => exact fun m' H' w rh => f d h m' H' w rh (OutT.mono o w)
  | exc c h => exact o
  | bad => exact o
theorem OutT.toS {N : Ends} {Q' : Bool → Hp → Prop} {r : R Bool} {ds : Sl} {k : Bool → Hs → RS} (hs : RepS g.K m H ds σ) (o : OutS g m H N (lift r ds k)) (f : ∀ b h' m' H', Grow m H m' H' → RepH g.K m' H' h' → OutS g m' H' N (k b h') → Q' b H') : OutT g m H σ Q' r := by
  cases r with
  | ok d h => exact fun m' H' w rh => f d h m' H' w rh (OutS.mono o w)
  | exc c h => exact fun m' H' w rh => o σ m' H' w (hs.mono w) rh
  | bad => exact o
end
end DV
namespace DV
open PySem PySem.Spec PyProof.Rows L2
section
variable {K : PySem.W.Frag} {m m' : List Addr} {H H' : Hp} {h : Hs} {p a : Addr} {o u : HO} {ao : AO}
theorem RepH.fresh (r : RepH K m H h) (n : H p = none) : p ∉ m := fun hm => by
  obtain ⟨i, hi⟩ := List.mem_iff_getElem?.mp hm
  obtain ⟨hl, _⟩ := List.getElem?_eq_some_iff.mp hi
  have hl' : i < h.length := by rw [← r.len]; exact hl
  exact (r.at_ i p _ hi (List.getElem?_eq_getElem hl')).some n
theorem RepO.keep0 (r : RepO K m H a ao) (g : Grw m H m' H') (e : H' a = H a) : RepO K m' H' a ao := by
  cases ao with
  | lst ds => obtain ⟨xs, q, l⟩ := r; exact ⟨xs, e.trans q, l.mono0 g⟩
  | dct kvs => obtain ⟨xs, q, k, l⟩ := r; exact ⟨xs, e.trans q, k, l.mono0 g⟩
  | fdc kvs => obtain ⟨o, xs, q, k, l⟩ := r; exact ⟨o, xs, e.trans q, k, l.mono0 g⟩
  | dcT kvs => obtain ⟨xs, q, k, l⟩ := r; exact ⟨xs, e.trans q, k, l.mono0 g⟩
  | ins C fs => obtain ⟨dx, xs, q, k, l⟩ := r; exact ⟨dx, xs, e.trans q, k, l.mono0 g⟩
theorem RepO.keep (r : RepO K m H a ao) (g : Grow m H m' H') (e : H' a = H a) : RepO K m' H' a ao := r.keep0 g.w e
theorem Grow.put (n : H p = none) : Grow m H m (upd H p o) :=
  ⟨⟨[], by simp⟩, fun b xs e => by rw [upd_ne (ne_of_none e n)]; exact e, fun b o xs e => by rw [upd_ne (ne_of_none e n)]; exact e, fun b o e => by rw [upd_ne (ne_of_none e n)]; exact e⟩
theorem Grow.app (n : H p = none) : Grow m H (m ++ [p]) (upd H p o) := ⟨⟨[p], rfl⟩, (Grow.put (m := m) n).tup, (Grow.put (m := m) n).frz, (Grow.put (m := m) n).ext⟩
theorem RepH.put (r : RepH K m H h) (n : H p = none) : RepH K m (upd H p o) h :=
  ⟨r.len, r.nd, fun i b ob hi hb => (r.at_ i b ob hi hb).keep (.put n) (upd_ne fun z => r.fresh n (by rw [← z]; exact List.mem_of_getElem? hi))⟩
theorem RepH.new (r : RepH K m H h) (n : H p = none) (new : RepO K (m ++ [p]) (L2.upd H p o) p ao) : RepH K (m ++ [p]) (L2.upd H p o) (h ++ [ao]) := by
  have fr := r.fresh n
  refine ⟨by simp [r.len], ?_, fun i b ob hi hb => ?_⟩
  · exact List.nodup_append.mpr ⟨r.nd, by simp, fun x hx y hy z => fr (by simp at hy; rw [← hy, ← z]; exact hx)⟩
  · by_cases hl : i < m.length
    · rw [List.getElem?_append_left hl] at hi
      rw [List.getElem?_append_left (by rw [← r.len]; exact hl)] at hb
      exact (r.at_ i b ob hi hb).keep (.app n) (upd_ne fun z => fr (by rw [← z]; exact List.mem_of_getElem? hi))
    · have hz : i = m.length := by
        obtain ⟨q, _⟩ := List.getElem?_eq_some_iff.mp hi
        simp at q; omega
      subst hz
      simp at hi
      rw [r.len] at hb
      simp at hb
      subst hi hb
      exact new
/-- an object written -/
theorem Grow.write (e : H a = some u) (n1 : ∀ xs, u ≠ .tup xs) (n2 : ∀ o v, u ≠ .frz o v) (n3 : ∀ φ, u ≠ .ext φ) : Grow m H m (L2.upd H a o) :=
  ⟨⟨[], by simp⟩, fun b xs q => by rw [upd_ne (fun z => n1 xs (by rw [z, e] at q; exact Option.some.inj q))]; exact q,
    fun b o xs q => by rw [upd_ne (fun z => n2 o xs (by rw [z, e] at q; exact Option.some.inj q))]; exact q,
    fun b φ q => by rw [upd_ne (fun z => n3 φ (by rw [z, e] at q; exact Option.some.inj q))]; exact q⟩
theorem RepH.write {l : Nat} (r : RepH K m H h) (hl : m[l]? = some a) (e : H a = some u) (n1 : ∀ xs, u ≠ .tup xs) (n2 : ∀ o v, u ≠ .frz o v) (n3 : ∀ φ, u ≠ .ext φ) (new : RepO K m (L2.upd H a o) a ao) : RepH K m (L2.upd H a o) (h.set l ao) := by
  refine ⟨by simp [r.len], r.nd, fun i b ob hi hb => ?_⟩
  by_cases z : i = l
  · subst z
    rw [hl] at hi; cases hi
    obtain ⟨q, hq⟩ := List.getElem?_eq_some_iff.mp hb
    simp at q hq
    subst hq
    exact new
  · rw [List.getElem?_set_ne (Ne.symm z)] at hb
    refine (r.at_ i b ob hi hb).keep (.write e n1 n2 n3) (upd_ne fun w => z ?_)
    subst w
    obtain ⟨q1, e1⟩ := List.getElem?_eq_some_iff.mp hi
    obtain ⟨q2, e2⟩ := List.getElem?_eq_some_iff.mp hl
    exact (List.getElem_inj r.nd).mp (e1.trans e2.symm)
theorem RepH.lst {l : Nat} {ds : List D} (r : RepH K m H h) (hl : m[l]? = some a) (e : h[l]? = some (.lst ds)) : ∃ xs, H a = some (.lst xs) ∧ RepL K m H ds xs := r.at_ l a _ hl e
end
abbrev Res := Option (D × Hs)
abbrev VF2 := D → D → Hs → Res
def R.ofO : Res → R D
  | some p => .ok p.1 p.2
  | none => .bad
@[simp] theorem R.ofO_some (d : D) (h : Hs) : R.ofO (some (d, h)) = .ok d h := rfl
@[simp] theorem R.ofO_none : R.ofO none = .bad := rfl
def OutV (K : PySem.W.Frag) (m : List Addr) (H : Hp) (Q : VK) : Res → Prop
  | some p => ∀ v m' H', Grow m H m' H' → RepV K m' H' p.1 v → RepH K m' H' p.2 → Q v H'
  | none => False
def rV (K : PySem.W.Frag) (F : VF2) : R2 := fun x y H Q => ∃ m h dx dy, RepV K m H dx x ∧ RepV K m H dy y ∧ RepH K m H h ∧ OutV K m H Q (F dx dy h)
theorem OutV.of {g : Cfg} {m : List Addr} {H : Hp} {σ : St} {Q : VK} {r : Res} (o : OutE g m H σ Q (.ofO r)) : OutV g.K m H Q r := by
  cases r with
  | some p => exact o
  | none => exact o
/-- a value told, the heap as it is -/
theorem OutV.keep {K : PySem.W.Frag} {m : List Addr} {H : Hp} {h : Hs} {Q : VK} {d : D} {v : V} (o : OutV K m H Q (some (d, h))) (r : RepV K m H d v) (rh : RepH K m H h) : Q v H := o v m H (.refl _ _) r rh
theorem PE.weak {X : Cx} {e : Expr} {t t' : TE} (p : PE X e t) (w : ∀ σ H Q, t' σ H Q → t σ H Q) : PE X e t' := ⟨fun pns s σ H Q I h => p.run pns s σ H Q I (w σ H Q h)⟩
theorem PT.weak {X : Cx} {e : Expr} {t t' : TT} (p : PT X e t) (w : ∀ σ H Q, t' σ H Q → t σ H Q) : PT X e t' := ⟨fun pns s σ H Q I h => p.run pns s σ H Q I (w σ H Q h)⟩
theorem PW.weak {X : Cx} {e : Expr} {t t' : TT} (p : PW X e t) (w : ∀ σ H Q, t' σ H Q → t σ H Q) : PW X e t' := ⟨fun wh pns s σ H Q I h => p.run wh pns s σ H Q I (w σ H Q h)⟩
theorem PA.weak {X : Cx} {e : List Expr} {t t' : TA} (p : PA X e t) (w : ∀ σ H Q, t' σ H Q → t σ H Q) : PA X e t' := ⟨fun pos pns s σ H Q I h => p.run pos pns s σ H Q I (w σ H Q h)⟩
theorem PS.weak {X : Cx} {e : Stmt} {t t' : TS} (p : PS X e t) (w : ∀ N σ H, t' N σ H → t N σ H) : PS X e t' := ⟨fun pns s σ H Q I h => p.run pns s σ H Q I (w Q σ H h)⟩
theorem PSs.weak {X : Cx} {e : List Stmt} {t t' : TS} (p : PSs X e t) (w : ∀ N σ H, t' N σ H → t N σ H) : PSs X e t' := ⟨fun pns s σ H Q I h => p.run pns s σ H Q I (w Q σ H h)⟩
def cM (d : D) : EM := fun _ h => .ok d h
def vM (i : Nat) : EM := fun ds h => match ds[i]? with
  | some (some d) => .ok d h
  | _ => .bad
def binM (F : VF2) (A B : EM) : EM := fun ds h => (A ds h).bind fun x h => (B ds h).bind fun y h => .ofO (F x y h)
def unM (F : D → Hs → Res) (A : EM) : EM := fun ds h => (A ds h).bind fun x h => .ofO (F x h)
def nilA : AM := fun _ h => .ok [] h
def consA (A : EM) (B : AM) : AM := fun ds h => (A ds h).bind fun x h => (B ds h).bind fun xs h => .ok (x :: xs) h
abbrev LIM : Nat := 16777216
def tupF (xs : List D) (h : Hs) : Res := if xs.length ≤ LIM then some (.tup xs, h) else none
def lstF (xs : List D) (h : Hs) : Res := if xs.length ≤ LIM then some (.loc h.length, h ++ [.lst xs]) else none
def argM (F : List D → Hs → Res) (A : AM) : EM := fun ds h => (A ds h).bind fun xs h => .ofO (F xs h)
/-- a value as a test: a truth -/
def tbM (A : EM) : TM := fun ds h => (A ds h).bind fun d h => match d with
  | .bl b => .ok b h
  | _ => .bad
def truD : D → Hs → Option Bool
  | .non, _ => some false
  | .bl b, _ => some b
  | .int i, _ => some (i != 0)
  | .str s, _ => if s.length ≤ LIM then some ((s.length : Int) != 0) else none
  | .tup ds, _ => some (!ds.isEmpty)
  | .loc l, h => match h[l]? with
    | some (.lst ds) => some (!ds.isEmpty)
    | _ => none
  | _, _ => none
def truM (A : EM) : TM := fun ds h => (A ds h).bind fun d h => match truD d h with
  | some b => .ok b h
  | none => .bad
def andM (A B : TM) : TM := fun ds h => (A ds h).bind fun b h => if b = true then B ds h else .ok false h
def orM (A B : TM) : TM := fun ds h => (A ds h).bind fun b h => if b = true then .ok true h else B ds h
def notM (A : TM) : TM := fun ds h => (A ds h).bind fun b h => .ok (!b) h
def andV (A B : EM) : EM := fun ds h => (A ds h).bind fun d h => match d with
  | .bl b => if b = true then B ds h else .ok (.bl false) h
  | _ => .bad
def orV (A B : EM) : EM := fun ds h => (A ds h).bind fun d h => match d with
  | .bl b => if b = true then .ok (.bl true) h else B ds h
  | _ => .bad
def notV (A : EM) : EM := fun ds h => (A ds h).bind fun d h => match d with
  | .bl b => .ok (.bl (!b)) h
  | _ => .bad
def chainM (F G : VF2) (A B C : EM) : EM := fun ds h => (A ds h).bind fun x h => (B ds h).bind fun y h => (R.ofO (F x y h)).bind fun z h => match z with
  | .bl b => if b = true then (C ds h).bind fun w h => .ofO (G y w h) else .ok (.bl false) h
  | _ => .bad
def ifE (T : TM) (A B : EM) : EM := fun ds h => (T ds h).bind fun b h => if b = true then A ds h else B ds h
section
variable {X : Cx} {g : Cfg} {e a b c : Expr} {es : List Expr} {A B C : EM} {pos : Pos} {F G : VF2}
theorem em_const {v : V} {d : D} (p : PE X e (tC v)) (r : ∀ m H, RepV g.K m H d v) : PE X e (tM g (cM d)) := PE.weak p fun σ H Q ⟨m, ds, h, hs, rh, o⟩ => o v m H (.refl _ _) (r m H) rh
theorem em_int {i : Int} {j pos} : PE X (.Constant (.int i) j pos) (tM g (cM (.int i))) := em_const pe_int fun m H => by unfold RepV; rfl
theorem em_str {i : Str} {j pos} : PE X (.Constant (.str i) j pos) (tM g (cM (.str i))) := em_const pe_str fun m H => by unfold RepV; rfl
theorem em_bl {i : Bool} {j pos} : PE X (.Constant (.bool i) j pos) (tM g (cM (.bl i))) := em_const pe_bl fun m H => by unfold RepV; rfl
theorem em_non {j pos} : PE X (.Constant .none j pos) (tM g (cM .non)) := em_const pe_non fun m H => by unfold RepV; rfl
theorem em_v {i : Nat} (p : PE X e (tVar i)) : PE X e (tM g (vM i)) := PE.weak p fun σ H Q ⟨m, ds, h, hs, rh, o⟩ => by
  unfold vM at o
  split at o
  · rename_i d hd
    obtain ⟨v, e1, r⟩ := hs.get hd
    exact ⟨v, e1, o v m H (.refl _ _) r rh⟩
  · exact o.elim
theorem bin_read {σ : St} {H : Hp} {Q : VK} (q : tM g (binM F A B) σ H Q) : tOp (rV g.K F) (tM g A) (tM g B) σ H Q := by
  obtain ⟨m, ds, h, hs, rh, o⟩ := q
  refine ⟨m, ds, h, hs, rh, OutE.toE o fun d1 h1 v1 m1 H1 g1 r1 rh1 o1 => ?_⟩
  refine ⟨m1, ds, h1, hs.mono g1, rh1, OutE.toE o1 fun d2 h2 v2 m2 H2 g2 r2 rh2 o2 => ?_⟩
  exact ⟨m2, h2, d1, d2, r1.mono g2, r2, rh2, .of o2⟩
theorem em_bin {op : Operator} (ho : OpR X (binaryOp op) (rV g.K F)) (ha : PE X a (tM g A)) (hb : PE X b (tM g B)) : PE X (.BinOp a op b pos) (tM g (binM F A B)) := PE.weak (pe_op ho ha hb) fun _ _ _ => bin_read
theorem em_cmp {op : CmpOp} (ho : OpR X (compareOp op) (rV g.K F)) (ha : PE X a (tM g A)) (hb : PE X b (tM g B)) (hm : behindInMarks op b = false) : PE X (.Compare a [op] [b] pos) (tM g (binM F A B)) := PE.weak (pe_cmpR ho ha hb hm) fun _ _ _ => bin_read
theorem em_ix (ho : IxR X (rV g.K F)) (ha : PE X a (tM g A)) (hb : PE X b (tM g B)) (hs : PlainIx b) : PE X (.Subscript a b pos) (tM g (binM F A B)) := PE.weak (pe_ix ho ha hb hs) fun _ _ _ => bin_read
theorem tb_read {σ : St} {H : Hp} {Q : Bool → Hp → Prop} (q : tT g (tbM A) σ H Q) : tM g A σ H fun x H' => ∃ k, x = .bl k ∧ Q k H' := by
  obtain ⟨m, ds, h, hs, rh, o⟩ := q
  refine ⟨m, ds, h, hs, rh, OutE.toT o fun d h' v m' H' w rv rh' o' => ?_⟩
  cases d with
  | bl b => exact ⟨b, by unfold RepV at rv; exact rv, o' m' H' (.refl _ _) rh'⟩
  | _ => exact (show False from o').elim
/-- comparisons as tests -/
theorem tm_cmp {op : CmpOp} (ho : OpR X (compareOp op) (rV g.K F)) (ha : PE X a (tM g A)) (hb : PE X b (tM g B)) (hm : behindInMarks op b = false) : PT X (.Compare a [op] [b] pos) (tT g (tbM (binM F A B))) :=
  PT.weak (pt_cmpR ho ha hb hm) fun σ H Q q => bin_read (tb_read q)
theorem chain_read {σ : St} {H : Hp} {Q : VK} (q : tM g (chainM F G A B C) σ H Q) : tChain (rV g.K F) (rV g.K G) (tM g A) (tM g B) (tM g C) σ H Q := by
  obtain ⟨m, ds, h, hs, rh, o⟩ := q
  refine ⟨m, ds, h, hs, rh, OutE.toE o fun d1 h1 v1 m1 H1 g1 r1 rh1 o1 => ?_⟩
  refine ⟨m1, ds, h1, hs.mono g1, rh1, OutE.toE o1 fun d2 h2 v2 m2 H2 g2 r2 rh2 o2 => ?_⟩
  refine ⟨m2, h2, d1, d2, r1.mono g2, r2, rh2, OutV.of (OutE.toE o2 fun d3 h3 v3 m3 H3 g3 r3 rh3 o3 => ?_)⟩
  cases d3 with
  | bl k =>
    refine ⟨k, by unfold RepV at r3; exact r3, ?_⟩
    have o3 : OutE g m3 H3 σ Q (if k = true then (C ds h3).bind fun w h => .ofO (G d2 w h) else .ok (.bl false) h3) := o3
    cases k with
    | true =>
      rw [if_pos rfl] at o3 ⊢
      refine ⟨m3, ds, h3, (hs.mono g1).mono (g2.trans g3), rh3, OutE.toE o3 fun d4 h4 v4 m4 H4 g4 r4 rh4 o4 => ?_⟩
      exact ⟨m4, h4, d2, d4, r2.mono (g3.trans g4), r4, rh4, .of o4⟩
    | false =>
      rw [if_neg Bool.false_ne_true] at o3 ⊢
      exact o3 _ m3 H3 (.refl _ _) (by unfold RepV; rfl) rh3
  | _ => exact (show False from o3).elim
theorem em_chain {op op' : CmpOp} (ho : OpR X (compareOp op) (rV g.K F)) (ho' : OpR X (compareOp op') (rV g.K G)) (ha : PE X a (tM g A)) (hb : PE X b (tM g B)) (hc : PE X c (tM g C))
    (hm : lastMarks [op, op'] [b, c] = false := by with_unfolding_all rfl) : PE X (.Compare a [op, op'] [b, c] pos) (tM g (chainM F G A B C)) := PE.weak (pe_chain ho ho' ha hb hc hm) fun _ _ _ => chain_read
/-- any value as a test -/
theorem tm_tru (ha : PE X a (tM g A)) (hK : X.K = g.K) (he : ∀ whole, isTrue a X.env whole = (do let v ← whole; standAt a.pos; holding [v] (truthy v)) := by intro _; rfl) : PT X a (tT g (truM A)) := by
  refine PT.weak (pt_truth ha he) fun σ H Q ⟨m, ds, h, hs, rh, o⟩ => ⟨m, ds, h, hs, rh, OutE.toT o fun d h' v m' H' w rv rh' o' => ?_⟩
  have fin : ∀ {b : Bool}, OutT g m' H' σ Q (.ok b h') → Q b H' := fun q => q m' H' (.refl _ _) rh'
  have ls : sizeLine = 16777216 := sizeLine_eq
  cases d with
  | non => unfold RepV at rv; subst rv; exact ⟨false, rfl, fin o'⟩
  | bl b => unfold RepV at rv; subst rv; exact ⟨b, rfl, fin o'⟩
  | int i => unfold RepV at rv; subst rv; exact ⟨_, rfl, fin o'⟩
  | str s =>
    unfold RepV at rv; subst rv
    by_cases hz : s.length ≤ LIM
    · refine ⟨_, ⟨by rw [ls]; exact hz, rfl⟩, fin ?_⟩
      have e : truD (.str s) h' = some ((s.length : Int) != 0) := if_pos hz
      simpa only [e] using o'
    · have e : truD (.str s) h' = none := if_neg hz
      simp only [e] at o'
      exact o'.elim
  | tup xs =>
    unfold RepV at rv
    obtain ⟨p, vs, rfl, hp, rl⟩ := rv
    refine ⟨!vs.isEmpty, .inr (.inl ⟨vs, SqT.of hp, rfl⟩), ?_⟩
    have e : vs.isEmpty = xs.isEmpty := by
      rw [Bool.eq_iff_iff, List.isEmpty_iff, List.isEmpty_iff]; exact rl.nil_iff
    rw [e]
    exact fin o'
  | loc l =>
    unfold RepV at rv
    obtain ⟨p, hp, rfl⟩ := rv
    cases q : h'[l]? with
    | none => simp only [truD, q] at o'; exact o'.elim
    | some ao =>
      cases ao with
      | lst xs =>
        obtain ⟨vs, hv, rl⟩ := rh'.lst hp q
        refine ⟨!vs.isEmpty, .inl ⟨vs, SqL.of hv, rfl⟩, ?_⟩
        have e : vs.isEmpty = xs.isEmpty := by
          rw [Bool.eq_iff_iff, List.isEmpty_iff, List.isEmpty_iff]; exact rl.nil_iff
        rw [e]
        simp only [truD, q] at o'
        exact fin o'
      | _ => simp only [truD, q] at o'; exact o'.elim
  | exn c => exact (show False from o').elim
  | ro ns => exact (show False from o').elim
theorem tm_and1 {T : TM} (ha : PT X a (tT g T)) : PW X (.BoolOp .And [a] pos) (tT g T) := pw_and1 ha
theorem tm_or1 {T : TM} (ha : PT X a (tT g T)) : PW X (.BoolOp .Or [a] pos) (tT g T) := pw_or1 ha
theorem tm_and {T U : TM} {rest : List Expr} (ha : PT X a (tT g T)) (hb : PW X (.BoolOp .And (b :: rest) pos) (tT g U)) : PW X (.BoolOp .And (a :: b :: rest) pos) (tT g (andM T U)) := by
  refine PW.weak (pw_and ha hb) fun σ H Q ⟨m, ds, h, hs, rh, o⟩ => ⟨m, ds, h, hs, rh, OutT.toT o fun k h' m' H' w rh' o' => ?_⟩
  cases k with
  | true => rw [if_pos rfl] at o' ⊢; exact ⟨m', ds, h', hs.mono w, rh', o'⟩
  | false => rw [if_neg Bool.false_ne_true] at o' ⊢; exact o' m' H' (.refl _ _) rh'
theorem tm_or {T U : TM} {rest : List Expr} (ha : PT X a (tT g T)) (hb : PW X (.BoolOp .Or (b :: rest) pos) (tT g U)) : PW X (.BoolOp .Or (a :: b :: rest) pos) (tT g (orM T U)) := by
  refine PW.weak (pw_or ha hb) fun σ H Q ⟨m, ds, h, hs, rh, o⟩ => ⟨m, ds, h, hs, rh, OutT.toT o fun k h' m' H' w rh' o' => ?_⟩
  cases k with
  | true => rw [if_pos rfl] at o' ⊢; exact o' m' H' (.refl _ _) rh'
  | false => rw [if_neg Bool.false_ne_true] at o' ⊢; exact ⟨m', ds, h', hs.mono w, rh', o'⟩
theorem tm_not {T : TM} (ha : PT X a (tT g T)) : PT X (.UnaryOp .Not a pos) (tT g (notM T)) := by
  refine PT.weak (pt_not ha) fun σ H Q ⟨m, ds, h, hs, rh, o⟩ => ⟨m, ds, h, hs, rh, OutT.toT o fun k h' m' H' w rh' o' => ?_⟩
  exact o' m' H' (.refl _ _) rh'
theorem em_one {op} (ha : PE X a (tM g A)) : PE X (.BoolOp op [a] pos) (tM g A) := pe_one ha
theorem em_and {rest : List Expr} (ha : PE X a (tM g A)) (hb : PE X (.BoolOp .And (b :: rest) pos) (tM g B)) : PE X (.BoolOp .And (a :: b :: rest) pos) (tM g (andV A B)) := by
  refine PE.weak (pe_and ha hb) fun σ H Q ⟨m, ds, h, hs, rh, o⟩ => ⟨m, ds, h, hs, rh, OutE.toE o fun d h' v m' H' w rv rh' o' => ?_⟩
  cases d with
  | bl k =>
    refine ⟨k, by unfold RepV at rv; exact rv, ?_⟩
    have o' : OutE g m' H' σ Q (if k = true then B ds h' else .ok (.bl false) h') := o'
    cases k with
    | true => rw [if_pos rfl] at o' ⊢; exact ⟨m', ds, h', hs.mono w, rh', o'⟩
    | false => rw [if_neg Bool.false_ne_true] at o' ⊢; exact o' _ m' H' (.refl _ _) (by unfold RepV; rfl) rh'
  | _ => exact (show False from o').elim
theorem em_not (ha : PE X a (tM g A)) : PE X (.UnaryOp .Not a pos) (tM g (notV A)) := by
  refine PE.weak (pe_not ha) fun σ H Q ⟨m, ds, h, hs, rh, o⟩ => ⟨m, ds, h, hs, rh, OutE.toE o fun d h' v m' H' w rv rh' o' => ?_⟩
  cases d with
  | bl k => exact ⟨k, by unfold RepV at rv; exact rv, o' _ m' H' (.refl _ _) (by unfold RepV; rfl) rh'⟩
  | _ => exact (show False from o').elim
theorem am_nil : PA X [] (tA g nilA) := PA.weak pa_nil fun σ H Q ⟨m, ds, h, hs, rh, o⟩ => o [] m H (.refl _ _) .nil rh
theorem am_cons {As : AM} (ha : PE X e (tM g A)) (hr : PA X es (tA g As)) (hs : starEach (e :: es) X.env = (false, eval e X.env) :: starEach es X.env := by rfl) : PA X (e :: es) (tA g (consA A As)) := by
  refine PA.weak (pa_cons ha hr hs) fun σ H Q ⟨m, ds, h, hs, rh, o⟩ => ⟨m, ds, h, hs, rh, OutE.toA o fun d h' v m' H' w rv rh' o' => ?_⟩
  refine ⟨m', ds, h', hs.mono w, rh', OutA.toA o' fun xs h2 vs m2 H2 w2 rl rh2 o2 => ?_⟩
  exact o2 _ m2 H2 (.refl _ _) (.cons (rv.mono w2) rl) rh2
theorem em_tup {As : AM} {x1} (h : PA X es (tA g As)) : PE X (.Tuple es x1 pos) (tM g (argM tupF As)) := by
  refine PE.weak (pe_tup h) fun σ H Q ⟨m, ds, h, hs, rh, o⟩ => ⟨m, ds, h, hs, rh, OutA.toE o fun xs h' vs m' H' w rl rh' o' => ?_⟩
  have ls : sizeLine = 16777216 := sizeLine_eq
  by_cases hz : xs.length ≤ LIM
  · have e : tupF xs h' = some (.tup xs, h') := if_pos hz
    rw [e] at o'
    refine ⟨by rw [rl.length, ls]; exact hz, fun p hp => o' _ m' _ (.put hp) ?_ (rh'.put hp)⟩
    unfold RepV
    exact ⟨p, vs, rfl, upd_same, rl.mono (.put hp)⟩
  · have e : tupF xs h' = none := if_neg hz
    rw [e] at o'
    exact o'.elim
/-- a new list tracked -/
theorem new_lst {m : List Addr} {H : Hp} {h : Hs} {xs : List D} {vs : List V} {p : Addr} (rl : RepL g.K m H xs vs) (rh : RepH g.K m H h) (hp : H p = none) :
    RepV g.K (m ++ [p]) (upd H p (.lst vs)) (.loc h.length) (.ref p) ∧ RepH g.K (m ++ [p]) (upd H p (.lst vs)) (h ++ [.lst xs]) := by
  refine ⟨?_, rh.new hp ⟨vs, upd_same, rl.mono (.app hp)⟩⟩
  unfold RepV
  exact ⟨p, by rw [← rh.len]; simp, rfl⟩
theorem em_lst {As : AM} (h : PA X es (tA g As)) : PE X (.List es pos) (tM g (argM lstF As)) := by
  refine PE.weak (pe_lst h) fun σ H Q ⟨m, ds, h, hs, rh, o⟩ => ⟨m, ds, h, hs, rh, OutA.toE o fun xs h' vs m' H' w rl rh' o' => ?_⟩
  have ls : sizeLine = 16777216 := sizeLine_eq
  by_cases hz : xs.length ≤ LIM
  · have e : lstF xs h' = some (.loc h'.length, h' ++ [.lst xs]) := if_pos hz
    rw [e] at o'
    refine ⟨by rw [rl.length, ls]; exact hz, fun p hp => ?_⟩
    obtain ⟨q1, q2⟩ := new_lst rl rh' hp
    exact o' _ _ _ (.app hp) q1 q2
  · have e : lstF xs h' = none := if_neg hz
    rw [e] at o'
    exact o'.elim
def rC (K : PySem.W.Frag) (F : List D → Hs → Res) : List V → Hp → VK → Prop := fun vs H Q => ∃ m h ds, RepL K m H ds vs ∧ RepH K m H h ∧ OutV K m H Q (F ds h)
theorem call_read {Fc : List D → Hs → Res} {As : AM} {σ : St} {H : Hp} {Q : VK} (q : tM g (argM Fc As) σ H Q) : tCB (rC g.K Fc) (tA g As) σ H Q := by
  obtain ⟨m, ds, h, hs, rh, o⟩ := q
  exact ⟨m, ds, h, hs, rh, OutA.toE o fun xs h' vs m' H' w rl rh' o' => ⟨m', h', xs, rl, rh', .of o'⟩⟩
theorem em_callB {id : String} {Fc : List D → Hs → Res} {As : AM} {x : Str} {p : Pos} (hc : CallR X (.builtin id) (rC g.K Fc)) (hg : Gl X x) (hm : X.mg x = none) (hv : bootBuiltins x = some (.builtin id)) (ha : PA X (e :: es) (tA g As)) (hn : x ≠ "__name__" := by decide) (hdb : (x == ("__debug__" : Str)) = false := by decide)
    (he : starEach (e :: es) X.env = (false, eval e X.env) :: starEach es X.env := by rfl) (hpl : (backTo pos (starEach es X.env)).any (·.1) = false := by rfl) : PE X (.Call (.Name x p) (e :: es) [] pos) (tM g (argM Fc As)) :=
  PE.weak (pe_callB hc hg hm hv ha hn hdb he hpl) fun _ _ _ => call_read
theorem em_callTy {T : String} {Fc : List D → Hs → Res} {As : AM} {x : Str} {p : Pos} (hc : CallR X (.type T) (rC g.K Fc)) (hg : Gl X x) (hm : X.mg x = none) (hv : bootBuiltins x = some (.type T)) (ha : PA X (e :: es) (tA g As)) (hn : x ≠ "__name__" := by decide) (hdb : (x == ("__debug__" : Str)) = false := by decide)
    (he : starEach (e :: es) X.env = (false, eval e X.env) :: starEach es X.env := by rfl) (hpl : (backTo pos (starEach es X.env)).any (·.1) = false := by rfl) : PE X (.Call (.Name x p) (e :: es) [] pos) (tM g (argM Fc As)) :=
  PE.weak (pe_callTy hc hg hm hv ha hn hdb he hpl) fun _ _ _ => call_read
end
end DV
namespace DV
open PySem PySem.Spec PyProof.Rows L2
def passM : SM := fun ds h => .nx ds h
def seqM (A B : SM) : SM := fun ds h => match A ds h with
  | .nx ds h => B ds h
  | r => r
def setM (i : Nat) (A : EM) : SM := fun ds h => lift (A ds h) ds fun d h => .nx (ds.set i (some d)) h
def exprM (A : EM) : SM := fun ds h => lift (A ds h) ds fun _ h => .nx ds h
def retM (A : EM) : SM := fun ds h => lift (A ds h) ds fun d h => .rt d h
def retN : SM := fun _ h => .rt .non h
def ifM (T : TM) (A B : SM) : SM := fun ds h => lift (T ds h) ds fun b h => if b = true then A ds h else B ds h
def raiseM (c : Str) : SM := fun ds h => .exc c ds h
def whileM (T : TM) (B : SM) : Nat → SM
  | 0 => fun _ _ => .bad
  | n + 1 => fun ds h => lift (T ds h) ds fun b h => if b = true then (match B ds h with
    | .nx ds h => whileM T B n ds h
    | .ct ds h => whileM T B n ds h
    | .bk ds h => .nx ds h
    | r => r) else .nx ds h
/-- targets -/
abbrev GM := D → Sl → Hs → RS
def nameG (i : Nat) : GM := fun d ds h => .nx (ds.set i (some d)) h
def nilG : List D → Sl → Hs → RS := fun xs ds h => match xs with
  | [] => .nx ds h
  | _ => .bad
def consG (T : GM) (U : List D → Sl → Hs → RS) : List D → Sl → Hs → RS := fun xs ds h => match xs with
  | x :: r => (match T x ds h with
    | .nx ds h => U r ds h
    | _ => .bad)
  | [] => .bad
def tupG (n : Nat) (U : List D → Sl → Hs → RS) : GM := fun d ds h => match d with
  | .tup xs => if xs.length = n then U xs ds h else .bad
  | _ => .bad
def asgM (A : EM) (T : GM) : SM := fun ds h => lift (A ds h) ds fun d h => T d ds h
/-- loops over known items, under a guard -/
abbrev IM := Sl → Hs → R (List D × (Hs → Prop))
open Classical in
noncomputable def loopM (gd : Hs → Prop) (T : GM) (B : SM) : List D → SM
  | [] => fun ds h => if gd h then .nx ds h else .bad
  | d :: r => fun ds h => if gd h then (match T d ds h with
    | .nx ds h => (match B ds h with
      | .nx ds h => loopM gd T B r ds h
      | .ct ds h => loopM gd T B r ds h
      | .bk ds h => .nx ds h
      | q => q)
    | _ => .bad) else .bad
noncomputable def forM (I : IM) (T : GM) (B : SM) : SM := fun ds h => lift (I ds h) ds fun p h => loopM p.2 T B p.1 ds h
def tG (g : Cfg) (T : GM) : TG := fun v σ H Q => ∃ m d ds h, RepV g.K m H d v ∧ RepS g.K m H ds σ ∧ RepH g.K m H h ∧ OutS g m H { nx := Q, rt := fun _ _ => False } (match T d ds h with | .nx ds h => .nx ds h | _ => .bad)
def tGs (g : Cfg) (U : List D → Sl → Hs → RS) : TGs := fun vs σ H Q => ∃ m xs ds h, RepL g.K m H xs vs ∧ RepS g.K m H ds σ ∧ RepH g.K m H h ∧ OutS g m H { nx := Q, rt := fun _ _ => False } (match U xs ds h with | .nx ds h => .nx ds h | _ => .bad)
theorem PG.weak {X : Cx} {e : Expr} {t t' : TG} (p : PG X e t) (w : ∀ v σ H Q, t' v σ H Q → t v σ H Q) : PG X e t' := ⟨fun pns s σ H v u Q I r h => p.run pns s σ H v u Q I r (w v σ H Q h)⟩
theorem PGs.weak {X : Cx} {e : List Expr} {t t' : TGs} (p : PGs X e t) (w : ∀ v σ H Q, t' v σ H Q → t v σ H Q) : PGs X e t' := ⟨fun pns s σ H v u Q I r h => p.run pns s σ H v u Q I r (w v σ H Q h)⟩
theorem PI.weak {X : Cx} {tg e : Expr} {t t' : TI} (p : PI X tg e t) (w : ∀ σ H R, t' σ H R → t σ H R) : PI X tg e t' := ⟨fun pns s σ H R I h => p.run pns s σ H R I (w σ H R h)⟩
section
variable {X : Cx} {g : Cfg} {e a b c tg iter : Expr} {es : List Expr} {A B C : EM} {pos : Pos} {F G : VF2} {S U : SM} {T : TM} {st : Stmt} {sts body : List Stmt}
theorem sms_nil : PSs X [] (tS g passM) := PSs.weak pss_nil fun N σ H ⟨m, ds, h, hs, rh, o⟩ => o σ m H (.refl _ _) hs rh
theorem sms_one (h1 : PS X st (tS g S)) : PSs X [st] (tS g S) := pss_one h1
theorem sms_cons (h1 : PS X st (tS g S)) (h2 : PSs X sts (tS g U)) : PSs X (st :: sts) (tS g (seqM S U)) := by
  refine PSs.weak (pss_cons h1 h2) fun N σ H ⟨m, ds, h, hs, rh, o⟩ => ⟨m, ds, h, hs, rh, ?_⟩
  unfold seqM at o
  cases q : S ds h with
  | nx ds1 h1 =>
    rw [q] at o
    exact fun σ1 m1 H1 g1 r1 rh1 => ⟨m1, ds1, h1, r1, rh1, OutS.mono o g1⟩
  | rt d h1 => rw [q] at o; exact o
  | bk ds1 h1 => rw [q] at o; exact o
  | ct ds1 h1 => rw [q] at o; exact o
  | exc c ds1 h1 => rw [q] at o; exact o
  | bad => rw [q] at o; exact o
theorem sm_expr (he : PE X e (tM g A)) (hs : swapsWith e none pos.line X.env = pure false := by rfl) : PS X (.Expr e pos) (tS g (exprM A)) :=
  PS.weak (ps_expr he hs) fun N σ H ⟨m, ds, h, hs, rh, o⟩ => ⟨m, ds, h, hs, rh, OutE.toS hs o fun d h1 v m1 H1 g1 r1 rh1 o1 => o1 σ m1 H1 (.refl _ _) (hs.mono g1) rh1⟩
theorem sm_ret (he : PE X e (tM g A)) : PS X (.Return (some e) pos) (tS g (retM A)) :=
  PS.weak (ps_ret he) fun N σ H ⟨m, ds, h, hs, rh, o⟩ => ⟨m, ds, h, hs, rh, OutE.toS hs o fun d h1 v m1 H1 g1 r1 rh1 o1 => o1 v m1 H1 (.refl _ _) r1 rh1⟩
theorem sm_if {tb fb : List Stmt} (hc : PT X c (tT g T)) (ha : PSs X tb (tS g S)) (hb : PSs X fb (tS g U)) : PS X (.If c tb fb pos) (tS g (ifM T S U)) := by
  refine PS.weak (ps_if hc ha hb) fun N σ H ⟨m, ds, h, hs, rh, o⟩ => ⟨m, ds, h, hs, rh, OutT.toS hs o fun k h1 m1 H1 g1 rh1 o1 => ?_⟩
  cases k with
  | true => rw [if_pos rfl] at o1 ⊢; exact ⟨m1, ds, h1, hs.mono g1, rh1, o1⟩
  | false => rw [if_neg Bool.false_ne_true] at o1 ⊢; exact ⟨m1, ds, h1, hs.mono g1, rh1, o1⟩
theorem gm_name {i : Nat} (h : PG X tg (gName i)) : PG X tg (tG g (nameG i)) :=
  PG.weak h fun v σ H Q ⟨m, d, ds, h, rv, hs, rh, o⟩ => o (σ.set i (some v)) m H (.refl _ _) (hs.put i rv) rh
theorem gms_nil : PGs X [] (tGs g nilG) := PGs.weak pgs_nil fun vs σ H Q ⟨m, xs, ds, h, rl, hs, rh, o⟩ => by
  cases xs with
  | nil => unfold RepL at rl; exact ⟨rl, o σ m H (.refl _ _) hs rh⟩
  | cons x r => exact (show False from o).elim
theorem gms_cons {T1 : GM} {U1 : List D → Sl → Hs → RS} (h1 : PG X e (tG g T1)) (h2 : PGs X es (tGs g U1))
    (hs : (assignEach (e :: es) X.env).map (·.2) = assign e X.env :: (assignEach es X.env).map (·.2) := by rfl) : PGs X (e :: es) (tGs g (consG T1 U1)) := by
  refine PGs.weak (pgs_cons h1 h2 hs) fun vs σ H Q ⟨m, xs, ds, h, rl, hs, rh, o⟩ => ?_
  cases xs with
  | nil => exact (show False from o).elim
  | cons x r =>
    unfold RepL at rl
    obtain ⟨v, vr, rfl, r1, r2⟩ := rl
    refine ⟨v, vr, rfl, m, x, ds, h, r1, hs, rh, ?_⟩
    have o : OutS g m H { nx := Q, rt := fun _ _ => False } (match (match T1 x ds h with | .nx ds h => U1 r ds h | _ => .bad) with | .nx ds h => .nx ds h | _ => .bad) := o
    cases q : T1 x ds h with
    | nx ds1 h1 =>
      rw [q] at o
      exact fun σ1 m1 H1 g1 s1 rh1 => ⟨m1, r, ds1, h1, r2.mono g1, s1, rh1, OutS.mono o g1⟩
    | _ => rw [q] at o; exact (show False from o).elim
theorem gm_tup {k n : Nat} {U1 : List D → Sl → Hs → RS} (hc : X.calm = true) (h : PGs X es (tGs g U1)) (hK : X.K = g.K)
    (hn : (assignEach es X.env).length = n := by rfl) (hst : (assignEach es X.env).findIdx? (·.1) = none := by rfl) : PG X (.Tuple es k pos) (tG g (tupG n U1)) := by
  refine PG.weak (pg_tup hc h hn hst) fun v σ H Q ⟨m, d, ds, h, rv, hs, rh, o⟩ => ?_
  cases d with
  | tup xs =>
    unfold RepV at rv
    obtain ⟨p, vs, rfl, hp, rl⟩ := rv
    have o : OutS g m H { nx := Q, rt := fun _ _ => False } (match (if xs.length = n then U1 xs ds h else .bad) with | .nx ds h => .nx ds h | _ => .bad) := o
    by_cases hl : xs.length = n
    · rw [if_pos hl] at o
      exact ⟨p, vs, rfl, SqT.of hp, by rw [rl.length]; exact hl, m, xs, ds, h, rl, hs, rh, o⟩
    · rw [if_neg hl] at o; exact o.elim
  | _ => exact (show False from o).elim
/-- only a next or nothing comes of a target -/
def okG (T : GM) : GM := fun d ds h => match T d ds h with
  | .nx ds h => .nx ds h
  | _ => .bad
theorem sm_set {i : Nat} {x : Str} {pos' : Pos} (hN : X.N.Nodup) (hi : X.N[i]? = some x) (hx : Loc X.env.scope x) (he : PE X e (tM g A)) (hs : swapsWith e (some (.Name x pos')) pos.line X.env = pure false := by rfl) (hf : X.fn x = true ∨ X.env.scope.names.lookup x = some .local := by first | exact .inl rfl | exact .inr rfl | assumption) :
    PS X (.Assign [.Name x pos'] e pos) (tS g (setM i A)) :=
  PS.weak (ps_set hN hi hx he hs hf) fun N σ H ⟨m, ds, h, hs, rh, o⟩ => ⟨m, ds, h, hs, rh, OutE.toS hs o fun d h1 v m1 H1 g1 r1 rh1 o1 => o1 _ m1 H1 (.refl _ _) ((hs.mono g1).put i r1) rh1⟩
theorem sm_asg {T1 : GM} (he : PE X e (tM g A)) (hg : PG X tg (tG g T1)) (hs : swapsWithSole [tg] e pos.line X.env = pure false := by rfl) (hw : swappedStores [tg] e X.env = pure none := by rfl)
    (h1 : (assignEach [tg] X.env).map (·.2) = [assign tg X.env] := by rfl) : PS X (.Assign [tg] e pos) (tS g (asgM A (okG T1))) := by
  refine PS.weak (ps_asg he hg hs hw h1) fun N σ H ⟨m, ds, h, hs, rh, o⟩ => ⟨m, ds, h, hs, rh, OutE.toS hs o fun d h1 v m1 H1 g1 r1 rh1 o1 => ⟨m1, d, ds, h1, r1, hs.mono g1, rh1, ?_⟩⟩
  have o1 : OutS g m1 H1 N (match T1 d ds h1 with | .nx ds h => .nx ds h | _ => .bad) := o1
  cases q : T1 d ds h1 with
  | nx ds1 h1 => rw [q] at o1; exact o1
  | _ => rw [q] at o1; exact (show False from o1).elim
theorem sm_while (n : Nat) (hp : PassesOwn (model X.prog X.w) X.A X.env X.xe) (hc : PT X c (tT g T)) (hb : PSs X body (tS g S)) : PS X (.While c body [] pos) (tS g (whileM T S n)) := by
  refine PS.weak (ps_while hp hc hb) fun N σ H ⟨m, ds, h, hs, rh, o⟩ => ?_
  refine ⟨fun k σ H => ∃ m ds h, RepS g.K m H ds σ ∧ RepH g.K m H h ∧ OutS g m H N (whileM T S k ds h), ⟨n, m, ds, h, hs, rh, o⟩, ?_⟩
  rintro k σ H ⟨m, ds, h, hs, rh, o⟩
  cases k with
  | zero => exact (show False from o).elim
  | succ k =>
    refine ⟨m, ds, h, hs, rh, OutT.toS hs o fun b h1 m1 H1 g1 rh1 o1 => ?_⟩
    cases b with
    | true =>
      rw [if_pos rfl] at o1 ⊢
      refine ⟨fun σ H => ∃ m ds h, RepS g.K m H ds σ ∧ RepH g.K m H h ∧ OutS g m H N (whileM T S k ds h), fun σ' H' q => ⟨k, Nat.lt_succ_self k, q⟩, m1, ds, h1, hs.mono g1, rh1, ?_⟩
      cases q : S ds h1 with
      | nx ds2 h2 => rw [q] at o1; exact fun σ2 m2 H2 g2 s2 rh2 => ⟨m2, ds2, h2, s2, rh2, OutS.mono o1 g2⟩
      | ct ds2 h2 => rw [q] at o1; exact fun σ2 m2 H2 g2 s2 rh2 => ⟨m2, ds2, h2, s2, rh2, OutS.mono o1 g2⟩
      | bk ds2 h2 => rw [q] at o1; exact o1
      | rt d h2 => rw [q] at o1; exact o1
      | exc c ds2 h2 => rw [q] at o1; exact o1
      | bad => rw [q] at o1; exact o1
    | false => rw [if_neg Bool.false_ne_true] at o1 ⊢; exact o1 _ m1 H1 (.refl _ _) (hs.mono g1) rh1
end
/-- the iterator J yields these, as long as the guard holds -/
def IsIt (K : PySem.W.Frag) (J : It) (its : List D) (gd : Hs → Prop) (m0 : List Addr) (H0 : Hp) : Prop :=
  ∀ i m H h, Grow m0 H0 m H → RepH K m H h → gd h → (∀ d, its[i]? = some d → J.go i H ∧ ∀ x H', J.yld i H x H' → Grow m H m H' ∧ RepV K m H' d x ∧ RepH K m H' h) ∧ (its.length ≤ i → J.stop i H)
def OutI (g : Cfg) (m : List Addr) (H : Hp) (σ : St) (Q : It → Hp → Prop) : R (List D × (Hs → Prop)) → Prop
  | .ok p h' => ∀ J m' H', Grow m H m' H' → RepH g.K m' H' h' → IsIt g.K J p.1 p.2 m' H' → Q J H'
  | .exc c h' => ∀ m' H', Grow m H m' H' → RepH g.K m' H' h' → g.W (.ref (He.ga g.K c)) none σ H'
  | .bad => False
def tI (g : Cfg) (M : IM) : TI := fun σ H Q => ∃ m ds h, RepS g.K m H ds σ ∧ RepH g.K m H h ∧ OutI g m H σ Q (M ds h)
section
variable {X : Cx} {g : Cfg} {tg iter : Expr} {body : List Stmt} {pos : Pos} {S : SM} {T : GM} {I : IM}
theorem sm_for (hp : PassesOwn (model X.prog X.w) X.A X.env X.xe) (hc : X.calm = true) (hi : PI X tg iter (tI g I)) (hg : PG X tg (tG g T)) (hb : PSs X body (tS g S))
    (hs : ∀ x, foldedSetIterable iter X.env x = pure x := by intro _; rfl) : PS X (.For tg iter body [] pos) (tS g (forM I T S)) := by
  refine PS.weak (ps_for hp hc hi hg hb hs) fun N σ H ⟨m, ds, h, hs, rh, o⟩ => ⟨m, ds, h, hs, rh, ?_⟩
  unfold forM at o
  cases q : I ds h with
  | exc c h1 => rw [q] at o; exact fun m' H' w rh' => o σ m' H' w (hs.mono w) rh'
  | bad => rw [q] at o; exact o
  | ok p h1 =>
    obtain ⟨its, gd⟩ := p
    rw [q, lift_ok] at o
    intro J m1 H1 g1 rh1 it
    refine ⟨fun i k σ H => k = its.length - i ∧ i ≤ its.length ∧ ∃ m ds h, Grow m1 H1 m H ∧ RepS g.K m H ds σ ∧ RepH g.K m H h ∧ OutS g m H N (loopM gd T S (its.drop i) ds h),
      ⟨_, rfl, Nat.zero_le _, m1, ds, h1, .refl _ _, hs.mono g1, rh1, OutS.mono o g1⟩, ?_⟩
    rintro i k σ2 H2 ⟨rfl, hi, m2, ds2, h2, g2, s2, rh2, o2⟩
    by_cases hlt : i < its.length
    · have hd : its.drop i = its[i] :: its.drop (i + 1) := List.drop_eq_getElem_cons hlt
      rw [hd] at o2
      unfold loopM at o2
      by_cases hgd : gd h2
      · rw [if_pos hgd] at o2
        obtain ⟨f1, _⟩ := it i m2 H2 h2 g2 rh2 hgd
        obtain ⟨go, yl⟩ := f1 its[i] (List.getElem?_eq_getElem hlt)
        refine .inr ⟨go, fun σ H => ∃ m ds h, Grow m1 H1 m H ∧ RepS g.K m H ds σ ∧ RepH g.K m H h ∧ OutS g m H N (loopM gd T S (its.drop (i + 1)) ds h), fun σ' H' ⟨m', ds', h', w⟩ => ⟨its.length - (i + 1), by omega, rfl, hlt, m', ds', h', w⟩, fun x H3 y => ?_⟩
        obtain ⟨g3, r3, rh3⟩ := yl x H3 y
        refine ⟨m2, its[i], ds2, h2, r3, s2.mono g3, rh3, ?_⟩
        cases w : T its[i] ds2 h2 with
        | nx ds4 h4 =>
          rw [w] at o2
          intro σ4 m4 H4 g4 s4 rh4
          refine ⟨m4, ds4, h4, s4, rh4, ?_⟩
          have o2 : OutS g m2 H2 N (match S ds4 h4 with
            | .nx ds h => loopM gd T S (its.drop (i + 1)) ds h
            | .ct ds h => loopM gd T S (its.drop (i + 1)) ds h
            | .bk ds h => .nx ds h
            | q => q) := o2
          have o4 := OutS.mono o2 (g3.trans g4)
          have gg := g2.trans (g3.trans g4)
          cases w2 : S ds4 h4 with
          | nx ds5 h5 => rw [w2] at o4; exact fun σ5 m5 H5 g5 s5 rh5 => ⟨m5, ds5, h5, gg.trans g5, s5, rh5, OutS.mono o4 g5⟩
          | ct ds5 h5 => rw [w2] at o4; exact fun σ5 m5 H5 g5 s5 rh5 => ⟨m5, ds5, h5, gg.trans g5, s5, rh5, OutS.mono o4 g5⟩
          | bk ds5 h5 => rw [w2] at o4; exact o4
          | rt d h5 => rw [w2] at o4; exact o4
          | exc c ds5 h5 => rw [w2] at o4; exact o4
          | bad => rw [w2] at o4; exact o4
        | _ => rw [w] at o2; exact (show False from o2).elim
      · rw [if_neg hgd] at o2; exact o2.elim
    · have e : i = its.length := by omega
      subst e
      rw [List.drop_length] at o2
      unfold loopM at o2
      by_cases hgd : gd h2
      · rw [if_pos hgd] at o2
        exact .inl ⟨(it _ m2 H2 h2 g2 rh2 hgd).2 (Nat.le_refl _), o2 σ2 m2 H2 (.refl _ _) s2 rh2⟩
      · rw [if_neg hgd] at o2; exact o2.elim
end
/-- the items of a value and the guard: a list must stay as it is -/
noncomputable def itsF (d : D) (h : Hs) : Option (List D × (Hs → Prop)) := match d with
  | .tup ds => some (ds, fun _ => True)
  | .ro ns => some (ns.map D.int, fun _ => True)
  | .str s => some (s.cps.toList.map fun c => .str ⟨#[c]⟩, fun _ => True)
  | .loc l => match h[l]? with
    | some (.lst ds) => some (ds, fun h => h[l]? = some (.lst ds))
    | _ => none
  | _ => none
noncomputable def valI (A : EM) : IM := fun ds h => (A ds h).bind fun d h => match itsF d h with
  | some p => .ok p h
  | none => .bad
/-- a test that no evaluation looks into -/
noncomputable def cB (p : Prop) : Bool := @decide p (Classical.propDecidable p)
theorem cB_iff {p : Prop} : cB p = true ↔ p := by unfold cB; exact @decide_eq_true_iff p (Classical.propDecidable p)
theorem cB_of {p : Prop} (h : p) : cB p = true := cB_iff.mpr h
/-- a range's ends fit -/
noncomputable def inR (j : Int) : Bool := cB (-(2 ^ 62) ≤ j ∧ j < 2 ^ 62)
noncomputable def rng1 : List D → Option (List D)
  | [.int j] => if inR j = true then some ((List.range j.toNat).map fun (i : Nat) => .int (i : Int)) else none
  | _ => none
noncomputable def rng2 : List D → Option (List D)
  | [.int i, .int j] => if inR i = true ∧ inR j = true then some ((List.range (j - i).toNat).map fun (k : Nat) => .int (i + (k : Int))) else none
  | _ => none
theorem rng1_inv {xs its : List D} (h : rng1 xs = some its) : ∃ j : Int, xs = [.int j] ∧ (-(2 ^ 62) ≤ j ∧ j < 2 ^ 62) ∧ its = (List.range j.toNat).map fun (i : Nat) => .int (i : Int) := by
  unfold rng1 at h
  split at h
  · rename_i j
    split at h
    · rename_i hj; exact ⟨j, rfl, cB_iff.mp hj, (Option.some.inj h).symm⟩
    · cases h
  · cases h
def rngI (F : List D → Option (List D)) (A : AM) : IM := fun ds h => (A ds h).bind fun xs h => match F xs with
  | some its => .ok (its, fun _ => True) h
  | none => .bad
section
variable {X : Cx} {g : Cfg} {tg e a b : Expr} {A : EM} {pos : Pos}
/-- any of list, tuple, text, by its value -/
theorem pi_any {l : Expr} {tl : TE} (hl : PE X l tl) : PI X tg l (fun σ H R => tl σ H fun x H1 => (∃ a, x = .ref a ∧ (∃ xs, SqL X.K H1 a xs) ∧ R (Itl X.K a) H1) ∨ (∃ a, x = .ref a ∧ (∃ xs, SqT X.K H1 a xs) ∧ R (Itt X.K a) H1) ∨ ∃ z, x = .str z ∧ R (Its z) H1) := by
  refine ⟨fun pns s σ H R I h => ?_⟩
  refine thn (hl.run pns s σ H _ I h) fun v s1 ⟨x, H1, I1, r1, q1⟩ => ?_
  rcases q1 with ⟨a, e, ⟨xs, hq⟩, q⟩ | ⟨a, e, ⟨xs, hq⟩, q⟩ | ⟨z, e, q⟩
  · subst e
    cases r1
    obtain ⟨its, rv, p, hz⟩ := I1.list hq
    refine wpAny_pyIter_list p.isList ?_
    refine ⟨s1.heap.objs.size, [s1.heap.objs.size], _, _, H1, rfl, I1.kept (t' := s1.toks) fun b o e => Heap.get?_push_of_some _ e, turn_list a _, ⟨_, Heap.get?_push_size _ rfl, rfl, rfl⟩, fun b hb => ?_, q⟩
    have e : b = s1.heap.objs.size := by simpa using hb
    subst e
    exact I1.fpOk (Nat.le_refl _) (I1.hok.fresh (Nat.le_refl _))
  · subst e
    cases r1
    obtain ⟨its, rv, p, hz⟩ := I1.tuple hq
    refine wpAny_pyIter_tuple (show s1.heap.IsTuple a its.toArray from p) ?_
    refine ⟨s1.heap.objs.size, [s1.heap.objs.size], _, _, H1, rfl, I1.kept (t' := s1.toks) fun b o e => Heap.get?_push_of_some _ e, turn_tuple a _, ⟨_, Heap.get?_push_size _ rfl, rfl, rfl⟩, fun b hb => ?_, q⟩
    have e : b = s1.heap.objs.size := by simpa using hb
    subst e
    exact I1.fpOk (Nat.le_refl _) (I1.hok.fresh (Nat.le_refl _))
  · subst e
    obtain ⟨t, rfl⟩ := r1
    cases ha : z.cps.all (· < 128)
    · exact wpAny_pyIter_wide ha (pi_one (tk := s1.toks) I1 _ (turn_str _ z t "str_iterator" (.inr rfl)) ⟨_, Heap.get?_push_size _ rfl, rfl, rfl⟩ q)
    · exact wpAny_pyIter_ascii ha (pi_one (tk := s1.toks) I1 _ (turn_str _ z t "str_ascii_iterator" (.inl rfl)) ⟨_, Heap.get?_push_size _ rfl, rfl, rfl⟩ q)
theorem isIt_tup {K : PySem.W.Frag} {p : Addr} {vs : List V} {ds : List D} {m : List Addr} {H : Hp} (hp : H p = some (.tup vs)) (rl : RepL K m H ds vs) : IsIt K (Itt K p) ds (fun _ => True) m H := by
  intro i m' H' h' g' rh' _
  have hp' := g'.tup _ _ hp
  refine ⟨fun d hd => ?_, fun hi => ⟨vs, SqT.of hp', by rw [rl.length]; exact hi⟩⟩
  obtain ⟨x, hx, rx⟩ := rl.get hd
  refine ⟨⟨vs, x, SqT.of hp', hx⟩, fun y H2 ⟨e, q⟩ => ?_⟩
  subst e
  have := q vs (SqT.of hp')
  rw [hx] at this; cases this
  exact ⟨.refl _ _, rx.mono g', rh'⟩
theorem isIt_lst {K : PySem.W.Frag} {p : Addr} {l : Nat} {ds : List D} {m : List Addr} {H : Hp} (hp : m[l]? = some p) : IsIt K (Itl K p) ds (fun h => h[l]? = some (.lst ds)) m H := by
  intro i m' H' h' g' rh' hg
  obtain ⟨⟨r, rfl⟩, _, _, _⟩ := g'
  obtain ⟨hlt, _⟩ := List.getElem?_eq_some_iff.mp hp
  have hp' : (m ++ r)[l]? = some p := by rw [List.getElem?_append_left hlt]; exact hp
  obtain ⟨vs, hv, rl⟩ := rh'.lst hp' hg
  refine ⟨fun d hd => ?_, fun hi => ⟨vs, SqL.of hv, by rw [rl.length]; exact hi⟩⟩
  obtain ⟨x, hx, rx⟩ := rl.get hd
  refine ⟨⟨vs, x, SqL.of hv, hx⟩, fun y H2 ⟨e, q⟩ => ?_⟩
  subst e
  have := q vs (SqL.of hv)
  rw [hx] at this; cases this
  exact ⟨.refl _ _, rx, rh'⟩
theorem SqR.mono {K : PySem.W.Frag} {H H' : Hp} {m m' : List Addr} {p : Addr} {xs : List V} (g : Grow m H m' H') (q : SqR K H p xs) : SqR K H' p xs := by
  rcases q with ⟨o, q⟩ | q
  · exact .inl ⟨o, g.frz _ _ _ q⟩
  · exact .inr q
theorem isIt_ro {K : PySem.W.Frag} {p : Addr} {ns : List Int} {m : List Addr} {H : Hp} (hp : SqR K H p (ns.map V.int)) : IsIt K (Itl K p) (ns.map D.int) (fun _ => True) m H := by
  intro i m' H' h' g' rh' _
  have hq := (hp.mono g').sq
  refine ⟨fun d hd => ?_, fun hi => ⟨_, hq, by simpa using hi⟩⟩
  rw [List.getElem?_map] at hd
  cases e : ns[i]? with
  | none => rw [e] at hd; cases hd
  | some n =>
    rw [e] at hd
    cases hd
    have hx : (ns.map V.int)[i]? = some (.int n) := by rw [List.getElem?_map, e]; rfl
    refine ⟨⟨_, .int n, hq, hx⟩, fun y H2 ⟨e, q⟩ => ?_⟩
    subst e
    have := q _ hq
    rw [hx] at this; cases this
    exact ⟨.refl _ _, by unfold RepV; rfl, rh'⟩
theorem isIt_str {K : PySem.W.Frag} {z : Str} {m : List Addr} {H : Hp} : IsIt K (Its z) (z.cps.toList.map fun c => .str ⟨#[c]⟩) (fun _ => True) m H := by
  intro i m' H' h' g' rh' _
  refine ⟨fun d hd => ?_, fun hi => (show z.cps.size ≤ i by simpa using hi)⟩
  rw [List.getElem?_map, Array.getElem?_toList] at hd
  cases e : z.cps[i]? with
  | none => rw [e] at hd; cases hd
  | some n =>
    rw [e] at hd
    cases hd
    refine ⟨?_, fun y H2 ⟨e2, c, hc, q⟩ => ?_⟩
    · have : i < z.cps.size := (Array.getElem?_eq_some_iff.mp e).1
      exact this
    · subst e2 q
      rw [e] at hc; cases hc
      exact ⟨.refl _ _, by unfold RepV; rfl, rh'⟩
theorem isIt_rng {K : PySem.W.Frag} {lo : Int} {n : Nat} {m : List Addr} {H : Hp} : IsIt K (Itr lo n) ((List.range n).map fun (k : Nat) => .int (lo + (k : Int))) (fun _ => True) m H := by
  intro i m' H' h' g' rh' _
  refine ⟨fun d hd => ?_, fun hi => (show n ≤ i by simpa using hi)⟩
  rw [List.getElem?_map] at hd
  by_cases hl : i < n
  · rw [List.getElem?_range hl] at hd
    cases hd
    exact ⟨hl, fun y H2 ⟨e2, q⟩ => by subst e2 q; exact ⟨.refl _ _, by unfold RepV; rfl, rh'⟩⟩
  · rw [List.getElem?_eq_none (by simpa using hl)] at hd; cases hd
theorem OutE.toI {g : Cfg} {m : List Addr} {H : Hp} {σ : St} {Q : It → Hp → Prop} {Q' : VK} {r : R D} {k : D → Hs → R (List D × (Hs → Prop))} (o : OutI g m H σ Q (r.bind k)) (f : ∀ d h' v m' H', Grow m H m' H' → RepV g.K m' H' d v → RepH g.K m' H' h' → OutI g m' H' σ Q (k d h') → Q' v H') : OutE g m H σ Q' r := by
  cases r with
  | ok d h =>
    refine fun v m' H' w rv rh => f d h v m' H' w rv rh ?_
    rw [R.bind_ok] at o
    cases q : k d h with
    | ok p h2 => rw [q] at o; exact fun J m2 H2 w2 => o J m2 H2 (w.trans w2)
    | exc c h2 => rw [q] at o; exact fun m2 H2 w2 => o m2 H2 (w.trans w2)
    | bad => rw [q] at o; exact o
  | exc c h => exact o
  | bad => exact o
theorem OutA.toI {g : Cfg} {m : List Addr} {H : Hp} {σ : St} {Q : It → Hp → Prop} {Q' : List V → Hp → Prop} {r : R (List D)} {k : List D → Hs → R (List D × (Hs → Prop))} (o : OutI g m H σ Q (r.bind k)) (f : ∀ d h' v m' H', Grow m H m' H' → RepL g.K m' H' d v → RepH g.K m' H' h' → OutI g m' H' σ Q (k d h') → Q' v H') : OutA g m H σ Q' r := by
  cases r with
  | ok d h =>
    refine fun v m' H' w rv rh => f d h v m' H' w rv rh ?_
    rw [R.bind_ok] at o
    cases q : k d h with
    | ok p h2 => rw [q] at o; exact fun J m2 H2 w2 => o J m2 H2 (w.trans w2)
    | exc c h2 => rw [q] at o; exact fun m2 H2 w2 => o m2 H2 (w.trans w2)
    | bad => rw [q] at o; exact o
  | exc c h => exact o
  | bad => exact o
theorem im_val (hK : X.K = g.K) (he : PE X e (tM g A)) : PI X tg e (tI g (valI A)) := by
  refine PI.weak (pi_any he) fun σ H R ⟨m, ds, h, hs, rh, o⟩ => ⟨m, ds, h, hs, rh, OutE.toI o fun d h1 v m1 H1 g1 r1 rh1 o1 => ?_⟩
  rw [hK]
  cases d with
  | tup xs =>
    unfold RepV at r1
    obtain ⟨p, vs, rfl, hp, rl⟩ := r1
    exact .inr (.inl ⟨p, rfl, ⟨vs, SqT.of hp⟩, o1 _ m1 H1 (.refl _ _) rh1 (isIt_tup hp rl)⟩)
  | ro ns =>
    unfold RepV at r1
    obtain ⟨p, rfl, hp⟩ := r1
    exact .inl ⟨p, rfl, ⟨_, hp.sq⟩, o1 _ m1 H1 (.refl _ _) rh1 (isIt_ro hp)⟩
  | str z =>
    unfold RepV at r1
    exact .inr (.inr ⟨z, r1, o1 _ m1 H1 (.refl _ _) rh1 isIt_str⟩)
  | loc l =>
    unfold RepV at r1
    obtain ⟨p, hp, rfl⟩ := r1
    cases q : h1[l]? with
    | none => simp only [itsF, q] at o1; exact o1.elim
    | some ao =>
      cases ao with
      | lst xs =>
        obtain ⟨vs, hv, rl⟩ := rh1.lst hp q
        simp only [itsF, q] at o1
        exact .inl ⟨p, rfl, ⟨vs, SqL.of hv⟩, o1 _ m1 H1 (.refl _ _) rh1 (isIt_lst hp)⟩
      | _ => simp only [itsF, q] at o1; exact o1.elim
  | _ => exact (show False from o1).elim
theorem repL1 {K : PySem.W.Frag} {m : List Addr} {H : Hp} {d : D} {vs : List V} (r : RepL K m H [d] vs) : ∃ v, vs = [v] ∧ RepV K m H d v := by
  unfold RepL at r
  obtain ⟨x, r, rfl, h1, h2⟩ := r
  unfold RepL at h2
  exact ⟨x, by rw [h2], h1⟩
theorem repL2 {K : PySem.W.Frag} {m : List Addr} {H : Hp} {d e : D} {vs : List V} (r : RepL K m H [d, e] vs) : ∃ v u, vs = [v, u] ∧ RepV K m H d v ∧ RepV K m H e u := by
  unfold RepL at r
  obtain ⟨x, r, rfl, h1, h2⟩ := r
  obtain ⟨u, rfl, h3⟩ := repL1 h2
  exact ⟨x, u, rfl, h1, h3⟩
theorem im_rng1 {As : AM} {p : Pos} (hg : Gl X "range") (hm : X.mg "range" = none) (ha : PA X [a] (tA g As)) (hs : starEach [a] X.env = [(false, eval a X.env)] := by rfl) : PI X tg (.Call (.Name "range" p) [a] [] pos) (tI g (rngI rng1 As)) := by
  refine PI.weak (pi_range1 hg hm ha hs) fun σ H R ⟨m, ds, h, hs, rh, o⟩ => ⟨m, ds, h, hs, rh, OutA.toI o fun xs h1 vs m1 H1 g1 rl rh1 o1 => ?_⟩
  cases q : rng1 xs with
  | none => simp only [q] at o1; exact o1.elim
  | some its =>
    simp only [q] at o1
    obtain ⟨j, rfl, hj, rfl⟩ := rng1_inv q
    obtain ⟨v, rfl, r1⟩ := repL1 rl
    unfold RepV at r1
    subst r1
    refine ⟨j, rfl, hj.1, hj.2, o1 _ m1 H1 (.refl _ _) rh1 ?_⟩
    have := isIt_rng (K := g.K) (lo := 0) (n := j.toNat) (m := m1) (H := H1)
    simpa only [Int.zero_add] using this
end
end DV
namespace DV
open PySem PySem.Spec PyProof.Rows L2
def wipeD (ds : Sl) : List Nat → Sl
  | [] => ds
  | v :: vs => (wipeD ds vs).set v none
theorem RepS.wipe {K : PySem.W.Frag} {m : List Addr} {H : Hp} {ds : Sl} {σ : St} (r : RepS K m H ds σ) : ∀ vs : List Nat, RepS K m H (wipeD ds vs) (wipe σ vs)
  | [] => r
  | v :: vs => (RepS.wipe r vs).forget v none
/-- no exception -/
def R.noX {α : Type} : R α → R α
  | .ok a h => .ok a h
  | _ => .bad
@[simp] theorem R.noX_ok {α : Type} (a : α) (h : Hs) : (R.ok a h).noX = .ok a h := rfl
open Classical in
/-- l: the new list's number -/
noncomputable def lcLoop (gd : Hs → Prop) (l : Nat) (T : GM) (C : TM) (A : EM) (ds : Sl) : List D → Hs → R D
  | [], h => if gd h then .ok (.loc l) h else .bad
  | d :: r, h => if gd h then (match T d ds h with
    | .nx ds1 h1 => (C ds1 h1).noX.bind fun b h2 => if b = true then (A ds1 h2).noX.bind fun y h3 => (match h3[l]? with
        | some (.lst acc) => if acc.length < LIM then lcLoop gd l T C A ds r (h3.set l (.lst (acc ++ [y]))) else .bad
        | _ => .bad) else lcLoop gd l T C A ds r h2
    | _ => .bad) else .bad
/-- [A for T in I if C], own: the slots of its own names -/
noncomputable def lcM (own : List Nat) (I : IM) (T : GM) (C : TM) (A : EM) : EM := fun ds h => (I ds h).bind fun p h => lcLoop p.2 h.length T C A (wipeD ds own) p.1 (h ++ [.lst []])
def yesM : TM := fun _ h => .ok true h
theorem OutI.toE {g : Cfg} {m : List Addr} {H : Hp} {σ : St} {Q : VK} {Q' : It → Hp → Prop} {r : R (List D × (Hs → Prop))} {k : (List D × (Hs → Prop)) → Hs → R D} (o : OutE g m H σ Q (r.bind k))
    (f : ∀ p h' J m' H', Grow m H m' H' → RepH g.K m' H' h' → IsIt g.K J p.1 p.2 m' H' → OutE g m' H' σ Q (k p h') → Q' J H') : OutI g m H σ Q' r := by
  cases r with
  | ok p h => exact fun J m' H' w rh it => f p h J m' H' w rh it (OutE.mono o w)
  | exc c h => exact o
  | bad => exact o
/-- no exception leaves a comprehension's block -/
def noW (K : PySem.W.Frag) : Cfg := ⟨K, fun _ _ _ _ => False⟩
theorem IsIt.mono {K : PySem.W.Frag} {J : It} {its : List D} {gd : Hs → Prop} {m m' : List Addr} {H H' : Hp} (x : IsIt K J its gd m H) (w : Grow m H m' H') : IsIt K J its gd m' H' :=
  fun i m2 H2 h2 g2 => x i m2 H2 h2 (w.trans g2)
/-- a target of own names: its reading t, its maker T -/
structure CT (K : PySem.W.Frag) (own : List Nat) (t : TG) (T : GM) : Prop where
  keep : ∀ d ds h ds' h', T d ds h = .nx ds' h' → h' = h
  run : ∀ (m : List Addr) (d : D) (ds ds' : Sl) (h h' : Hs) (v : V) (σ : St) (H : Hp) (Q : St → Hp → Prop), RepV K m H d v → RepS K m H ds (wipe σ own) → T d ds h = .nx ds' h' →
    (∀ σ', wipe σ' own = wipe σ own → RepS K m H ds' σ' → Q σ' H) → t v (wipe σ own) H fun σ2 H2 => wipe σ2 own = wipe σ own ∧ Q σ2 H2
theorem ct_name (K : PySem.W.Frag) (i : Nat) : CT K [i] (gName i) (nameG i) where
  keep := fun d ds h ds' h' e => by cases e; rfl
  run := by
    intro m d ds ds' h h' v σ H Q rv rs e o
    cases e
    have e : wipe ((wipe σ [i]).set i (some v)) [i] = wipe σ [i] := by
      show (((σ.set i none).set i (some v)).set i none) = σ.set i none
      rw [List.set_set, List.set_set]
    exact ⟨e, o _ e (rs.put i rv)⟩
theorem two_inv {i j : Nat} {d : D} {ds ds' : Sl} {h h' : Hs} (e : tupG 2 (consG (nameG i) (consG (nameG j) nilG)) d ds h = .nx ds' h') : ∃ x y, d = .tup [x, y] ∧ h' = h ∧ ds' = (ds.set i (some x)).set j (some y) := by
  cases d with
  | tup xs =>
    match xs, e with
    | [], e => cases e
    | [_], e => cases e
    | [x, y], e => cases e; exact ⟨x, y, rfl, rfl, rfl⟩
    | x :: y :: z :: r, e =>
      have e : (if (x :: y :: z :: r).length = 2 then consG (nameG i) (consG (nameG j) nilG) (x :: y :: z :: r) ds h else .bad) = .nx ds' h' := e
      rw [if_neg (by simp)] at e
      cases e
  | _ => cases e
theorem ct_two (K : PySem.W.Frag) {i j : Nat} (hij : i ≠ j) : CT K [i, j] (gTup K 2 (gCons (gName i) (gCons (gName j) gNil))) (tupG 2 (consG (nameG i) (consG (nameG j) nilG))) where
  keep := fun d ds h ds' h' e => by obtain ⟨_, _, _, e, _⟩ := two_inv e; exact e
  run := by
    intro m d ds ds' h h' v σ H Q rv rs e o
    obtain ⟨x, y, rfl, _, rfl⟩ := two_inv e
    unfold RepV at rv
    obtain ⟨p, vs, rfl, hp, rl⟩ := rv
    obtain ⟨a, b, rfl, ra, rb⟩ : ∃ a b, vs = [a, b] ∧ RepV K m H x a ∧ RepV K m H y b := by
      unfold RepL at rl
      obtain ⟨a, r, rfl, h1, h2⟩ := rl
      unfold RepL at h2
      obtain ⟨b, r, rfl, h2, h3⟩ := h2
      unfold RepL at h3
      subst h3
      exact ⟨a, b, rfl, h1, h2⟩
    have e : wipe (((wipe σ [i, j]).set i (some a)).set j (some b)) [i, j] = wipe σ [i, j] := by
      show ((((((σ.set j none).set i none).set i (some a)).set j (some b)).set j none).set i none) = (σ.set j none).set i none
      rw [List.set_set, List.set_set]
      rw [List.set_comm _ _ (Ne.symm hij), List.set_set, List.set_comm _ _ hij, List.set_set]
    exact ⟨p, [a, b], rfl, SqT.of hp, rfl, a, [b], rfl, b, [], rfl, rfl, e, o _ e ((rs.put i ra).put j rb)⟩
theorem lc_read {g : Cfg} {own : List Nat} {I : IM} {T : GM} {C : TM} {A : EM} {σ : St} {H : Hp} {Q : VK} (q : tM g (lcM own I T C A) σ H Q)
    {t : TG} (ct : CT g.K own t T) :
    tLc (tI g I) t (tT (noW g.K) C) (tM (noW g.K) A) own σ H Q := by
  obtain ⟨m, ds, h, hs, rh, o⟩ := q
  refine ⟨m, ds, h, hs, rh, OutI.toE o fun p h1 J m1 H1 g1 rh1 it o1 => ?_⟩
  obtain ⟨its, gd⟩ := p
  intro L hL
  -- the new list
  have rh2 : RepH g.K (m1 ++ [L]) (upd H1 L (.lst [])) (h1 ++ [.lst []]) := (new_lst (g := g) (.nil) rh1 hL).2
  have g2 : Grow m1 H1 (m1 ++ [L]) (upd H1 L (.lst [])) := .app hL
  have hl : (m1 ++ [L])[h1.length]? = some L := by rw [← rh1.len]; simp
  have s2 := (hs.mono g1).mono g2
  have it2 := it.mono g2
  have o2 : OutE g (m1 ++ [L]) (upd H1 L (.lst [])) σ Q (lcLoop gd h1.length T C A (wipeD ds own) its (h1 ++ [.lst []])) := OutE.mono o1 g2
  generalize (m1 ++ [L]) = m2 at rh2 g2 hl s2 it2 o2
  generalize (upd H1 L (.lst [])) = H2 at rh2 g2 s2 it2 o2 ⊢
  generalize h1.length = l at hl o2
  generalize (h1 ++ [AO.lst []]) = h2 at rh2 o2
  refine ⟨fun i k H => k = its.length - i ∧ i ≤ its.length ∧ ∃ m h, Grow m2 H2 m H ∧ RepH g.K m H h ∧ OutE g m H σ Q (lcLoop gd l T C A (wipeD ds own) (its.drop i) h), ⟨_, rfl, Nat.zero_le _, m2, h2, .refl _ _, rh2, o2⟩, ?_⟩
  rintro i k H3 ⟨rfl, hi, m3, h3, g3, rh3, o3⟩
  have hl3 : m3[l]? = some L := by
    obtain ⟨⟨r, rfl⟩, _, _, _⟩ := g3
    obtain ⟨q, _⟩ := List.getElem?_eq_some_iff.mp hl
    rw [List.getElem?_append_left q]; exact hl
  by_cases hlt : i < its.length
  · have hd : its.drop i = its[i] :: its.drop (i + 1) := List.drop_eq_getElem_cons hlt
    rw [hd] at o3
    unfold lcLoop at o3
    by_cases hgd : gd h3
    · rw [if_pos hgd] at o3
      obtain ⟨f1, _⟩ := it2 i m3 H3 h3 g3 rh3 hgd
      obtain ⟨go, yl⟩ := f1 its[i] (List.getElem?_eq_getElem hlt)
      refine .inr ⟨go, fun H => ∃ m h, Grow m2 H2 m H ∧ RepH g.K m H h ∧ OutE g m H σ Q (lcLoop gd l T C A (wipeD ds own) (its.drop (i + 1)) h), fun H' ⟨m', h', w⟩ => ⟨its.length - (i + 1), by omega, rfl, hlt, m', h', w⟩, fun x H4 y => ?_⟩
      obtain ⟨g4, r4, rh4⟩ := yl x H4 y
      cases w : T its[i] (wipeD ds own) h3 with
      | nx ds5 h5 =>
        rw [w] at o3
        obtain rfl := ct.keep _ _ _ _ _ w
        refine ct.run m3 its[i] (wipeD ds own) ds5 h5 h5 x σ H4 _ r4 (((s2.mono g3).mono g4).wipe own) w fun σ5 hw5 s5 => ?_
        have o5 := OutE.mono o3 g4
        refine ⟨m3, ds5, h5, s5, rh4, ?_⟩
        have gg := g3.trans g4
        change OutE g m3 H4 σ Q ((C ds5 h5).noX.bind _) at o5
        cases c5 : C ds5 h5 with
        | exc c h6 => rw [c5] at o5; exact o5.elim
        | bad => rw [c5] at o5; exact o5
        | ok b h6 =>
          rw [c5, R.noX_ok, R.bind_ok] at o5
          intro m6 H6 g6 rh6
          cases b with
          | false =>
            rw [if_neg Bool.false_ne_true] at o5 ⊢
            exact ⟨m6, h6, gg.trans g6, rh6, OutE.mono o5 g6⟩
          | true =>
            rw [if_pos rfl] at o5 ⊢
            refine ⟨m6, ds5, h6, s5.mono g6, rh6, ?_⟩
            cases a6 : A ds5 h6 with
            | exc c h7 => rw [a6] at o5; exact o5.elim
            | bad => rw [a6] at o5; exact o5
            | ok yd h7 =>
              rw [a6, R.noX_ok, R.bind_ok] at o5
              intro yv m7 H7 g7 r7 rh7
              have hl7 : m7[l]? = some L := by
                obtain ⟨⟨r, rfl⟩, _, _, _⟩ := g4.trans (g6.trans g7)
                obtain ⟨q, _⟩ := List.getElem?_eq_some_iff.mp hl3
                rw [List.getElem?_append_left q]; exact hl3
              cases e7 : h7[l]? with
              | none => rw [e7] at o5; exact o5.elim
              | some ao =>
                cases ao with
                | lst acc =>
                  rw [e7] at o5
                  change OutE g m3 H4 σ Q (if acc.length < LIM then _ else _) at o5
                  by_cases hz : acc.length < LIM
                  · rw [if_pos hz] at o5
                    obtain ⟨vs, hv, rl⟩ := rh7.lst hl7 e7
                    have w8 : Grow m7 H7 m7 (upd H7 L (.lst (vs ++ [yv]))) := .write hv (fun _ z => nomatch z) (fun _ _ z => nomatch z) (fun _ z => nomatch z)
                    have rh8 : RepH g.K m7 (upd H7 L (.lst (vs ++ [yv]))) (h7.set l (.lst (acc ++ [yd]))) :=
                      rh7.write hl7 hv (fun _ z => nomatch z) (fun _ _ z => nomatch z) (fun _ z => nomatch z) ⟨_, upd_same, (rl.append (.cons r7 .nil)).mono w8⟩
                    refine ⟨vs, hv, ?_, m7, _, (gg.trans (g6.trans g7)).trans w8, rh8, OutE.mono o5 ((g6.trans g7).trans w8)⟩
                    rw [rl.length, sizeLine_eq]; exact hz
                  · rw [if_neg hz] at o5; exact o5.elim
                | _ => rw [e7] at o5; exact (show False from o5).elim
      | _ => rw [w] at o3; exact (show False from o3).elim
    · rw [if_neg hgd] at o3; exact o3.elim
  · have e : i = its.length := by omega
    subst e
    rw [List.drop_length] at o3
    unfold lcLoop at o3
    by_cases hgd : gd h3
    · rw [if_pos hgd] at o3
      exact .inl ⟨(it2 _ m3 H3 h3 g3 rh3 hgd).2 (Nat.le_refl _), o3 _ m3 H3 (.refl _ _) (by unfold RepV; exact ⟨L, hl3, rfl⟩) rh3⟩
    · rw [if_neg hgd] at o3; exact o3.elim
/-- tests of a clause -/
theorem tms_nil {X : Cx} {g : Cfg} : PTs X [] (tT g yesM) := ⟨fun _ _ _ H _ I ⟨m, ds, h, hs, rh, o⟩ => wpAny_tests_nil ⟨H, I, o m H (.refl _ _) rh⟩⟩
section
variable {X : Cx} {g : Cfg} {tg elt iter : Expr} {ifs : List Expr} {scope : Scope} {own : List (Str × Nat)} {pos spos py : Pos} {I : IM} {T : GM} {C : TM} {A : EM} {t : TG}
theorem em_lc (hc : X.calm = true) (hN : X.N.Nodup) (hi : PI X tg iter (tI g I)) (ok : BlkOk X.N X.env.scope scope own) (ct : CT g.K (own.map (·.2)) t T)
    (hg : ∀ (s : Shared) (H : Hp) (C : Addr) (cl : List (Str × Addr)) (fp : List Addr), PG (X.blk s H scope (compEnvC scope cl C X.env) fp) tg t)
    (ht : ∀ (s : Shared) (H : Hp) (Ca : Addr) (cl : List (Str × Addr)) (fp : List Addr), PTs (X.blk s H scope (compEnvC scope cl Ca X.env) fp) ifs (tT (noW g.K) C))
    (he : ∀ (s : Shared) (H : Hp) (C : Addr) (cl : List (Str × Addr)) (fp : List Addr), PE (X.blk s H scope (compEnvC scope cl C X.env) fp) elt (tM (noW g.K) A)) (hs : ∀ x, foldedSetIterable iter X.env x = pure x := by intro _; rfl) :
    PE X (.ListComp elt [⟨tg, iter, ifs, 0⟩] scope pos) (tM g (lcM (own.map (·.2)) I T C A)) := PE.weak (pe_lc hc hN hi ok hg ht he hs) fun σ H Q q => lc_read q ct
end
/-- what a def makes of its arguments and the objects -/
abbrev Fm := List D → Hs → R D
def OutC (K : PySem.W.Frag) (m : List Addr) (H : Hp) (Q : VK) (E : XK) : R D → Prop
  | .ok d h' => ∀ v m' H', Grow m H m' H' → RepV K m' H' d v → RepH K m' H' h' → Q v H'
  | .exc c h' => ∀ m' H', Grow m H m' H' → RepH K m' H' h' → E (.ref (He.ga K c)) none H'
  | .bad => False
def spM (K : PySem.W.Frag) (n : Nat) (φ : Fm) : Sp := fun vs H Q E => vs.length = n ∧ ∃ m ds h, RepL K m H ds vs ∧ RepH K m H h ∧ OutC K m H Q E (φ ds h)
def callM (φ : Fm) (A : AM) : EM := fun ds h => (A ds h).bind fun xs h => φ xs h
theorem callS_read {g : Cfg} {n : Nat} {φ : Fm} {As : AM} {σ : St} {H : Hp} {Q : VK} (ar : ∀ xs h, xs.length ≠ n → φ xs h = .bad) (q : tM g (callM φ As) σ H Q) : tCallS (spM g.K n φ) (WE g.W) (tA g As) σ H Q := by
  obtain ⟨m, ds, h, hs, rh, o⟩ := q
  refine ⟨m, ds, h, hs, rh, OutA.toE o fun xs h' vs m' H' w rl rh' o' => ?_⟩
  by_cases hl : xs.length = n
  · refine ⟨by rw [rl.length]; exact hl, m', xs, h', rl, rh', ?_⟩
    cases e : φ xs h' with
    | ok d h2 => rw [e] at o'; exact o'
    | exc c h2 => rw [e] at o'; exact o'
    | bad => rw [e] at o'; exact o'
  · rw [ar _ _ hl] at o'; exact o'.elim
/-- a def of the top, as its callers see it: at this level it does φ -/
structure FnAt (P : Program) (w : World) (K : PySem.W.Frag) (mg : Str → Option Value) (base : Heap) (k : Nat) (x : Str) (ps : List Str) (φ : Fm) : Prop where
  ex : ∃ f fd, mg x = some (.ref f) ∧ PySem.W.keepIn K (.ref f) = true ∧ Binds K fd ps [] ∧ FnOk P w K mg base (L2.CX P w) k f fd ps (spM K ps.length φ)
  ar : ∀ xs h, xs.length ≠ ps.length → φ xs h = .bad
section
variable {X : Cx} {g : Cfg} {e : Expr} {es : List Expr} {As : AM} {x : Str} {p pos : Pos} {k : Nat} {ps : List Str} {φ : Fm}
theorem em_call (F : FnAt X.prog X.w X.K X.mg X.base k x ps φ) (hK : X.K = g.K) (hr : Room k X.A) (tk : Takes X g.W) (hg : Gl X x) (ha : PA X (e :: es) (tA g As)) (hdb : (x == ("__debug__" : Str)) = false := by decide) (he : starEach (e :: es) X.env = (false, eval e X.env) :: starEach es X.env := by rfl) (hpl : (backTo pos (starEach es X.env)).any (·.1) = false := by rfl) :
    PE X (.Call (.Name x p) (e :: es) [] pos) (tM g (callM φ As)) := by
  obtain ⟨f, fd, hm, hk, hb, G⟩ := F.ex
  rw [hK] at G
  refine PE.weak (pe_callS (E := WE g.W) (by rw [hK]; exact G) hr hg hm hk hb (passAt tk) ha hdb he hpl) fun σ H Q q => callS_read F.ar q
end
end DV
namespace DV
open PySem PySem.Spec PyProof.Rows L2
mutual
def noloc : D → Bool
  | .loc _ => false
  | .tup ds => nolocL ds
  | .non => true
  | .bl _ => true
  | .int _ => true
  | .str _ => true
  | .ro _ => true
  | .exn _ => true
def nolocL : List D → Bool
  | [] => true
  | d :: ds => noloc d && nolocL ds
end
section
variable {K : PySem.W.Frag}
mutual
theorem RepV.free {m m' : List Addr} {H : Hp} : ∀ {d : D} {v : V}, noloc d = true → RepV K m H d v → RepV K m' H d v
  | .non, _, _, h => h
  | .bl _, _, _, h => h
  | .int _, _, _, h => h
  | .str _, _, _, h => h
  | .ro _, _, _, h => h
  | .exn _, _, _, h => h
  | .tup ds, v, n, h => by
    unfold RepV at h ⊢
    obtain ⟨a, xs, e, ha, hl⟩ := h
    exact ⟨a, xs, e, ha, RepL.free (by unfold noloc at n; exact n) hl⟩
  | .loc l, v, n, h => by unfold noloc at n; cases n
theorem RepL.free {m m' : List Addr} {H : Hp} : ∀ {ds : List D} {xs : List V}, nolocL ds = true → RepL K m H ds xs → RepL K m' H ds xs
  | [], _, _, h => h
  | d :: ds, xs, n, h => by
    unfold RepL at h ⊢
    unfold nolocL at n
    obtain ⟨n1, n2⟩ := Bool.and_eq_true_iff.mp n
    obtain ⟨x, r, e, h1, h2⟩ := h
    exact ⟨x, r, e, RepV.free n1 h1, RepL.free n2 h2⟩
end
mutual
/-- what stood for it by fewer numbers still does -/
theorem RepV.shrink {m0 r : List Addr} {H0 H : Hp} : ∀ {d : D} {v0 v : V}, RepV K m0 H0 d v0 → RepV K (m0 ++ r) H d v → RepV K m0 H d v
  | .non, _, _, _, h => h
  | .bl _, _, _, _, h => h
  | .int _, _, _, _, h => h
  | .str _, _, _, _, h => h
  | .ro _, _, _, _, h => h
  | .exn _, _, _, _, h => h
  | .tup ds, v0, v, n, h => by
    unfold RepV at h n ⊢
    obtain ⟨a0, xs0, _, _, hl0⟩ := n
    obtain ⟨a, xs, e, ha, hl⟩ := h
    exact ⟨a, xs, e, ha, RepL.shrink hl0 hl⟩
  | .loc l, v0, v, n, h => by
    unfold RepV at h n ⊢
    obtain ⟨a0, ha0, _⟩ := n
    obtain ⟨a, ha, e⟩ := h
    obtain ⟨hl, _⟩ := List.getElem?_eq_some_iff.mp ha0
    rw [List.getElem?_append_left hl] at ha
    exact ⟨a, ha, e⟩
theorem RepL.shrink {m0 r : List Addr} {H0 H : Hp} : ∀ {ds : List D} {xs0 xs : List V}, RepL K m0 H0 ds xs0 → RepL K (m0 ++ r) H ds xs → RepL K m0 H ds xs
  | [], _, _, _, h => h
  | d :: ds, xs0, xs, n, h => by
    unfold RepL at h n ⊢
    obtain ⟨x0, r0, _, n1, n2⟩ := n
    obtain ⟨x, r, e, h1, h2⟩ := h
    exact ⟨x, r, e, RepV.shrink n1 h1, RepL.shrink n2 h2⟩
end
theorem RepO.shrink {m0 r : List Addr} {H0 H : Hp} {a a0 : Addr} {o : AO} (n : RepO K m0 H0 a0 o) (h : RepO K (m0 ++ r) H a o) : RepO K m0 H a o := by
  cases o with
  | lst ds => obtain ⟨xs0, _, n⟩ := n; obtain ⟨xs, e, h⟩ := h; exact ⟨xs, e, n.shrink h⟩
  | dct kvs => obtain ⟨xs0, _, _, n⟩ := n; obtain ⟨xs, e, k, h⟩ := h; exact ⟨xs, e, k, n.shrink h⟩
  | fdc kvs => obtain ⟨_, xs0, _, _, n⟩ := n; obtain ⟨ob, xs, e, k, h⟩ := h; exact ⟨ob, xs, e, k, n.shrink h⟩
  | dcT kvs => obtain ⟨xs0, _, _, n⟩ := n; obtain ⟨xs, e, k, h⟩ := h; exact ⟨xs, e, k, n.shrink h⟩
  | ins C fs => obtain ⟨_, xs0, _, _, n⟩ := n; obtain ⟨dx, xs, e, k, h⟩ := h; exact ⟨dx, xs, e, k, n.shrink h⟩
/-- an object without numbers in it -/
def nolocO : AO → Bool
  | .lst ds => nolocL ds
  | .dct kvs => nolocL (kvs.map (·.2))
  | .fdc kvs => nolocL (kvs.map (·.2))
  | .dcT kvs => nolocL (kvs.map (·.2))
  | .ins _ fs => nolocL (fs.map (·.2))
theorem RepO.free {m m' : List Addr} {H : Hp} {a : Addr} {o : AO} (n : nolocO o = true) (h : RepO K m H a o) : RepO K m' H a o := by
  cases o with
  | lst ds => obtain ⟨xs, e, h⟩ := h; exact ⟨xs, e, h.free n⟩
  | dct kvs => obtain ⟨xs, e, k, h⟩ := h; exact ⟨xs, e, k, h.free n⟩
  | fdc kvs => obtain ⟨ob, xs, e, k, h⟩ := h; exact ⟨ob, xs, e, k, h.free n⟩
  | dcT kvs => obtain ⟨xs, e, k, h⟩ := h; exact ⟨xs, e, k, h.free n⟩
  | ins C fs => obtain ⟨dx, xs, e, k, h⟩ := h; exact ⟨dx, xs, e, k, h.free n⟩
theorem Grow.cut {m m' : List Addr} {H H' : Hp} (g : Grow m H m' H') : Grow m H m H' := ⟨⟨[], by simp⟩, g.tup, g.frz, g.ext⟩
/-- back to the old objects, each as it was or without numbers -/
theorem RepH.cut {m m' : List Addr} {H H' : Hp} {h h' : Hs} (r0 : RepH K m H h) (r : RepH K m' H' h') (g : Grow m H m' H') (c : ∀ (i : Nat) (o : AO), i < h.length → h'[i]? = some o → h[i]? = some o ∨ nolocO o = true) : RepH K m H' (h'.take h.length) := by
  obtain ⟨⟨q, rfl⟩, _, _⟩ := g
  have l1 := r.len
  have l0 := r0.len
  rw [List.length_append] at l1
  refine ⟨by rw [List.length_take]; omega, (List.nodup_append.mp r.nd).1, fun i a o hi ho => ?_⟩
  obtain ⟨hl, _⟩ := List.getElem?_eq_some_iff.mp hi
  have hlt : i < h.length := by omega
  rw [List.getElem?_take_of_lt hlt] at ho
  have ro := r.at_ i a o (by rw [List.getElem?_append_left hl]; exact hi) ho
  rcases c i o hlt ho with e | e
  · exact (r0.at_ i a o hi e).shrink ro
  · exact ro.free e
end
open Classical in
/-- nothing is changed, a value without objects comes back -/
noncomputable def nPure (φ : Fm) : Fm := fun xs h => match φ xs h with
  | .ok d h' => if noloc d = true ∧ h'.take h.length = h then .ok d h else .bad
  | .exc c h' => if h'.take h.length = h then .exc c h else .bad
  | .bad => .bad
open Classical in
/-- nothing is changed, a new list or dict comes back, without objects in it -/
noncomputable def nNew (φ : Fm) : Fm := fun xs h => match φ xs h with
  | .ok (.loc l) h' => (match h'[l]? with
    | some o => if h.length ≤ l ∧ h'.take h.length = h ∧ nolocO o = true then .ok (.loc h.length) (h ++ [o]) else .bad
    | none => .bad)
  | .exc c h' => if h'.take h.length = h then .exc c h else .bad
  | _ => .bad
open Classical in
/-- old objects may be changed, but to such without objects in them; a value without objects comes back -/
noncomputable def nEff (φ : Fm) : Fm := fun xs h => match φ xs h with
  | .ok d h' => if noloc d = true ∧ (∀ (i : Nat) (o : AO), i < h.length → h'[i]? = some o → h[i]? = some o ∨ nolocO o = true) then .ok d (h'.take h.length) else .bad
  | .exc c h' => if (∀ (i : Nat) (o : AO), i < h.length → h'[i]? = some o → h[i]? = some o ∨ nolocO o = true) then .exc c (h'.take h.length) else .bad
  | .bad => .bad
section
variable {K : PySem.W.Frag} {m : List Addr} {H : Hp} {Q : VK} {E : XK} {φ : Fm} {xs : List D} {h : Hs}
theorem take_same {h h' : Hs} (e : h'.take h.length = h) : ∀ (i : Nat) (o : AO), i < h.length → h'[i]? = some o → h[i]? = some o ∨ nolocO o = true := fun i o hl ho => .inl (by
  rw [← List.getElem?_take_of_lt hl, e] at ho; exact ho)
theorem nPure_ok (rh : RepH K m H h) (o : OutC K m H Q E (nPure φ xs h)) : OutC K m H Q E (φ xs h) := by
  unfold nPure at o
  cases q : φ xs h with
  | ok d h' =>
    rw [q] at o
    simp only at o
    split at o
    · rename_i c
      intro v m' H' g rv rh'
      have := rh.cut rh' g (take_same c.2)
      rw [c.2] at this
      exact o v m H' g.cut (rv.free c.1) this
    · exact o.elim
  | exc c h' =>
    rw [q] at o
    simp only at o
    split at o
    · rename_i e
      intro m' H' g rh'
      have := rh.cut rh' g (take_same e)
      rw [e] at this
      exact o m H' g.cut this
    · exact o.elim
  | bad => rw [q] at o; exact o
theorem nNew_ok (rh : RepH K m H h) (o : OutC K m H Q E (nNew φ xs h)) : OutC K m H Q E (φ xs h) := by
  unfold nNew at o
  cases q : φ xs h with
  | ok d h' =>
    rw [q] at o
    cases d with
    | loc l =>
      cases e : h'[l]? with
      | none => simp only [e] at o; exact o.elim
      | some ob =>
        simp only [e] at o
        split at o
        · rename_i c
          obtain ⟨c1, c2, c3⟩ := c
          intro v m' H' g rv rh'
          unfold RepV at rv
          obtain ⟨a, ha, rfl⟩ := rv
          have r1 := rh.cut rh' g (take_same c2)
          rw [c2] at r1
          have ro : RepO K (m ++ [a]) H' a ob := (rh'.at_ l a ob ha e).free c3
          have hn : a ∉ m := fun hm => by
            obtain ⟨⟨q, rfl⟩, _, _⟩ := g
            obtain ⟨i, hi⟩ := List.mem_iff_getElem?.mp hm
            obtain ⟨hl, e1⟩ := List.getElem?_eq_some_iff.mp hi
            have hi' : (m ++ q)[i]? = some a := by rw [List.getElem?_append_left hl]; exact hi
            obtain ⟨q1, e1⟩ := List.getElem?_eq_some_iff.mp hi'
            obtain ⟨q2, e2⟩ := List.getElem?_eq_some_iff.mp ha
            have := (List.getElem_inj rh'.nd).mp (e1.trans e2.symm)
            have := rh.len
            omega
          refine o (.ref a) (m ++ [a]) H' ⟨⟨[a], rfl⟩, g.tup, g.frz, g.ext⟩ (by unfold RepV; exact ⟨a, by rw [← rh.len]; simp, rfl⟩) ⟨by simp [rh.len], ?_, fun i b ob' hi hb => ?_⟩
          · exact List.nodup_append.mpr ⟨r1.nd, by simp, fun x hx y hy z => hn (by simp at hy; rw [← hy, ← z]; exact hx)⟩
          · by_cases hl : i < m.length
            · rw [List.getElem?_append_left hl] at hi
              rw [List.getElem?_append_left (by rw [← rh.len]; exact hl)] at hb
              exact (r1.at_ i b ob' hi hb).keep ⟨⟨[a], rfl⟩, fun _ _ z => z, fun _ _ _ z => z, fun _ _ z => z⟩ rfl
            · have hz : i = m.length := by
                obtain ⟨q, _⟩ := List.getElem?_eq_some_iff.mp hi
                simp at q; omega
              subst hz
              simp at hi
              rw [rh.len] at hb
              simp at hb
              subst hi hb
              exact ro
        · exact o.elim
    | _ => exact (show False from o).elim
  | exc c h' =>
    rw [q] at o
    simp only at o
    split at o
    · rename_i e
      intro m' H' g rh'
      have := rh.cut rh' g (take_same e)
      rw [e] at this
      exact o m H' g.cut this
    · exact o.elim
  | bad => rw [q] at o; exact o
theorem nEff_ok (rh : RepH K m H h) (o : OutC K m H Q E (nEff φ xs h)) : OutC K m H Q E (φ xs h) := by
  unfold nEff at o
  cases q : φ xs h with
  | ok d h' =>
    rw [q] at o
    simp only at o
    split at o
    · rename_i c
      intro v m' H' g rv rh'
      exact o v m H' g.cut (rv.free c.1) (rh.cut rh' g c.2)
    · exact o.elim
  | exc c h' =>
    rw [q] at o
    simp only at o
    split at o
    · rename_i e
      intro m' H' g rh'
      exact o m H' g.cut (rh.cut rh' g e)
    · exact o.elim
  | bad => rw [q] at o; exact o
end
/-- a kind of end -/
structure Nrm where
  f : Fm → Fm
  ok : ∀ (K : PySem.W.Frag) (m : List Addr) (H : Hp) (Q : VK) (E : XK) (φ : Fm) (xs : List D) (h : Hs), RepH K m H h → OutC K m H Q E (f φ xs h) → OutC K m H Q E (φ xs h)
  ar : ∀ (φ : Fm) (n : Nat), (∀ xs h, xs.length ≠ n → φ xs h = .bad) → ∀ xs h, xs.length ≠ n → f φ xs h = .bad
noncomputable def kPure : Nrm := ⟨nPure, fun _ _ _ _ _ _ _ _ => nPure_ok, fun φ n a xs h l => by unfold nPure; rw [a xs h l]⟩
noncomputable def kNew : Nrm := ⟨nNew, fun _ _ _ _ _ _ _ _ => nNew_ok, fun φ n a xs h l => by unfold nNew; rw [a xs h l]⟩
noncomputable def kEff : Nrm := ⟨nEff, fun _ _ _ _ _ _ _ _ => nEff_ok, fun φ n a xs h l => by unfold nEff; rw [a xs h l]⟩
def kRaw : Nrm := ⟨fun φ => φ, fun _ _ _ _ _ _ _ _ _ o => o, fun _ _ a => a⟩
def startD (nN : Nat) (xs : List D) : Sl := xs.map some ++ List.replicate (nN - xs.length) none
def runM (np nN : Nat) (M : SM) : Fm := fun xs h => if xs.length = np then (match M (startD nN xs) h with
  | .nx _ h => .ok .non h
  | .rt d h => .ok d h
  | .exc c _ h => .exc c h
  | _ => .bad) else .bad
theorem runM_ar (np nN : Nat) (M : SM) : ∀ xs h, xs.length ≠ np → runM np nN M xs h = .bad := fun xs h l => if_neg l
theorem repS_start {K : PySem.W.Frag} {m : List Addr} {H : Hp} {N : List Str} : ∀ {xs : List D} {vs : List V}, RepL K m H xs vs → RepS K m H (startD N.length xs) (start N vs) := by
  intro xs vs r
  have rep : ∀ n : Nat, RepS K m H (List.replicate n none) (List.replicate n none) := fun n => by
    induction n with
    | zero => exact trivial
    | succ n ih => exact ⟨fun d e => (nomatch e), ih⟩
  have gen : ∀ (n : Nat) (xs : List D) (vs : List V), RepL K m H xs vs → RepS K m H (xs.map some ++ List.replicate n none) (vs.map some ++ List.replicate n none) := by
    intro n xs
    induction xs with
    | nil => intro vs r; unfold RepL at r; subst r; exact rep n
    | cons x xs ih =>
      intro vs r
      unfold RepL at r
      obtain ⟨v, vr, rfl, h1, h2⟩ := r
      exact ⟨fun d e => by cases e; exact ⟨v, rfl, h1⟩, ih vr h2⟩
  unfold startD L2.start
  rw [r.length]
  exact gen _ xs vs r
section
variable {P : Program} {w : World} {K : PySem.W.Frag} {mg : Str → Option Value} {base : Heap} {x qual : Str} {params : Arguments} {body : List Stmt} {scope : Scope} {f : Addr} {fd : FuncData}
theorem def_ok {N ps : List Str} {k : Nat} {M : SM} (kd : Nrm) (F : FunD K x qual params body scope [] [] f fd) (S : FnScope N ps scope)
    (hb : ∀ (cdv : Value) (A : Around) (outer : List Env) (s : Shared) (H : Hp) (E : XK) (W : WX), Room k (A.deeper (envOfC qual scope s.heap.objs.size f cdv)) → Takes (cxOf (L2.CX P w) P w K mg base N qual scope f cdv A outer s H E) W →
      PSs (cxOf (L2.CX P w) P w K mg base N qual scope f cdv A outer s H E) body (tS ⟨K, W⟩ M)) : FnOk P w K mg base (L2.CX P w) (k + 1) f fd ps (spM K ps.length (kd.f (runM ps.length N.length M))) := by
  refine F.ok S (fun vs H Q E h => h.1) fun cdv A outer s H vs Q E hr h => ?_
  obtain ⟨hl, m, ds, hs, rl, rh, o⟩ := h
  have o := kd.ok K m H Q E _ ds hs rh o
  refine ⟨_, hb cdv A outer s H E (fun cls d _ H => E cls d H) hr (takes_of rfl rfl rfl rfl), m, startD N.length ds, hs, repS_start rl, rh, ?_⟩
  unfold runM at o
  rw [if_pos (by rw [← rl.length]; exact hl)] at o
  cases q : M (startD N.length ds) hs with
  | nx ds1 h1 => rw [q] at o; exact fun σ' m' H' g r rh' => o .non m' H' g (by unfold RepV; rfl) rh'
  | rt d h1 => rw [q] at o; exact fun v m' H' g r rh' => o v m' H' g r rh'
  | exc c ds1 h1 => rw [q] at o; exact fun σ' m' H' g r rh' => o m' H' g rh'
  | bk ds1 h1 => rw [q] at o; exact o.elim
  | ct ds1 h1 => rw [q] at o; exact o.elim
  | bad => rw [q] at o; exact o.elim
/-- nothing is told at level 0 -/
theorem fnAt_zero {ps : List Str} (F : FunD K x qual params body scope [] [] f fd) (hm : mg x = some (.ref f)) (hb : Binds K fd ps []) : FnAt P w K mg base 0 x ps fun _ _ => .bad :=
  ⟨⟨f, fd, hm, F.kp, hb, ⟨fun vs H Q E h => h.1, fun A outer s H args us vs Q E _ _ _ _ h => by obtain ⟨_, m, ds, hs, _, _, o⟩ := h; exact o.elim⟩⟩, fun _ _ _ => rfl⟩
end
end DV
namespace DV
open PySem PySem.Spec PyProof.Rows L2
def intF (g : Int → Int → Option D) : VF2
  | .int i, .int j, h => (g i j).map fun d => (d, h)
  | _, _, _ => none
theorem intF_inv {g : Int → Int → Option D} {x y : D} {h : Hs} {p : D × Hs} (e : intF g x y h = some p) : ∃ i j d, x = .int i ∧ y = .int j ∧ g i j = some d ∧ p = (d, h) := by
  unfold intF at e
  split at e
  · rename_i i j
    cases q : g i j with
    | none => rw [q] at e; cases e
    | some d => rw [q] at e; exact ⟨i, j, d, rfl, rfl, q, (Option.some.inj e).symm⟩
  · cases e
def ipF (C : Int → Int → Bool) (g : Int → Int → Int) : VF2 := intF fun i j => if C i j = true then some (.int (g i j)) else none
def cmpF (p : Int → Int → Bool) : VF2 := intF fun i j => some (.bl (p i j))
noncomputable def cMul (i j : Int) : Bool := cB ((-18446744073709551616 < i ∧ i < 18446744073709551616) ∨ (-18446744073709551616 < j ∧ j < 18446744073709551616))
noncomputable def cDiv (_ j : Int) : Bool := cB (0 < j ∧ j < 1073741824)
noncomputable def cMod (_ j : Int) : Bool := cB (0 < j)
noncomputable def cPow (i j : Int) : Bool := cB (0 ≤ j ∧ j ≤ 1000000 ∧ i.natAbs < 18446744073709551616)
def subF : VF2 := ipF (fun _ _ => true) fun i j => i - j
noncomputable def fdivF : VF2 := ipF cDiv fun i j => i / j
noncomputable def modF : VF2 := ipF cMod fun i j => i % j
noncomputable def powF : VF2 := ipF cPow fun i j => i ^ j.toNat
def ltF : VF2 := cmpF fun i j => decide (i < j)
def gtF : VF2 := cmpF fun i j => decide (j < i)
def geF : VF2 := cmpF fun i j => decide (j ≤ i)
def negF : D → Hs → Res
  | .int i, h => some (.int (-i), h)
  | _, _ => none
section
variable {X : Cx} {K : PySem.W.Frag} {f : Value → Value → Sem Value}
theorem ip_ok {C : Int → Int → Bool} {P : Int → Int → Prop} {g : Int → Int → Int} (op : OpR X f (rI P fun i j => .int (g i j))) (hc : ∀ i j, C i j = true → P i j) : OpR X f (rV K (ipF C g)) := by
  intro pns s σ H x y v u Q I rx ry h
  obtain ⟨m, hs, dx, dy, r1, r2, rh, o⟩ := h
  cases e : ipF C g dx dy hs with
  | none => rw [e] at o; exact o.elim
  | some p =>
    rw [e] at o
    obtain ⟨i, j, d, rfl, rfl, q, rfl⟩ := intF_inv e
    unfold RepV at r1 r2
    subst r1 r2
    split at q
    · rename_i c
      cases q
      exact op pns s σ H _ _ v u Q I rx ry ⟨i, j, rfl, rfl, hc i j c, o _ m H (.refl _ _) (by unfold RepV; rfl) rh⟩
    · cases q
theorem cmp_ok {p : Int → Int → Bool} (op : OpR X f (rI0 fun i j => .bl (p i j))) : OpR X f (rV K (cmpF p)) := by
  intro pns s σ H x y v u Q I rx ry h
  obtain ⟨m, hs, dx, dy, r1, r2, rh, o⟩ := h
  cases e : cmpF p dx dy hs with
  | none => rw [e] at o; exact o.elim
  | some q =>
    rw [e] at o
    obtain ⟨i, j, d, rfl, rfl, q, rfl⟩ := intF_inv e
    unfold RepV at r1 r2
    subst r1 r2
    cases q
    exact op pns s σ H _ _ v u Q I rx ry ⟨i, j, rfl, rfl, o _ m H (.refl _ _) (by unfold RepV; rfl) rh⟩
theorem o_sub : OpR X (binaryOp .Sub) (rV K subF) := ip_ok (P := fun _ _ => True) (fun pns s σ H x y v u Q I rx ry ⟨i, j, e1, e2, _, q⟩ => op_sub pns s σ H x y v u Q I rx ry ⟨i, j, e1, e2, q⟩) fun _ _ _ => trivial
theorem o_fdiv : OpR X (binaryOp .FloorDiv) (rV K fdivF) := ip_ok op_fdiv fun i j h => cB_iff.mp h
theorem o_mod : OpR X (binaryOp .Mod) (rV K modF) := ip_ok op_mod fun i j h => cB_iff.mp h
theorem o_pow : OpR X (binaryOp .Pow) (rV K powF) := ip_ok op_pow fun i j h => cB_iff.mp h
theorem o_lt : OpR X (compareOp .Lt) (rV K ltF) := cmp_ok op_lt
theorem o_gt : OpR X (compareOp .Gt) (rV K gtF) := cmp_ok op_gt
theorem o_ge : OpR X (compareOp .GtE) (rV K geF) := cmp_ok op_ge
end
theorem em_neg {X : Cx} {g : Cfg} {a : Expr} {A : EM} {pos : Pos} (ha : PE X a (tM g A)) : PE X (.UnaryOp .USub a pos) (tM g (unM negF A)) := by
  refine PE.weak (pe_un un_neg ha) fun σ H Q ⟨m, ds, h, hs, rh, o⟩ => ⟨m, ds, h, hs, rh, OutE.toE o fun d h1 v m1 H1 g1 r1 rh1 o1 => ?_⟩
  cases d with
  | int i => unfold RepV at r1; exact ⟨i, r1, o1 _ m1 H1 (.refl _ _) (by unfold RepV; rfl) rh1⟩
  | _ => exact (show False from o1).elim
def addF : VF2
  | .int i, .int j, h => some (.int (i + j), h)
  | .str a, .str b, h => if a.length + b.length ≤ LIM then some (.str (a ++ b), h) else none
  | .tup xs, .tup ys, h => if xs.length + ys.length ≤ LIM then some (.tup (xs ++ ys), h) else none
  | .loc a, .loc b, h => match h[a]?, h[b]? with
    | some (.lst xs), some (.lst ys) => if xs.length + ys.length ≤ LIM then some (.loc h.length, h ++ [.lst (xs ++ ys)]) else none
    | _, _ => none
  | .ro ns, .loc b, h => match h[b]? with
    | some (.lst ys) => if ns.length + ys.length ≤ LIM then some (.loc h.length, h ++ [.lst (ns.map D.int ++ ys)]) else none
    | _ => none
  | _, _, _ => none
section
variable {X : Cx} {K : PySem.W.Frag}
/-- list + list, read at any list -/
theorem op_catL : OpR X (binaryOp .Add) (fun x y H Q => ∃ l b xs zs, x = .ref l ∧ y = .ref b ∧ SqL X.K H l xs ∧ SqL X.K H b zs ∧ xs.length + zs.length ≤ sizeLine ∧ ∀ p, H p = none → Q (.ref p) (upd H p (.lst (xs ++ zs)))) := by
  intro pns s σ H x y v u Q I rx ry h
  obtain ⟨l, b, xs, zs, rfl, rfl, hH, hB, hz, q⟩ := h
  cases rx
  cases ry
  obtain ⟨its, r, pl, z⟩ := I.list hH
  obtain ⟨its2, r2, pl2, z2⟩ := I.list hB
  have hl := r.length
  have hl2 := r2.length
  obtain ⟨⟨cls, dd, data, sl⟩, ho, hc, n, hd⟩ := pl.isList
  obtain ⟨⟨cls2, dd2, data2, sl2⟩, ho2, hc2, n2, hd2⟩ := pl2.isList
  simp only at hc hd hc2 hd2
  subst hc hd hc2 hd2
  have e : its.toArray ++ its2.toArray = (its ++ its2).toArray := by simp
  refine concat_meets ⟨_, ho, rfl⟩ ⟨_, ho2, rfl⟩ noFill_list_add seq_list_add PySem.F.slot_list_add PySem.F.entry_list_add (PySem.F.args_list_add_2 _ _) (list_addW l b its.toArray its2.toArray n n2 dd dd2 sl sl2 (by simp only [List.size_toArray]; omega)) ⟨ho, ho2, ?_⟩
  rw [e]
  exact ⟨.ref _, _, I.lnew (t' := s.toks) (r.append r2) (by rw [List.length_append]; omega), rfl, q _ I.fresh⟩
theorem repL_ints {m : List Addr} {H : Hp} : ∀ ns : List Int, RepL K m H (ns.map D.int) (ns.map V.int)
  | [] => RepL.nil
  | n :: ns => .cons (by unfold RepV; rfl) (repL_ints ns)
/-- a list told, at its number -/
theorem new_lst' {m : List Addr} {H : Hp} {h : Hs} {xs : List D} {vs : List V} {p : Addr} {Q : VK} (rl : RepL K m H xs vs) (rh : RepH K m H h) (hp : H p = none) (o : OutV K m H Q (some (.loc h.length, h ++ [.lst xs]))) : Q (.ref p) (upd H p (.lst vs)) :=
  let ⟨q1, q2⟩ := new_lst (g := ⟨K, fun _ _ _ _ => False⟩) rl rh hp
  o _ _ _ (.app hp) q1 q2
theorem LIM_eq : sizeLine = LIM := sizeLine_eq
theorem o_add : OpR X (binaryOp .Add) (rV X.K addF) := by
  intro pns s σ H x y v u Q I rx ry h
  obtain ⟨m, hs, dx, dy, r1, r2, rh, o⟩ := h
  unfold addF at o
  split at o
  · unfold RepV at r1 r2
    subst r1 r2
    exact op_add pns s σ H _ _ v u Q I rx ry ⟨_, _, rfl, rfl, o _ m H (.refl _ _) (by unfold RepV; rfl) rh⟩
  · unfold RepV at r1 r2
    subst r1 r2
    split at o
    · rename_i hz
      exact op_add_str pns s σ H _ _ v u Q I rx ry ⟨_, _, rfl, rfl, by rw [LIM_eq]; exact hz, o _ m H (.refl _ _) (by unfold RepV; rfl) rh⟩
    · exact o.elim
  · unfold RepV at r1 r2
    obtain ⟨a, vs, rfl, ha, rl⟩ := r1
    obtain ⟨b, ws, rfl, hb, rl2⟩ := r2
    split at o
    · rename_i hz
      refine op_catA pns s σ H _ _ v u Q I rx ry ⟨a, b, vs, ws, rfl, rfl, SqT.of ha, SqT.of hb, by rw [LIM_eq, rl.length, rl2.length]; exact hz, fun e => ?_, fun e1 e => ?_, fun _ _ p hp => ?_⟩
      · have := rl.nil_iff.mp e
        subst this
        exact o _ m H (.refl _ _) (by unfold RepV; exact ⟨b, ws, rfl, hb, rl2⟩) rh
      · have := rl2.nil_iff.mp e
        subst this
        refine o _ m H (.refl _ _) ?_ rh
        show RepV X.K m H (.tup (_ ++ [])) _
        rw [List.append_nil]
        unfold RepV
        exact ⟨a, vs, rfl, ha, rl⟩
      · exact o _ m _ (.put hp) (by unfold RepV; exact ⟨p, _, rfl, upd_same, (rl.append rl2).mono (.put hp)⟩) (rh.put hp)
    · exact o.elim
  · unfold RepV at r1 r2
    obtain ⟨a, ha, rfl⟩ := r1
    obtain ⟨b, hb, rfl⟩ := r2
    split at o
    · rename_i xs ys e1 e2
      obtain ⟨vs, hv, rl⟩ := rh.lst ha e1
      obtain ⟨ws, hw, rl2⟩ := rh.lst hb e2
      split at o
      · rename_i hz
        exact op_catL pns s σ H _ _ v u Q I rx ry ⟨a, b, vs, ws, rfl, rfl, SqL.of hv, SqL.of hw, by rw [LIM_eq, rl.length, rl2.length]; exact hz, fun p hp => new_lst' (rl.append rl2) rh hp o⟩
      · exact o.elim
    · exact o.elim
  · unfold RepV at r1 r2
    obtain ⟨a, rfl, ha⟩ := r1
    obtain ⟨b, hb, rfl⟩ := r2
    split at o
    · rename_i ys e2
      obtain ⟨ws, hw, rl2⟩ := rh.lst hb e2
      split at o
      · rename_i hz
        exact op_catL pns s σ H _ _ v u Q I rx ry ⟨a, b, _, ws, rfl, rfl, ha.sq, SqL.of hw, by rw [LIM_eq, List.length_map, rl2.length]; exact hz, fun p hp => new_lst' ((repL_ints _).append rl2) rh hp o⟩
      · exact o.elim
    · exact o.elim
  · exact o.elim
/-- a text n times -/
def repS (z : Str) (n : Nat) : Str := ⟨((List.replicate n z.cps.toList).flatten).toArray⟩
theorem rep_fold (l : List Nat) : ∀ (k : Nat) (acc : List Nat), (List.replicate k l.toArray).foldl (fun p q => p ++ q) acc.toArray = (acc ++ (List.replicate k l).flatten).toArray
  | 0, acc => by simp
  | k + 1, acc => by
    have ih := rep_fold l k (acc ++ l)
    have e : acc.toArray ++ l.toArray = (acc ++ l).toArray := by simp
    rw [List.replicate_succ, List.foldl_cons, e, ih, List.replicate_succ, List.flatten_cons, List.append_assoc]
theorem rep_len (l : List Nat) (k : Nat) : (List.replicate k l).flatten.length = l.length * k := by
  induction k with
  | zero => simp
  | succ k ih => rw [List.replicate_succ, List.flatten_cons, List.length_append, ih, Nat.mul_succ, Nat.add_comm]
noncomputable def mulF : VF2
  | .int i, .int j, h => if cMul i j = true then some (.int (i * j), h) else none
  | .str z, .int j, h => if cB (-1000000 ≤ j ∧ j ≤ 1000000 ∧ z.length ≤ 1000000 ∧ z.length * j.toNat ≤ LIM) = true then some (.str (repS z j.toNat), h) else none
  | _, _, _ => none
theorem mul_strD {A : Around} {E : Value → Shared → Prop} {P : Program} {w : World} {s : Shared} {z : Str} {j : Int} {t u : Tok} {Q : Value → Shared → Prop} (c1 : -1000000 ≤ j) (c2 : j ≤ 1000000) (c3 : z.length ≤ 1000000) (c4 : z.length * j.toNat ≤ LIM)
    (q : ∀ t' tk, Q (.str (repS z j.toNat) t') { s with toks := tk }) : wpAny (model P w) A (binaryOp .Mult (.str z t) (.int j u)) Q E s := by
  have hz : z.length = z.cps.toList.length := by rw [Array.length_toList]; rfl
  refine PySem.P.mul_str (by rw [decide_eq_false (by omega), decide_eq_false (by omega)]; rfl) (fun h1 h2 h3 => ?_) (fun h1 h2 => ?_) ?_
  · have h5 : (1000000 : Int) ≤ (2 ^ 63 - 1) / j := (Int.le_ediv_iff_mul_le (by omega)).mpr (by omega)
    omega
  · show decide (_ > sizeLine) = false
    rw [LIM_eq]
    exact decide_eq_false (by omega)
  · have e1 : sizeLine = LIM := LIM_eq
    by_cases h1 : j < 1
    · rw [if_pos h1]
      have : j.toNat = 0 := by omega
      rw [this] at q
      exact ⟨by rw [e1]; decide, q _ _⟩
    · rw [if_neg h1]
      by_cases h2 : (j == 1 || z.length == 0) = true
      · rw [if_pos h2]
        have er : repS z j.toNat = z := by
          rcases Bool.or_eq_true_iff.mp h2 with h | h
          · have : j = 1 := eq_of_beq h
            subst this
            show (⟨((List.replicate 1 z.cps.toList).flatten).toArray⟩ : Str) = z
            simp
          · have h : z.length = 0 := eq_of_beq h
            have hl : z.cps.toList = [] := List.eq_nil_of_length_eq_zero (by omega)
            have hn : z.cps = #[] := Array.toList_inj.mp hl
            cases z with
            | mk cps => subst hn; unfold repS; simp
        have := q t s.toks
        rw [er] at this
        exact this
      · rw [if_neg h2]
        have ef : (List.replicate j.toNat z.cps).foldl (fun p q => p ++ q) #[] = ((List.replicate j.toNat z.cps.toList).flatten).toArray := by
          have := rep_fold z.cps.toList j.toNat []
          simpa using this
        refine ⟨?_, ?_⟩
        · rw [e1]
          show Array.size _ ≤ LIM
          rw [ef, List.size_toArray, rep_len, ← hz]
          exact c4
        · have := q s.toks (s.toks + 1)
          unfold repS at this
          rw [← ef] at this
          exact this
theorem o_mul : OpR X (binaryOp .Mult) (rV K mulF) := by
  intro pns s σ H x y v u Q I rx ry h
  obtain ⟨m, hs, dx, dy, r1, r2, rh, o⟩ := h
  unfold mulF at o
  split at o
  · unfold RepV at r1 r2
    subst r1 r2
    split at o
    · rename_i c
      refine op_mul pns s σ H _ _ v u Q I rx ry ⟨_, _, rfl, rfl, ?_, o _ m H (.refl _ _) (by unfold RepV; rfl) rh⟩
      exact cB_iff.mp c
    · exact o.elim
  · unfold RepV at r1 r2
    subst r1 r2
    split at o
    · rename_i c
      have c := cB_iff.mp c
      obtain ⟨t, rfl⟩ := rx
      obtain ⟨t', rfl⟩ := ry
      exact mul_strD c.1 c.2.1 c.2.2.1 c.2.2.2 fun t' tk => ⟨.str _, H, I.tok _, ⟨_, rfl⟩, o _ m H (.refl _ _) (by unfold RepV; rfl) rh⟩
    · exact o.elim
  · exact o.elim
end
mutual
/-- texts, numbers, None, and tuples of them -/
def pyOk : D → Bool
  | .non => true
  | .int _ => true
  | .str s => PyData.strOk s
  | .tup ds => pyOkL ds
  | .bl _ => false
  | .loc _ => false
  | .ro _ => false
  | .exn _ => false
def pyOkL : List D → Bool
  | [] => true
  | d :: ds => pyOk d && pyOkL ds
end
mutual
def depD : D → Nat
  | .tup ds => depL ds + 1
  | .non => 0
  | .int _ => 0
  | .str _ => 0
  | .bl _ => 0
  | .loc _ => 0
  | .ro _ => 0
  | .exn _ => 0
def depL : List D → Nat
  | [] => 0
  | d :: ds => max (depD d) (depL ds)
end
mutual
def toPy : D → PyData
  | .non => .none
  | .int i => .int i
  | .str s => .str s
  | .tup ds => .tuple (toPyL ds)
  | .bl b => .bool b
  | .loc _ => .none
  | .ro _ => .none
  | .exn _ => .none
def toPyL : List D → List PyData
  | [] => []
  | d :: ds => toPy d :: toPyL ds
end
mutual
theorem canLay_of : ∀ {d : D}, pyOk d = true → (toPy d).canLay0 = true
  | .non, _ => rfl
  | .int _, _ => rfl
  | .str s, k => by unfold pyOk at k; exact k
  | .tup ds, k => by unfold pyOk at k; exact canLay_ofL k
  | .bl _, _ => rfl
  | .loc _, _ => rfl
  | .ro _, _ => rfl
  | .exn _, _ => rfl
theorem canLay_ofL : ∀ {ds : List D}, pyOkL ds = true → PyData.canLayAll0 (toPyL ds) = true
  | [], _ => rfl
  | d :: ds, k => by
    unfold pyOkL at k
    obtain ⟨k1, k2⟩ := Bool.and_eq_true_iff.mp k
    show ((toPy d).canLay0 && PyData.canLayAll0 (toPyL ds)) = true
    rw [canLay_of k1, canLay_ofL k2]; rfl
end
mutual
theorem dep_toPy : ∀ d : D, (toPy d).depth = depD d
  | .non => rfl
  | .int _ => rfl
  | .str _ => rfl
  | .tup ds => by
    show PyData.depthAll (toPyL ds) + 1 = depL ds + 1
    rw [dep_toPyL ds]
  | .bl _ => rfl
  | .loc _ => rfl
  | .ro _ => rfl
  | .exn _ => rfl
theorem dep_toPyL : ∀ ds : List D, PyData.depthAll (toPyL ds) = depL ds
  | [] => rfl
  | d :: ds => by
    show max (toPy d).depth (PyData.depthAll (toPyL ds)) = max (depD d) (depL ds)
    rw [dep_toPy d, dep_toPyL ds]
end
mutual
theorem eqv_iff : ∀ {d e : D}, pyOk d = true → pyOk e = true → (PyData.eqv (toPy d) (toPy e) = true ↔ d = e)
  | .non, .non, _, _ => by simp [toPy, PyData.eqv]
  | .int i, .int j, _, _ => by simp [toPy, PyData.eqv]
  | .str i, .str j, _, _ => by simp [toPy, PyData.eqv]
  | .tup ds, .tup es, k1, k2 => by
    unfold pyOk at k1 k2
    have := eqv_iffL k1 k2
    simp only [toPy, PyData.eqv, D.tup.injEq]
    exact this
  | .non, .int _, _, _ => by simp [toPy, PyData.eqv]
  | .non, .str _, _, _ => by simp [toPy, PyData.eqv]
  | .non, .tup _, _, _ => by simp [toPy, PyData.eqv]
  | .int _, .non, _, _ => by simp [toPy, PyData.eqv]
  | .int _, .str _, _, _ => by simp [toPy, PyData.eqv]
  | .int _, .tup _, _, _ => by simp [toPy, PyData.eqv]
  | .str _, .non, _, _ => by simp [toPy, PyData.eqv]
  | .str _, .int _, _, _ => by simp [toPy, PyData.eqv]
  | .str _, .tup _, _, _ => by simp [toPy, PyData.eqv]
  | .tup _, .non, _, _ => by simp [toPy, PyData.eqv]
  | .tup _, .int _, _, _ => by simp [toPy, PyData.eqv]
  | .tup _, .str _, _, _ => by simp [toPy, PyData.eqv]
  | .bl _, _, k, _ => by unfold pyOk at k; cases k
  | .loc _, _, k, _ => by unfold pyOk at k; cases k
  | .ro _, _, k, _ => by unfold pyOk at k; cases k
  | .exn _, _, k, _ => by unfold pyOk at k; cases k
  | _, .bl _, _, k => by unfold pyOk at k; cases k
  | _, .loc _, _, k => by unfold pyOk at k; cases k
  | _, .ro _, _, k => by unfold pyOk at k; cases k
  | _, .exn _, _, k => by unfold pyOk at k; cases k
theorem eqv_iffL : ∀ {ds es : List D}, pyOkL ds = true → pyOkL es = true → (PyData.eqvAll (toPyL ds) (toPyL es) = true ↔ ds = es)
  | [], [], _, _ => by simp [toPyL, PyData.eqvAll]
  | [], _ :: _, _, _ => by simp [toPyL, PyData.eqvAll]
  | _ :: _, [], _, _ => by simp [toPyL, PyData.eqvAll]
  | d :: ds, e :: es, k1, k2 => by
    unfold pyOkL at k1 k2
    obtain ⟨a1, a2⟩ := Bool.and_eq_true_iff.mp k1
    obtain ⟨b1, b2⟩ := Bool.and_eq_true_iff.mp k2
    show (PyData.eqv (toPy d) (toPy e) && PyData.eqvAll (toPyL ds) (toPyL es)) = true ↔ _
    rw [Bool.and_eq_true_iff, eqv_iff a1 b1, eqv_iffL a2 b2, List.cons.injEq]
end
mutual
def pyW (φ : Nat → Option PyData) : D → Option PyData
  | .non => some .none
  | .bl b => some (.bool b)
  | .int i => some (.int i)
  | .str s => some (.str s)
  | .tup ds => (pyWL φ ds).map .tuple
  | .loc l => φ l
  | .ro ns => some (.list (ns.map .int))
  | .exn _ => none
def pyWL (φ : Nat → Option PyData) : List D → Option (List PyData)
  | [] => some []
  | d :: ds => (pyW φ d).bind fun p => (pyWL φ ds).map fun ps => p :: ps
end
def pyLoc : Nat → Hs → Nat → Option PyData
  | 0, _, _ => none
  | n + 1, h, l => match h[l]? with
    | some (.lst ds) => (pyWL (pyLoc n h) ds).map .list
    | _ => none
def pyH (h : Hs) (d : D) : Option PyData := pyW (pyLoc 4 h) d
section
variable {K : PySem.W.Frag} {m : List Addr} {H : Hp}
theorem dp_ints : ∀ ns : List Int, DpAll K H (ns.map V.int) (ns.map .int)
  | [] => .nil
  | n :: ns => .cons (.int n) (dp_ints ns)
mutual
theorem pyW_dp {φ : Nat → Option PyData} (hφ : ∀ l p v, φ l = some p → RepV K m H (.loc l) v → Dp K H v p) : ∀ {d : D} {v : V} {p : PyData}, pyW φ d = some p → RepV K m H d v → Dp K H v p
  | .non, _, _, e, r => by unfold RepV at r; subst r; cases e; exact .non
  | .bl b, _, _, e, r => by unfold RepV at r; subst r; cases e; exact .bl b
  | .int i, _, _, e, r => by unfold RepV at r; subst r; cases e; exact .int i
  | .str s, _, _, e, r => by unfold RepV at r; subst r; cases e; exact .str s
  | .tup ds, _, _, e, r => by
    unfold RepV at r
    obtain ⟨a, xs, rfl, ha, rl⟩ := r
    unfold pyW at e
    cases q : pyWL φ ds with
    | none => rw [q] at e; cases e
    | some ps => rw [q] at e; cases e; exact .tup (SqT.of ha) (pyWL_dp hφ q rl)
  | .loc l, _, _, e, r => hφ _ _ _ (by unfold pyW at e; exact e) r
  | .ro ns, _, _, e, r => by
    unfold RepV at r
    obtain ⟨a, rfl, q⟩ := r
    cases e
    exact .lst q.sq (dp_ints ns)
  | .exn _, _, _, e, _ => by cases e
theorem pyWL_dp {φ : Nat → Option PyData} (hφ : ∀ l p v, φ l = some p → RepV K m H (.loc l) v → Dp K H v p) : ∀ {ds : List D} {vs : List V} {ps : List PyData}, pyWL φ ds = some ps → RepL K m H ds vs → DpAll K H vs ps
  | [], _, _, e, r => by unfold RepL at r; subst r; cases e; exact .nil
  | d :: ds, _, _, e, r => by
    unfold RepL at r
    obtain ⟨x, xs, rfl, r1, r2⟩ := r
    unfold pyWL at e
    cases q1 : pyW φ d with
    | none => rw [q1] at e; cases e
    | some p =>
      cases q2 : pyWL φ ds with
      | none => rw [q1, q2] at e; cases e
      | some ps => rw [q1, q2] at e; cases e; exact .cons (pyW_dp hφ q1 r1) (pyWL_dp hφ q2 r2)
end
theorem pyLoc_dp {h : Hs} (rh : RepH K m H h) : ∀ (n l : Nat) (p : PyData) (v : V), pyLoc n h l = some p → RepV K m H (.loc l) v → Dp K H v p
  | 0, _, _, _, e, _ => by cases e
  | n + 1, l, p, v, e, r => by
    unfold RepV at r
    obtain ⟨a, ha, rfl⟩ := r
    unfold pyLoc at e
    cases q : h[l]? with
    | none => rw [q] at e; cases e
    | some o =>
      rw [q] at e
      cases o with
      | lst ds =>
        simp only at e
        obtain ⟨vs, hv, rl⟩ := rh.lst ha q
        cases q2 : pyWL (pyLoc n h) ds with
        | none => rw [q2] at e; cases e
        | some ps => rw [q2] at e; cases e; exact .lst (SqL.of hv) (pyWL_dp (fun l p v => pyLoc_dp rh n l p v) q2 rl)
      | _ => cases e
theorem pyH_dp {h : Hs} (rh : RepH K m H h) {d : D} {v : V} {p : PyData} (e : pyH h d = some p) (r : RepV K m H d v) : Dp K H v p := pyW_dp (fun l p v => pyLoc_dp rh 4 l p v) e r
end
mutual
theorem pyW_of (φ : Nat → Option PyData) : ∀ {d : D}, pyOk d = true → pyW φ d = some (toPy d)
  | .non, _ => rfl
  | .int _, _ => rfl
  | .str _, _ => rfl
  | .tup ds, k => by
    unfold pyOk at k
    unfold pyW toPy
    rw [pyWL_of φ k]; rfl
  | .bl _, _ => rfl
  | .loc _, k => by unfold pyOk at k; cases k
  | .ro _, k => by unfold pyOk at k; cases k
  | .exn _, k => by unfold pyOk at k; cases k
theorem pyWL_of (φ : Nat → Option PyData) : ∀ {ds : List D}, pyOkL ds = true → pyWL φ ds = some (toPyL ds)
  | [], _ => rfl
  | d :: ds, k => by
    unfold pyOkL at k
    obtain ⟨a, b⟩ := Bool.and_eq_true_iff.mp k
    unfold pyWL toPyL
    rw [pyW_of φ a, pyWL_of φ b]; rfl
end
/-- two lists of different lengths -/
def lenNe (d e : D) (h : Hs) : Bool := match d, e with
  | .loc a, .loc b => (match h[a]?, h[b]? with
    | some (.lst xs), some (.lst ys) => decide (xs.length ≠ ys.length)
    | _, _ => false)
  | _, _ => false
/-- d == e, where it is told -/
noncomputable def eqB (d e : D) (h : Hs) : Option Bool := if lenNe d e h = true then some false else match pyH h d, pyH h e with
  | some p, some q => if p.canLay0 = true ∧ q.canLay0 = true ∧ p.depth ≤ 190 then some (PyData.eqv p q) else none
  | _, _ => none
noncomputable def eqF : VF2 := fun d e h => (eqB d e h).map fun b => (.bl b, h)
noncomputable def neF : VF2 := fun d e h => (eqB d e h).map fun b => (.bl (!b), h)
section
variable {X : Cx}
theorem decide_iff {p : Prop} {b : Bool} (h : b = true ↔ p) : b = @decide p (Classical.propDecidable p) := by
  letI := Classical.propDecidable p
  by_cases hp : p
  · rw [decide_eq_true hp, h.mpr hp]
  · rw [decide_eq_false hp]
    cases b with
    | true => exact absurd (h.mp rfl) hp
    | false => rfl
/-- both comparisons at once -/
theorem eq_core {pns : List (Addr × Obj)} {s : Shared} {σ : St} {H : Hp} {x y : V} {v u : Value} {m : List Addr} {hs : Hs} {dx dy : D} {b : Bool} (hu : X.A.units + 195 < cLine) (I : Inv X pns σ H s) (rx : RelV x v) (ry : RelV y u) (r1 : RepV X.K m H dx x) (r2 : RepV X.K m H dy y)
    (rh : RepH X.K m H hs) (e : eqB dx dy hs = some b) {Q : Value → Shared → Prop} {Q' : Value → Shared → Prop} {E : Value → Shared → Prop} (q : Q (.bool b) s) (q' : Q' (.bool (!b)) s) :
    wpAny (model X.prog X.w) X.A (compareOp .Eq v u) Q E s ∧ wpAny (model X.prog X.w) X.A (compareOp .NotEq v u) Q' E s := by
  unfold eqB at e
  split at e
  · rename_i c
    cases e
    unfold lenNe at c
    split at c
    · rename_i i j
      unfold RepV at r1 r2
      obtain ⟨a, ha, rfl⟩ := r1
      obtain ⟨c2, hc, rfl⟩ := r2
      split at c
      · rename_i xs ys e1 e2
        have hne := of_decide_eq_true c
        obtain ⟨vs, hv, rl⟩ := rh.lst ha e1
        obtain ⟨ws, hw, rl2⟩ := rh.lst hc e2
        cases rx; cases ry
        obtain ⟨its, r, pl, z⟩ := I.list (SqL.of hv)
        obtain ⟨its2, r2, pl2, z2⟩ := I.list (SqL.of hw)
        have hsz : (its.toArray.size != its2.toArray.size) = true := by
          have l1 := rl.length
          have l2 := rl2.length
          have l3 := r.length
          have l4 := r2.length
          simp only [List.size_toArray, bne_iff_ne, ne_eq]
          omega
        exact ⟨SeqAt.eq_list_lengthsAt pl.isList pl2.isList hsz (by omega) q, SeqAt.RcNeAt.lists_lengths pl.isList pl2.isList hsz (by omega) _ _ _ _ q'⟩
      · cases c
    · cases c
  · split at e
    · rename_i p p' e1 e2
      split at e
      · rename_i c
        obtain ⟨c1, c2, c3⟩ := c
        obtain ⟨as, q1⟩ := Dp.reads I _ x v (pyH_dp rh e1 r1) rx
        obtain ⟨bs, q2⟩ := Dp.reads I _ y u (pyH_dp rh e2 r2) ry
        have room : X.A.units + min p.depth p'.depth < cLine := by
          have : min p.depth p'.depth ≤ p.depth := Nat.min_le_left _ _
          omega
        have e3 : PyData.eqv p p' = b := Option.some.inj e
        exact ⟨SeqAt.compareEq_reads q1 q2 c1 c2 room (by rw [e3]; exact q), SeqAt.compareNe_reads q1 q2 c1 c2 room (by rw [e3]; exact q')⟩
      · cases e
    · cases e
theorem o_eq (hu : X.A.units + 195 < cLine) : OpR X (compareOp .Eq) (rV X.K eqF) := by
  intro pns s σ H x y v u Q I rx ry h
  obtain ⟨m, hs, dx, dy, r1, r2, rh, o⟩ := h
  unfold eqF at o
  cases e : eqB dx dy hs with
  | none => rw [e] at o; exact o.elim
  | some b =>
    rw [e] at o
    exact (eq_core (E := X.xe) (Q' := fun _ _ => True) hu I rx ry r1 r2 rh e ⟨.bl b, H, I, rfl, o _ m H (.refl _ _) (by unfold RepV; rfl) rh⟩ trivial).1
theorem o_ne (hu : X.A.units + 195 < cLine) : OpR X (compareOp .NotEq) (rV X.K neF) := by
  intro pns s σ H x y v u Q I rx ry h
  obtain ⟨m, hs, dx, dy, r1, r2, rh, o⟩ := h
  unfold neF at o
  cases e : eqB dx dy hs with
  | none => rw [e] at o; exact o.elim
  | some b =>
    rw [e] at o
    exact (eq_core (E := X.xe) (Q := fun _ _ => True) hu I rx ry r1 r2 rh e trivial ⟨.bl (!b), H, I, rfl, o _ m H (.refl _ _) (by unfold RepV; rfl) rh⟩).2
end
open Classical in
theorem eqB_of {d e : D} {h : Hs} (a : pyOk d = true) (b : pyOk e = true) (z : depD d ≤ 190) : eqB d e h = some (decide (d = e)) := by
  have n : lenNe d e h = false := by
    unfold lenNe
    split
    · unfold pyOk at a; cases a
    · rfl
  have e1 : pyH h d = some (toPy d) := pyW_of _ a
  have e2 : pyH h e = some (toPy e) := pyW_of _ b
  unfold eqB
  rw [n, if_neg Bool.false_ne_true, e1, e2]
  simp only
  rw [if_pos ⟨canLay_of a, canLay_of b, by rw [dep_toPy]; exact z⟩, decide_iff (eqv_iff a b)]
end DV
namespace DV
open PySem PySem.Spec PyProof.Rows L2
section
variable {K : PySem.W.Frag} {m : List Addr} {H : Hp}
theorem RepL.at_ {ds : List D} {vs : List V} {i : Int} {d : D} (r : RepL K m H ds vs) (e : atI ds i = some d) : ∃ v, atI vs i = some v ∧ RepV K m H d v := by
  unfold atI at e ⊢
  rw [r.length]
  cases q : ixN ds.length i with
  | none => rw [q] at e; cases e
  | some j =>
    rw [q] at e
    obtain ⟨v, hv, rv⟩ := r.get e
    exact ⟨v, hv, rv⟩
end
def valD {κ : Type} [DecidableEq κ] (kvs : List (κ × D)) (k : κ) : Option D := (kvs.find? fun p => decide (p.1 = k)).map (·.2)
def putD {κ : Type} [DecidableEq κ] (kvs : List (κ × D)) (k : κ) (v : D) : List (κ × D) := if (kvs.any fun p => decide (p.1 = k)) = true then kvs.map (fun p => if p.1 = k then (p.1, v) else p) else kvs ++ [(k, v)]
theorem kV_keyD {K : PySem.W.Frag} {m : List Addr} {H : Hp} {d : D} {v : V} {k : Key} (r : RepV K m H d v) (e : keyD d = some k) : v = kV k := by
  cases d with
  | int i => cases e; unfold RepV at r; exact r
  | str i => cases e; unfold RepV at r; exact r
  | _ => cases e
def keysD : List D → Option (List Key)
  | [] => some []
  | d :: ds => (keyD d).bind fun k => (keysD ds).map fun ks => k :: ks
theorem kV_keysD {K : PySem.W.Frag} {m : List Addr} {H : Hp} : ∀ {ds : List D} {vs : List V} {ks : List Key}, RepL K m H ds vs → keysD ds = some ks → vs = ks.map kV
  | [], vs, ks, r, e => by cases e; unfold RepL at r; exact r
  | d :: ds, vs, ks, r, e => by
    unfold RepL at r
    obtain ⟨x, xs, rfl, h1, h2⟩ := r
    unfold keysD at e
    cases q : keyD d with
    | none => rw [q] at e; cases e
    | some k =>
      cases q2 : keysD ds with
      | none => rw [q, q2] at e; cases e
      | some ks2 =>
        rw [q, q2] at e
        cases e
        rw [kV_keyD h1 q, kV_keysD h2 q2]
        rfl
section
variable {κ : Type} [DecidableEq κ] {K : PySem.W.Frag} {m : List Addr} {H : Hp}
theorem valD_rep (k : κ) : ∀ {kvs : List (κ × D)} {ks : List (κ × V)}, kvs.map (·.1) = ks.map (·.1) → RepL K m H (kvs.map (·.2)) (ks.map (·.2)) →
    (valD kvs k = none ∧ valV ks k = none) ∨ ∃ d v, valD kvs k = some d ∧ valV ks k = some v ∧ RepV K m H d v
  | [], [], _, _ => .inl ⟨rfl, rfl⟩
  | [], _ :: _, e, _ => by cases e
  | _ :: _, [], e, _ => by cases e
  | (k1, d) :: kvs, (k2, v) :: ks, e, r => by
    simp only [List.map_cons, List.cons.injEq] at e
    obtain ⟨e1, e2⟩ := e
    subst e1
    simp only [List.map_cons] at r
    unfold RepL at r
    obtain ⟨x, xs, q, h1, h2⟩ := r
    injection q with q1 q2
    subst q1 q2
    by_cases c : k1 = k
    · subst c
      exact .inr ⟨d, v, by simp [valD], by simp [valV], h1⟩
    · rcases valD_rep k e2 h2 with ⟨a, b⟩ | ⟨d', v', a, b, w⟩
      · exact .inl ⟨by unfold valD at a ⊢; rw [List.find?_cons]; simp [c]; simpa using a, by unfold valV at b ⊢; rw [List.find?_cons]; simp [c]; simpa using b⟩
      · exact .inr ⟨d', v', by unfold valD at a ⊢; rw [List.find?_cons]; simpa [c] using a, by unfold valV at b ⊢; rw [List.find?_cons]; simpa [c] using b, w⟩
theorem any_rep (k : κ) : ∀ {kvs : List (κ × D)} {ks : List (κ × V)}, kvs.map (·.1) = ks.map (·.1) → (kvs.any fun p => decide (p.1 = k)) = ks.any fun p => decide (p.1 = k)
  | [], [], _ => rfl
  | [], _ :: _, e => by cases e
  | _ :: _, [], e => by cases e
  | (k1, d) :: kvs, (k2, v) :: ks, e => by
    simp only [List.map_cons, List.cons.injEq] at e
    obtain ⟨e1, e2⟩ := e
    subst e1
    rw [List.any_cons, List.any_cons, any_rep k e2]
theorem over_rep (k : κ) {d : D} {v : V} (rv : RepV K m H d v) : ∀ {kvs : List (κ × D)} {ks : List (κ × V)}, kvs.map (·.1) = ks.map (·.1) → RepL K m H (kvs.map (·.2)) (ks.map (·.2)) →
    (kvs.map (fun p => if p.1 = k then (p.1, d) else p)).map (·.1) = (ks.map (fun p => if p.1 = k then (p.1, v) else p)).map (·.1) ∧ RepL K m H ((kvs.map (fun p => if p.1 = k then (p.1, d) else p)).map (·.2)) ((ks.map (fun p => if p.1 = k then (p.1, v) else p)).map (·.2))
  | [], [], _, _ => ⟨rfl, RepL.nil⟩
  | [], _ :: _, e, _ => by cases e
  | _ :: _, [], e, _ => by cases e
  | (k1, d1) :: kvs, (k2, v1) :: ks, e, r => by
    simp only [List.map_cons, List.cons.injEq] at e
    obtain ⟨e1, e2⟩ := e
    subst e1
    simp only [List.map_cons] at r
    unfold RepL at r
    obtain ⟨x, xs, q, h1, h2⟩ := r
    injection q with q1 q2
    subst q1 q2
    obtain ⟨a, b⟩ := over_rep k rv e2 h2
    by_cases c : k1 = k
    · simp only [List.map_cons, c, if_true]
      exact ⟨by rw [a], .cons rv b⟩
    · simp only [List.map_cons, c, if_false]
      exact ⟨by rw [a], .cons h1 b⟩
theorem put_rep (k : κ) {d : D} {v : V} (rv : RepV K m H d v) {kvs : List (κ × D)} {ks : List (κ × V)} (e : kvs.map (·.1) = ks.map (·.1)) (r : RepL K m H (kvs.map (·.2)) (ks.map (·.2))) :
    (putD kvs k d).map (·.1) = (putK ks k v).map (·.1) ∧ RepL K m H ((putD kvs k d).map (·.2)) ((putK ks k v).map (·.2)) := by
  unfold putD putK
  rw [any_rep k e]
  split
  · exact over_rep k rv e r
  · refine ⟨by rw [List.map_append, List.map_append, e]; rfl, ?_⟩
    rw [List.map_append, List.map_append]
    exact r.append (.cons rv .nil)
end
def ixF : VF2
  | .loc l, k, h => match h[l]? with
    | some (.lst ds) => (match k with
      | .int i => (atI ds i).map fun d => (d, h)
      | _ => none)
    | some (.dct kvs) => (keyD k).bind fun k => (valD kvs k).map fun d => (d, h)
    | some (.fdc kvs) => (keyD k).bind fun k => (valD kvs k).map fun d => (d, h)
    | some (.dcT kvs) => (match k with
      | .tup ks => (keysD ks).bind fun k => (valD kvs k).map fun d => (d, h)
      | _ => none)
    | _ => none
  | .ro ns, .int i, h => (atI ns i).map fun n => (.int n, h)
  | .tup ds, .int i, h => (atI ds i).map fun d => (d, h)
  | .str z, .int i, h => if z.length ≤ LIM then (atI z.cps.toList i).map fun c => (.str ⟨#[c]⟩, h) else none
  | _, _, _ => none
theorem atI_map {α β : Type} (f : α → β) (xs : List α) (i : Int) : atI (xs.map f) i = (atI xs i).map f := by
  unfold atI
  rw [List.length_map]
  cases ixN xs.length i with
  | none => rfl
  | some j => simp
section
variable {X : Cx}
theorem o_ix (hu : X.A.units + 1 < cLine) : IxR X (rV X.K ixF) := by
  intro value slice pns s σ H x y v u Q I rx ry h hsl
  obtain ⟨m, hs, dx, dy, r1, r2, rh, o⟩ := h
  unfold ixF at o
  split at o
  · unfold RepV at r1
    obtain ⟨a, ha, rfl⟩ := r1
    have got : ∀ {d : D} {w : V}, OutV X.K m H Q (some (d, hs)) → RepV X.K m H d w → DGet H a y (some w) → wpAny (model X.prog X.w) X.A (subscriptTail value slice v u) (EP X pns σ Q) X.xe s := fun o' rw' g => by
      cases rx
      exact tail_any (dict_typeIs I g) PySem.F.slot_dict_getitem.lookup (d_getItem hu I g ry fun w2 s2 I2 r2' => ⟨_, H, I2, r2', OutV.keep o' rw' rh⟩) hsl
    split at o
    · rename_i ds e1
      obtain ⟨vs, hv, rl⟩ := rh.lst ha e1
      split at o
      · unfold RepV at r2
        subst r2
        cases q : atI ds _ with
        | none => rw [q] at o; exact o.elim
        | some d =>
          rw [q] at o
          obtain ⟨w, hw, rw'⟩ := rl.at_ q
          exact ix_list value slice pns s σ H _ _ v u Q I rx ry ⟨a, vs, _, w, rfl, rfl, SqL.of hv, hw, OutV.keep o rw' rh⟩ hsl
      · exact o.elim
    · rename_i kvs e1
      obtain ⟨ks, hk, kk, rk⟩ := rh.at_ _ a _ ha e1
      cases q : keyD dy with
      | none => rw [q] at o; exact o.elim
      | some k =>
        rw [q, Option.bind_some] at o
        have ey := kV_keyD r2 q
        subst ey
        rcases valD_rep k kk rk with ⟨z, _⟩ | ⟨d, w, z, z2, rw'⟩
        · rw [z] at o; exact o.elim
        · rw [z] at o
          refine got o rw' ?_
          rw [← z2]
          exact DGet.k hk
    · rename_i kvs e1
      obtain ⟨ob, ks, hk, kk, rk⟩ := rh.at_ _ a _ ha e1
      cases q : keyD dy with
      | none => rw [q] at o; exact o.elim
      | some k =>
        rw [q, Option.bind_some] at o
        have ey := kV_keyD r2 q
        subst ey
        rcases valD_rep k kk rk with ⟨z, _⟩ | ⟨d, w, z, z2, rw'⟩
        · rw [z] at o; exact o.elim
        · rw [z] at o
          refine got o rw' ?_
          rw [← z2]
          exact .inl ⟨ks, k, .inr ⟨ob, hk⟩, rfl, rfl⟩
    · rename_i kvs e1
      obtain ⟨ks, hk, kk, rk⟩ := rh.at_ _ a _ ha e1
      split at o
      · rename_i kd
        cases q : keysD kd with
        | none => rw [q] at o; exact o.elim
        | some k =>
          rw [q, Option.bind_some] at o
          unfold RepV at r2
          obtain ⟨b, xs, rfl, hb, rl⟩ := r2
          have ey := kV_keysD rl q
          subst ey
          rcases valD_rep k kk rk with ⟨z, _⟩ | ⟨d, w, z, z2, rw'⟩
          · rw [z] at o; exact o.elim
          · rw [z] at o
            refine got o rw' ?_
            rw [← z2]
            exact DGet.t hk hb
      · exact o.elim
    · exact o.elim
  · unfold RepV at r1 r2
    obtain ⟨a, rfl, ha⟩ := r1
    subst r2
    rename_i ns i
    cases q : atI ns i with
    | none => rw [q] at o; exact o.elim
    | some n =>
      rw [q] at o
      exact ix_list value slice pns s σ H _ _ v u Q I rx ry ⟨a, _, i, .int n, rfl, rfl, ha.sq, by rw [atI_map, q]; rfl, OutV.keep o (by unfold RepV; rfl) rh⟩ hsl
  · unfold RepV at r1 r2
    obtain ⟨a, vs, rfl, ha, rl⟩ := r1
    subst r2
    rename_i ds i
    cases q : atI ds i with
    | none => rw [q] at o; exact o.elim
    | some d =>
      rw [q] at o
      obtain ⟨w, hw, rw'⟩ := rl.at_ q
      exact ix_tup value slice pns s σ H _ _ v u Q I rx ry ⟨a, vs, _, w, rfl, rfl, SqT.of ha, hw, OutV.keep o rw' rh⟩ hsl
  · unfold RepV at r1 r2
    subst r1 r2
    rename_i z i
    split at o
    · rename_i hz
      cases q : atI z.cps.toList i with
      | none => rw [q] at o; exact o.elim
      | some c =>
        rw [q] at o
        exact ix_str value slice pns s σ H _ _ v u Q I rx ry ⟨z, i, c, rfl, rfl, by rw [LIM_eq]; exact hz, q, OutV.keep o (by unfold RepV; rfl) rh⟩ hsl
    · exact o.elim
  · exact o.elim
end
abbrev OM := Sl → Hs → R (Option Int)
def noP : OM := fun _ h => .ok none h
def someP (A : EM) : OM := fun ds h => (A ds h).bind fun d h => match d with
  | .int i => .ok (some i) h
  | _ => .bad
def cutL {α : Type} (xs : List α) (lo hi : Option Int) : List α := (xs.drop (HT.sIx xs.length 0 lo)).take (HT.sIx xs.length xs.length hi - HT.sIx xs.length 0 lo)
def slF (d : D) (lo hi : Option Int) (h : Hs) : Res := match d with
  | .loc l => match h[l]? with
    | some (.lst ds) => some (.loc h.length, h ++ [.lst (cutL ds lo hi)])
    | _ => none
  | .ro ns => some (.loc h.length, h ++ [.lst ((cutL ns lo hi).map D.int)])
  | .tup ds => some (.tup (cutL ds lo hi), h)
  | .str z => if z.length ≤ LIM then some (.str (cutS z lo hi), h) else none
  | _ => none
def slM (A : EM) (lo hi : OM) : EM := fun ds h => (A ds h).bind fun d h => (lo ds h).bind fun l h => (hi ds h).bind fun u h => .ofO (slF d l u h)
def OutP (g : Cfg) (m : List Addr) (H : Hp) (σ : St) (Q : Option Int → Hp → Prop) : R (Option Int) → Prop
  | .ok o h' => ∀ m' H', Grow m H m' H' → RepH g.K m' H' h' → Q o H'
  | .exc c h' => ∀ m' H', Grow m H m' H' → RepH g.K m' H' h' → g.W (.ref (He.ga g.K c)) none σ H'
  | .bad => False
def tP (g : Cfg) (M : OM) : TO := fun σ H Q => ∃ m ds h, RepS g.K m H ds σ ∧ RepH g.K m H h ∧ OutP g m H σ Q (M ds h)
theorem OutP.toE {g : Cfg} {m : List Addr} {H : Hp} {σ : St} {Q : VK} {Q' : Option Int → Hp → Prop} {r : R (Option Int)} {k : Option Int → Hs → R D} (o : OutE g m H σ Q (r.bind k))
    (f : ∀ b h' m' H', Grow m H m' H' → RepH g.K m' H' h' → OutE g m' H' σ Q (k b h') → Q' b H') : OutP g m H σ Q' r := by
  cases r with
  | ok d h => exact fun m' H' w rh => f d h m' H' w rh (OutE.mono o w)
  | exc c h => exact o
  | bad => exact o
theorem PO.weak {X : Cx} {e : Option Expr} {t t' : TO} (p : PO X e t) (w : ∀ σ H Q, t' σ H Q → t σ H Q) : PO X e t' := ⟨fun pns s σ H Q I h => p.run pns s σ H Q I (w σ H Q h)⟩
section
variable {X : Cx} {g : Cfg} {e : Expr} {lo hi : Option Expr} {A : EM} {L U : OM} {pos p2 : Pos}
theorem pm_no : PO X none (tP g noP) := PO.weak po_none fun σ H Q ⟨m, ds, h, hs, rh, o⟩ => o m H (.refl _ _) rh
theorem pm_some (ha : PE X e (tM g A)) : PO X (some e) (tP g (someP A)) := by
  refine PO.weak (po_some ha) fun σ H Q ⟨m, ds, h, hs, rh, o⟩ => ⟨m, ds, h, hs, rh, ?_⟩
  unfold someP at o
  cases q : A ds h with
  | ok d h1 =>
    rw [q, R.bind_ok] at o
    intro v m1 H1 g1 r1 rh1
    cases d with
    | int i => unfold RepV at r1; exact ⟨i, r1, o m1 H1 g1 rh1⟩
    | _ => exact (show False from o).elim
  | exc c h1 => rw [q] at o; exact o
  | bad => rw [q] at o; exact o
theorem cutL_map {α β : Type} (f : α → β) (xs : List α) (lo hi : Option Int) : cutL (xs.map f) lo hi = (cutL xs lo hi).map f := by
  unfold cutL
  rw [List.length_map, List.map_take, List.map_drop]
theorem RepL.cut {K : PySem.W.Frag} {m : List Addr} {H : Hp} {ds : List D} {vs : List V} (r : RepL K m H ds vs) (lo hi : Option Int) : RepL K m H (cutL ds lo hi) (cutV vs lo hi) := by
  unfold cutL cutV
  rw [r.length]
  exact (r.drop _).take _
theorem em_slice (hK : X.K = g.K) (ha : PE X e (tM g A)) (hl : PO X lo (tP g L)) (hu : PO X hi (tP g U)) : PE X (.Subscript e (.Slice lo hi none p2) pos) (tM g (slM A L U)) := by
  have hr : SlR X (fun x lo hi H Q => (rSlL X.K x lo hi H Q ∨ rSlA X.K x lo hi H Q) ∨ rSlS x lo hi H Q) := (sl_list.or sl_tupA).or sl_str
  refine PE.weak (pe_slice hr ha hl hu) fun σ H Q ⟨m, ds, h, hs, rh, o⟩ => ⟨m, ds, h, hs, rh, OutE.toE o fun d h1 v m1 H1 g1 r1 rh1 o1 => ?_⟩
  refine ⟨m1, ds, h1, hs.mono g1, rh1, OutP.toE o1 fun l h2 m2 H2 g2 rh2 o2 => ?_⟩
  refine ⟨m2, ds, h2, (hs.mono g1).mono g2, rh2, OutP.toE o2 fun u h3 m3 H3 g3 rh3 o3 => ?_⟩
  have r3 := r1.mono (g2.trans g3)
  have o3 : OutV g.K m3 H3 Q (slF d l u h3) := .of o3
  rw [hK]
  unfold slF at o3
  split at o3
  · unfold RepV at r3
    obtain ⟨a, hq, rfl⟩ := r3
    split at o3
    · rename_i xs e1
      obtain ⟨vs, hv, rl⟩ := rh3.lst hq e1
      exact .inl (.inl ⟨a, vs, rfl, SqL.of hv, fun p hp => new_lst' (rl.cut _ _) rh3 hp o3⟩)
    · exact o3.elim
  · unfold RepV at r3
    obtain ⟨a, rfl, hq⟩ := r3
    rename_i ns _
    refine .inl (.inl ⟨a, _, rfl, hq.sq, fun p hp => new_lst' ?_ rh3 hp o3⟩)
    have := (repL_ints (K := g.K) (m := m3) (H := H3) ns).cut l u
    rwa [cutL_map] at this
  · unfold RepV at r3
    obtain ⟨a, vs, rfl, hq, rl⟩ := r3
    rename_i xs _
    refine .inl (.inr ⟨a, vs, rfl, SqT.of hq, fun hw => ?_, fun _ p hp => ?_⟩)
    · have e : cutL xs l u = xs := by
        have hl := rl.length
        rw [hl] at hw
        unfold cutL
        rw [hw.1, hw.2, List.drop_zero, Nat.sub_zero, List.take_length]
      rw [e] at o3
      exact o3 _ m3 H3 (.refl _ _) (by unfold RepV; exact ⟨a, vs, rfl, hq, rl⟩) rh3
    · exact o3 _ m3 _ (.put hp) (by unfold RepV; exact ⟨p, _, rfl, upd_same, (rl.cut _ _).mono (.put hp)⟩) (rh3.put hp)
  · unfold RepV at r3
    subst r3
    split at o3
    · rename_i hz
      exact .inr ⟨_, rfl, by rw [LIM_eq]; exact hz, OutV.keep o3 (by unfold RepV; rfl) rh3⟩
    · exact o3.elim
  · exact o3.elim
end
def lenF : List D → Hs → Res
  | [.loc l], h => match h[l]? with
    | some (.lst ds) => some (.int ds.length, h)
    | some (.dct kvs) => some (.int kvs.length, h)
    | some (.fdc kvs) => some (.int kvs.length, h)
    | _ => none
  | [.ro ns], h => some (.int ns.length, h)
  | [.tup ds], h => some (.int ds.length, h)
  | [.str z], h => if z.length ≤ LIM then some (.int z.length, h) else none
  | _, _ => none
def tupT : List D → Hs → Res
  | [.loc l], h => match h[l]? with
    | some (.lst ds) => some (.tup ds, h)
    | _ => none
  | [.tup ds], h => some (.tup ds, h)
  | _, _ => none
def intsOf : List D → Option (List Int)
  | [] => some []
  | .int i :: r => (intsOf r).map fun ns => i :: ns
  | _ => none
@[simp] theorem intsOf_map (ns : List Int) : intsOf (ns.map D.int) = some ns := by
  induction ns with
  | nil => rfl
  | cons n ns ih => rw [List.map_cons]; unfold intsOf; rw [ih]; rfl
def maxI (x : Int) (xs : List Int) : Int := xs.foldl (fun a y => if a < y then y else a) x
def max2F : List D → Hs → Res
  | [.int i, .int j], h => some (.int (if j > i then j else i), h)
  | _, _ => none
section
variable {X : Cx}
theorem c_len : CallR X (.builtin "len") (rC X.K lenF) := by
  intro pns s σ H vs us Q I rl h
  obtain ⟨m, hs, ds, r, rh, o⟩ := h
  unfold lenF at o
  split at o
  · obtain ⟨x, rfl, r1⟩ := repL1 r
    unfold RepV at r1
    obtain ⟨a, ha, rfl⟩ := r1
    split at o
    · rename_i xs e1
      obtain ⟨vs, hv, rl2⟩ := rh.lst ha e1
      exact call_len pns s σ H _ us Q I rl ⟨_, _, rfl, .inl ⟨vs, SqL.of hv, rl2.length.symm⟩, OutV.keep o (by unfold RepV; rfl) rh⟩
    · rename_i kvs e1
      obtain ⟨ks, hk, kk, rk⟩ := rh.at_ _ a _ ha e1
      obtain ⟨u, rfl, ru⟩ := vals1 rl
      cases ru
      refine d_len I (.inl hk) fun t s' I' => ⟨.int ks.length, H, I', ⟨t, rfl⟩, ?_⟩
      have e : ks.length = kvs.length := by have := congrArg List.length kk; simpa using this.symm
      rw [e]
      exact OutV.keep o (by unfold RepV; rfl) rh
    · rename_i kvs e1
      obtain ⟨ob, ks, hk, kk, rk⟩ := rh.at_ _ a _ ha e1
      obtain ⟨u, rfl, ru⟩ := vals1 rl
      cases ru
      refine d_len I (.inr ⟨ob, hk⟩) fun t s' I' => ⟨.int ks.length, H, I', ⟨t, rfl⟩, ?_⟩
      have e : ks.length = kvs.length := by have := congrArg List.length kk; simpa using this.symm
      rw [e]
      exact OutV.keep o (by unfold RepV; rfl) rh
    · exact o.elim
  · obtain ⟨x, rfl, r1⟩ := repL1 r
    unfold RepV at r1
    obtain ⟨a, rfl, ha⟩ := r1
    exact call_len pns s σ H _ us Q I rl ⟨_, _, rfl, .inl ⟨_, ha.sq, (List.length_map _).symm⟩, OutV.keep o (by unfold RepV; rfl) rh⟩
  · obtain ⟨x, rfl, r1⟩ := repL1 r
    unfold RepV at r1
    obtain ⟨a, xs, rfl, ha, rl2⟩ := r1
    exact call_len pns s σ H _ us Q I rl ⟨_, _, rfl, .inr ⟨xs, SqT.of ha, rl2.length.symm⟩, OutV.keep o (by unfold RepV; rfl) rh⟩
  · obtain ⟨x, rfl, r1⟩ := repL1 r
    unfold RepV at r1
    subst r1
    split at o
    · rename_i hz
      exact call_len pns s σ H _ us Q I rl ⟨_, _, rfl, ⟨by rw [LIM_eq]; exact hz, rfl⟩, OutV.keep o (by unfold RepV; rfl) rh⟩
    · exact o.elim
  · exact o.elim
theorem c_tuple : CallR X (.type "tuple") (rC X.K tupT) := by
  intro pns s σ H vs us Q I rl h
  obtain ⟨m, hs, ds, r, rh, o⟩ := h
  unfold tupT at o
  split at o
  · obtain ⟨x, rfl, r1⟩ := repL1 r
    unfold RepV at r1
    obtain ⟨a, ha, rfl⟩ := r1
    split at o
    · rename_i xs e1
      obtain ⟨vs, hv, rl2⟩ := rh.lst ha e1
      refine call_tuple_of pns s σ H _ us Q I rl ⟨a, vs, rfl, .inl ⟨SqL.of hv, fun p hp => ?_⟩⟩
      exact o _ m _ (.put hp) (by unfold RepV; exact ⟨p, _, rfl, upd_same, rl2.mono (.put hp)⟩) (rh.put hp)
    · exact o.elim
  · obtain ⟨x, rfl, r1⟩ := repL1 r
    have r0 := r1
    unfold RepV at r1
    obtain ⟨a, xs, rfl, ha, rl2⟩ := r1
    exact call_tuple_of pns s σ H _ us Q I rl ⟨a, xs, rfl, .inr ⟨SqT.of ha, OutV.keep o r0 rh⟩⟩
  · exact o.elim
theorem c_max2 (hc : X.calm = true) : CallR X (.builtin "max") (rC X.K max2F) := by
  intro pns s σ H vs us Q I rl h
  obtain ⟨m, hs, ds, r, rh, o⟩ := h
  unfold max2F at o
  split at o
  · obtain ⟨x, y, rfl, r1, r2⟩ := repL2 r
    unfold RepV at r1 r2; subst r1 r2
    exact call_max2 hc pns s σ H _ us Q I rl ⟨_, _, rfl, OutV.keep o (by unfold RepV; rfl) rh⟩
  · exact o.elim
end
def tyD : D → Hs → Option String
  | .non, _ => some "NoneType"
  | .bl _, _ => some "bool"
  | .int _, _ => some "int"
  | .str _, _ => some "str"
  | .tup _, _ => some "tuple"
  | .ro _, _ => some "list"
  | .exn _, _ => none
  | .loc l, h => match h[l]? with
    | some (.lst _) => some "list"
    | some (.dct _) => some "dict"
    | some (.fdc _) => some "dict"
    | _ => none
def isB (t T : String) : Bool := t == T || (t == "bool" && T == "int")
def isF (T : String) (d : D) (h : Hs) : Res := (tyD d h).map fun t => (.bl (isB t T), h)
theorem kitB_ok {t T : String} (ht : t ∈ ["NoneType", "bool", "int", "str", "tuple", "list", "dict"]) (hT : T ∈ ["bool", "int", "str", "tuple", "list", "dict"]) : kitB t T = some (isB t T) := by
  simp only [List.mem_cons, List.not_mem_nil, or_false] at ht hT
  rcases ht with rfl | rfl | rfl | rfl | rfl | rfl | rfl <;> rcases hT with rfl | rfl | rfl | rfl | rfl | rfl <;> decide +kernel
theorem tyD_mem {d : D} {h : Hs} {t : String} (e : tyD d h = some t) : t ∈ ["NoneType", "bool", "int", "str", "tuple", "list", "dict"] := by
  unfold tyD at e
  split at e
  all_goals first
    | (cases e; simp; done)
    | (cases e; done)
    | (split at e <;> first | (cases e; simp; done) | cases e)
theorem tyX_of {X : Cx} {m : List Addr} {H : Hp} {h : Hs} {d : D} {v : V} {t : String} (r : RepV X.K m H d v) (rh : RepH X.K m H h) (e : tyD d h = some t) : TyX X.K H v (.type t) := by
  unfold tyD at e
  split at e
  · cases e; unfold RepV at r; subst r; exact .base .non
  · cases e; unfold RepV at r; subst r; exact .base (.bl _)
  · cases e; unfold RepV at r; subst r; exact .base (.int _)
  · cases e; unfold RepV at r; subst r; exact .base (.str _)
  · cases e; unfold RepV at r; obtain ⟨a, xs, rfl, ha, _⟩ := r; exact .base (.tup ha)
  · cases e
    unfold RepV at r
    obtain ⟨a, rfl, ha⟩ := r
    rcases ha with ⟨o, ha⟩ | ⟨o, its, n, hk, hc, _⟩
    · exact .base (.frz ha)
    · exact .kList hk hc
  · cases e
  · unfold RepV at r
    obtain ⟨a, ha, rfl⟩ := r
    split at e
    · rename_i e1
      cases e
      obtain ⟨vs, hv, _⟩ := rh.lst ha e1
      exact .base (.lst hv)
    · rename_i e1
      cases e
      obtain ⟨ks, hk, _⟩ := rh.at_ _ a _ ha e1
      exact .base (.dK hk)
    · rename_i e1
      cases e
      obtain ⟨ob, ks, hk, _⟩ := rh.at_ _ a _ ha e1
      exact .fDict hk
    · cases e
theorem em_isi {X : Cx} {g : Cfg} {e : Expr} {A : EM} {T : String} {Tn : Str} {p p2 pos : Pos} (hK : X.K = g.K) (hT : T ∈ ["bool", "int", "str", "tuple", "list", "dict"]) (hg : Gl X "isinstance") (hm : X.mg "isinstance" = none) (hgT : Gl X Tn) (hmT : X.mg Tn = none) (hv : bootBuiltins Tn = some (.type T))
    (ha : PE X e (tM g A)) (hn : Tn ≠ "__name__" := by decide) (hd : (Tn == ("__debug__" : Str)) = false := by decide)
    (he : starEach [e, .Name Tn p2] X.env = (false, eval e X.env) :: starEach [.Name Tn p2] X.env := by rfl) (hpl : (backTo pos (starEach [.Name Tn p2] X.env)).any (·.1) = false := by rfl) : PE X (.Call (.Name "isinstance" p) [e, .Name Tn p2] [] pos) (tM g (unM (isF T) A)) := by
  refine PE.weak (pe_callB call_isi hg hm (by decide +kernel) (pa_cons ha (pa_cons (pe_bltn (v := .ty T) hgT hmT hv rfl hn hd) pa_nil) he) (by decide) (by decide) he hpl) fun σ H Q ⟨m, ds, h, hs, rh, o⟩ => ⟨m, ds, h, hs, rh, OutE.toE o fun d h1 v m1 H1 g1 r1 rh1 o1 => ?_⟩
  unfold isF at o1
  cases q : tyD d h1 with
  | none => rw [q] at o1; exact o1.elim
  | some t =>
    rw [q] at o1
    have ty : TyX X.K H1 v (.type t) := tyX_of (X := X) (by rw [hK]; exact r1) (by rw [hK]; exact rh1) q
    exact ⟨v, .ty T, .type t, .type T, isB t T, rfl, .ty T, ty, kit_ty (kitB_ok (tyD_mem q) hT), o1 _ m1 H1 (.refl _ _) (by unfold RepV; rfl) rh1⟩
end DV
namespace DV
open PySem PySem.Spec PyProof.Rows L2
noncomputable def rng3 : List D → Option (List D)
  | [.int i, .int j, .int k] => if k = -1 ∧ inR i = true ∧ inR j = true then some ((List.range (i - j).toNat).map fun (t : Nat) => .int (i - (t : Int))) else none
  | _ => none
/-- the receiver is of that type when it has been read -/
def mtMc (ck : D → Hs → Bool) (F : D → List D → Hs → Res) (O : EM) (As : AM) : EM := fun ds h => (O ds h).bind fun d h => if ck d h = true then (As ds h).bind fun xs h => .ofO (F d xs h) else .bad
def ckList : D → Hs → Bool
  | .loc l, h => match h[l]? with
    | some (.lst _) => true
    | _ => false
  | .ro _, _ => true
  | _, _ => false
def ckDct : D → Hs → Bool
  | .loc l, h => match h[l]? with
    | some (.dct _) => true
    | _ => false
  | _, _ => false
theorem ckList_ty {K : PySem.W.Frag} {m : List Addr} {H : Hp} {h : Hs} {d : D} {v : V} (r : RepV K m H d v) (rh : RepH K m H h) (c : ckList d h = true) : tyV K "list" v H := by
  unfold ckList at c
  split at c
  · unfold RepV at r
    obtain ⟨a, ha, rfl⟩ := r
    split at c
    · rename_i e
      obtain ⟨vs, hv, _⟩ := rh.lst ha e
      exact .inl ⟨rfl, vs, SqL.of hv⟩
    · cases c
  · unfold RepV at r
    obtain ⟨a, rfl, ha⟩ := r
    exact .inl ⟨rfl, _, ha.sq⟩
  · cases c
theorem ckDct_ty {K : PySem.W.Frag} {m : List Addr} {H : Hp} {h : Hs} {d : D} {v : V} (r : RepV K m H d v) (rh : RepH K m H h) (c : ckDct d h = true) : tyV K "dict" v H := by
  unfold ckDct at c
  split at c
  · unfold RepV at r
    obtain ⟨a, ha, rfl⟩ := r
    split at c
    · rename_i e
      obtain ⟨ks, hk, _⟩ := rh.at_ _ a _ ha e
      exact .inr (.inr (.inl ⟨rfl, .inl ⟨ks, hk⟩⟩))
    · cases c
  · cases c
/-- a method's rule by values -/
def rMt (K : PySem.W.Frag) (F : D → List D → Hs → Res) : V → List V → Hp → VK → Prop := fun x vs H Q => ∃ m h d ds, RepV K m H d x ∧ RepL K m H ds vs ∧ RepH K m H h ∧ OutV K m H Q (F d ds h)
section
variable {X : Cx} {g : Cfg} {o e : Expr} {es : List Expr} {O : EM} {As : AM} {name : Str} {apos cpos : Pos} {T id : String} {F : D → List D → Hs → Res} {ck : D → Hs → Bool}
theorem em_bm (hK : X.K = g.K) (pa : PlainAttrs T) (slot : Slot T name id) (hty : typeOf (.builtin id) = pure (.type "method_descriptor")) (hm : MtR X id (rMt g.K F))
    (hck : ∀ m H h d v, RepV g.K m H d v → RepH g.K m H h → ck d h = true → tyV g.K T v H) (ho : PE X o (tM g O)) (ha : PA X (e :: es) (tA g As))
    (hbase : attributeBase o name X.env (eval o X.env) = eval o X.env := by rfl)
    (hfew : ((backTo cpos (starEach (e :: es) X.env)).all (fun x => !x.1) && (backToKw cpos (keywordEach [] X.env)).all (fun x => x.1.isSome)
      && decide ((e :: es).length + ([] : List Keyword).length + (if ([] : List Keyword).isEmpty then 0 else 1) < 30)) = true := by rfl)
    (hline : (apos.endLine == cpos.line) = true := by rfl) (hs : starEach (e :: es) X.env = (false, eval e X.env) :: starEach es X.env := by rfl) (hplain : (backTo cpos (starEach es X.env)).any (·.1) = false := by rfl) :
    PE X (.Call (.Attribute o name apos) (e :: es) [] cpos) (tM g (mtMc ck F O As)) := by
  refine PE.weak (pe_bm pa slot hty hm ho ha hbase hfew hline hs hplain) fun σ H Q ⟨m, ds, h, hs, rh, o⟩ => ⟨m, ds, h, hs, rh, OutE.toE o fun d h1 v m1 H1 g1 r1 rh1 o1 => ?_⟩
  by_cases c : ck d h1 = true
  · rw [if_pos c] at o1
    refine ⟨by rw [hK]; exact hck m1 H1 h1 d v r1 rh1 c, m1, ds, h1, hs.mono g1, rh1, OutA.toE o1 fun xs h2 vs m2 H2 g2 rl rh2 o2 => ?_⟩
    exact ⟨m2, h2, d, xs, r1.mono g2, rl, rh2, .of o2⟩
  · rw [if_neg c] at o1; exact o1.elim
end
def appendF : D → List D → Hs → Res
  | .loc l, [d], h => match h[l]? with
    | some (.lst ds) => if ds.length < LIM then some (.non, h.set l (.lst (ds ++ [d]))) else none
    | _ => none
  | _, _, _ => none
/-- a list written -/
theorem write_lst {K : PySem.W.Frag} {m : List Addr} {H : Hp} {h : Hs} {l : Nat} {a : Addr} {xs ys : List V} {ds : List D} {Q : VK} {d : D} {v : V} (rh : RepH K m H h) (ha : m[l]? = some a) (hv : H a = some (.lst xs)) (rl : RepL K m H ds ys) (rv : RepV K m H d v)
    (o : OutV K m H Q (some (d, h.set l (.lst ds)))) : Q v (upd H a (.lst ys)) :=
  have w : Grow m H m (upd H a (.lst ys)) := .write hv (fun _ z => nomatch z) (fun _ _ z => nomatch z) (fun _ z => nomatch z)
  o v m _ w (rv.mono w) (rh.write ha hv (fun _ z => nomatch z) (fun _ _ z => nomatch z) (fun _ z => nomatch z) ⟨ys, upd_same, rl.mono w⟩)
section
variable {X : Cx}
theorem k_append : MtR X "list.append" (rMt X.K appendF) := by
  intro pns s σ H x vs v us Q I rx rv h
  obtain ⟨m, hs, d, ds, r1, rl, rh, o⟩ := h
  unfold appendF at o
  split at o
  · unfold RepV at r1
    obtain ⟨a, ha, rfl⟩ := r1
    obtain ⟨y, rfl, r2⟩ := repL1 rl
    split at o
    · rename_i xs e
      obtain ⟨ws, hw, rl2⟩ := rh.lst ha e
      split at o
      · rename_i hz
        exact mt_append pns s σ H _ _ v us Q I rx rv ⟨a, ws, y, rfl, rfl, hw, by rw [LIM_eq, rl2.length]; exact hz, write_lst rh ha hw (rl2.append (.cons r2 .nil)) (by unfold RepV; rfl) o⟩
      · exact o.elim
    · exact o.elim
  · exact o.elim
end
def setIxM (F : D → D → D → Hs → Option Hs) (V O I : EM) : SM := fun ds h => lift (V ds h) ds fun v h => lift (O ds h) ds fun o h => lift (I ds h) ds fun i h => match F o i v h with
  | some h' => .nx ds h'
  | none => .bad
def setLF : D → D → D → Hs → Option Hs
  | .loc l, .int i, v, h => match h[l]? with
    | some (.lst ds) => (ixN ds.length i).map fun j => h.set l (.lst (ds.set j v))
    | _ => none
  | _, _, _, _ => none
def OutN (K : PySem.W.Frag) (m : List Addr) (H : Hp) (Q : Hp → Prop) : Option Hs → Prop
  | some h' => ∀ m' H', Grow m H m' H' → RepH K m' H' h' → Q H'
  | none => False
def rSt (K : PySem.W.Frag) (F : D → D → D → Hs → Option Hs) : TSet := fun o i v H Q => ∃ m h od id vd, RepV K m H od o ∧ RepV K m H id i ∧ RepV K m H vd v ∧ RepH K m H h ∧ OutN K m H Q (F od id vd h)
section
variable {X : Cx} {g : Cfg} {o i e : Expr} {V O I : EM} {pos tpos : Pos} {F : D → D → D → Hs → Option Hs}
theorem sm_setIx (hset : PSet X (rSt g.K F)) (he : PE X e (tM g V)) (ho : PE X o (tM g O)) (hi : PE X i (tM g I))
    (ha : ∀ v, assign (.Subscript o i tpos) X.env v = (do
      let ov ← holding [v] (eval o X.env)
      let iv ← holding [v, ov] (eval i X.env)
      standAt tpos
      holding [v, ov, iv] (setItem ov iv v)
      release [v, ov, iv] []) := by intro _; rfl)
    (hs : swapsWithSole [.Subscript o i tpos] e pos.line X.env = pure false := by rfl) (hw : swappedStores [.Subscript o i tpos] e X.env = pure none := by rfl)
    (h1 : (assignEach [.Subscript o i tpos] X.env).map (·.2) = [assign (.Subscript o i tpos) X.env] := by rfl) : PS X (.Assign [.Subscript o i tpos] e pos) (tS g (setIxM F V O I)) := by
  refine PS.weak (ps_asg he (pg_sub ho hi hset ha) hs hw h1) fun N σ H ⟨m, ds, h, hs, rh, o⟩ => ⟨m, ds, h, hs, rh, OutE.toS hs o fun d1 h1 v1 m1 H1 g1 r1 rh1 o1 => ?_⟩
  refine ⟨m1, ds, h1, hs.mono g1, rh1, OutE.toS (hs.mono g1) o1 fun d2 h2 v2 m2 H2 g2 r2 rh2 o2 => ?_⟩
  refine ⟨m2, ds, h2, (hs.mono g1).mono g2, rh2, OutE.toS ((hs.mono g1).mono g2) o2 fun d3 h3 v3 m3 H3 g3 r3 rh3 o3 => ?_⟩
  refine ⟨m3, h3, d2, d3, d1, r2.mono g3, r3, (r1.mono g2).mono g3, rh3, ?_⟩
  cases q : F d2 d3 d1 h3 with
  | none => rw [q] at o3; exact o3.elim
  | some h4 => rw [q] at o3; exact fun m4 H4 g4 rh4 => o3 σ m4 H4 g4 (((hs.mono g1).mono g2).mono (g3.trans g4)) rh4
theorem s_list : PSet X (rSt X.K setLF) := by
  intro pns s σ H o i v ov iv u Q I ro ri rv h
  obtain ⟨m, hs, od, id, vd, r1, r2, r3, rh, q⟩ := h
  unfold setLF at q
  split at q
  · unfold RepV at r1 r2
    obtain ⟨a, ha, rfl⟩ := r1
    subst r2
    split at q
    · rename_i xs e
      obtain ⟨ws, hw, rl2⟩ := rh.lst ha e
      cases c : ixN xs.length _ with
      | none => rw [c] at q; exact q.elim
      | some j =>
        rw [c] at q
        refine set_list pns s σ H _ _ _ ov iv u Q I ro ri rv ⟨a, ws, _, j, rfl, rfl, hw, by rw [rl2.length]; exact c, ?_⟩
        have w : Grow m H m (upd H a (.lst (ws.set j v))) := .write hw (fun _ z => nomatch z) (fun _ _ z => nomatch z) (fun _ z => nomatch z)
        exact q m _ w (rh.write ha hw (fun _ z => nomatch z) (fun _ _ z => nomatch z) (fun _ z => nomatch z) ⟨_, upd_same, (rl2.set j r3).mono w⟩)
    · exact q.elim
  · exact q.elim
end
def maxdR (d e : D) (h : Hs) : R D := match d, e with
  | .loc l, .int k => match h[l]? with
    | some (.lst xs) => match intsOf xs with
      | some [] => .ok (.int k) h
      | some (n :: ns) => .ok (.int (maxI n ns)) h
      | none => .bad
    | _ => .bad
  | _, _ => .bad
def maxdF (A B : EM) : EM := fun ds h => (A ds h).bind fun d h => (B ds h).bind fun e h => maxdR d e h
end DV
namespace DV
open PySem PySem.Spec PyProof.Rows L2
structure Blt (mg : Str → Option Value) : Prop where
  z_len : mg "len" = none
  z_range : mg "range" = none
  z_int : mg "int" = none
  z_str : mg "str" = none
  z_sum : mg "sum" = none
  z_max : mg "max" = none
  z_min : mg "min" = none
  z_enumerate : mg "enumerate" = none
  z_isinstance : mg "isinstance" = none
  z_tuple : mg "tuple" = none
  z_list : mg "list" = none
  z_dict : mg "dict" = none
  z_sorted : mg "sorted" = none
  z_abs : mg "abs" = none
  z_all : mg "all" = none
  z_set : mg "set" = none
  z_bool : mg "bool" = none
theorem hu1 {k : Nat} {A : Around} (hr : Room k A) : A.units + 1 < cLine := hu_of hr
theorem hu195 {k : Nat} {A : Around} (hr : Room k A) : A.units + 195 < cLine := by have := hr.un; omega
def flatD : D → Bool
  | .non => true
  | .bl _ => true
  | .int _ => true
  | .str _ => true
  | _ => false
def toV : D → V
  | .non => .non
  | .bl b => .bl b
  | .int i => .int i
  | .str s => .str s
  | _ => .non
theorem flat_toV {K : PySem.W.Frag} {m : List Addr} {H : Hp} {d : D} {v : V} (r : RepV K m H d v) (f : flatD d = true) : v = toV d ∧ flatV v = true := by
  cases d with
  | non => unfold RepV at r; subst r; exact ⟨rfl, rfl⟩
  | bl b => unfold RepV at r; subst r; exact ⟨rfl, rfl⟩
  | int b => unfold RepV at r; subst r; exact ⟨rfl, rfl⟩
  | str b => unfold RepV at r; subst r; exact ⟨rfl, rfl⟩
  | tup _ => cases f
  | loc _ => cases f
  | ro _ => cases f
  | exn _ => cases f
theorem flat_toVL {K : PySem.W.Frag} {m : List Addr} {H : Hp} : ∀ {ds : List D} {vs : List V}, RepL K m H ds vs → ds.all flatD = true → vs = ds.map toV ∧ vs.all flatV = true
  | [], vs, r, _ => by unfold RepL at r; subst r; exact ⟨rfl, rfl⟩
  | d :: ds, vs, r, f => by
    unfold RepL at r
    obtain ⟨x, xs, rfl, h1, h2⟩ := r
    rw [List.all_cons, Bool.and_eq_true] at f
    obtain ⟨e1, e2⟩ := flat_toV h1 f.1
    obtain ⟨e3, e4⟩ := flat_toVL h2 f.2
    exact ⟨by rw [e1, e3]; rfl, by rw [List.all_cons, e2, e4]; rfl⟩
def inFlat (x : D) (ds : List D) : Bool := ds.any fun d => eqV (toV d) (toV x)
theorem inV_map (x : D) (ds : List D) : inV (toV x) (ds.map toV) = inFlat x ds := by
  unfold inV inFlat
  rw [List.any_map]; rfl
/-- x in y -/
def inB : D → D → Hs → Option Bool
  | .str i, .str j, _ => match i.cps.toList with
    | [c] => some (decide (c ∈ j.cps.toList))
    | _ => none
  | x, .loc l, h => match h[l]? with
    | some (.lst ds) => if flatD x && ds.all flatD then some (inFlat x ds) else none
    | some (.dct kvs) => (keyD x).map fun k => (valD kvs k).isSome
    | some (.fdc kvs) => (keyD x).map fun k => (valD kvs k).isSome
    | _ => none
  | x, .tup ds, _ => if flatD x && ds.all flatD then some (inFlat x ds) else none
  | _, _, _ => none
def ninF : VF2 := fun x y h => (inB x y h).map fun b => (.bl (!b), h)
section
variable {X : Cx} {K : PySem.W.Frag}
theorem in_core (hu : X.A.units + 1 < cLine) {pns : List (Addr × Obj)} {s : Shared} {σ : St} {H : Hp} {x y : V} {v u : Value} {m : List Addr} {hs : Hs} {dx dy : D} {b : Bool} (I : Inv X pns σ H s) (rx : RelV x v) (ry : RelV y u) (r1 : RepV X.K m H dx x) (r2 : RepV X.K m H dy y)
    (rh : RepH X.K m H hs) (e : inB dx dy hs = some b) {Q : VK} :
    (Q (.bl b) H → wpAny (model X.prog X.w) X.A (compareOp .In v u) (EP X pns σ Q) X.xe s) ∧ (Q (.bl (!b)) H → wpAny (model X.prog X.w) X.A (compareOp .NotIn v u) (EP X pns σ Q) X.xe s) := by
  unfold inB at e
  split at e
  · rename_i i j
    unfold RepV at r1 r2
    subst r1 r2
    split at e
    · rename_i c hc
      cases e
      have hi : i = ⟨#[c]⟩ := by
        cases i with
        | mk a => congr; exact Array.toList_inj.mp (by simpa using hc)
      subst hi
      exact ⟨fun q => op_in_sign pns s σ H _ _ v u Q I rx ry ⟨c, j, rfl, rfl, q⟩, fun q => op_notIn_sign pns s σ H _ _ v u Q I rx ry ⟨c, j, rfl, rfl, q⟩⟩
    · cases e
  · rename_i l
    unfold RepV at r2
    obtain ⟨a, ha, rfl⟩ := r2
    split at e
    · rename_i ds e1
      obtain ⟨vs, hv, rl⟩ := rh.lst ha e1
      split at e
      · rename_i c
        cases e
        obtain ⟨c1, c2⟩ := Bool.and_eq_true_iff.mp c
        obtain ⟨q1, q2⟩ := flat_toV r1 c1
        obtain ⟨q3, q4⟩ := flat_toVL rl c2
        have ei : inV x vs = inFlat dx ds := by rw [q1, q3, inV_map]
        exact ⟨fun q => op_in_seq pns s σ H _ _ v u Q I rx ry ⟨a, vs, rfl, .inl (SqL.of hv), q2, q4, by rw [if_neg Bool.false_ne_true, ei]; exact q⟩, fun q => op_notIn_seq pns s σ H _ _ v u Q I rx ry ⟨a, vs, rfl, .inl (SqL.of hv), q2, q4, by rw [if_pos rfl, ei]; exact q⟩⟩
      · cases e
    · rename_i kvs e1
      obtain ⟨ks, hk, kk, rk⟩ := rh.at_ _ a _ ha e1
      cases q : keyD dx with
      | none => rw [q] at e; cases e
      | some k =>
        rw [q] at e
        cases e
        have hx := kV_keyD r1 q
        subst hx
        have es : (valV ks k).isSome = (valD kvs k).isSome := by
          rcases valD_rep k kk rk with ⟨a, b⟩ | ⟨d, v, a, b, _⟩ <;> rw [a, b] <;> rfl
        have g : DGet H a (kV k) (valV ks k) := DGet.k hk
        cases ry
        exact ⟨fun q => d_in hu I g rx fun s' I' => ⟨.bl (valV ks k).isSome, H, I', rfl, by rw [es]; exact q⟩, fun q => d_notIn hu I g rx fun s' I' => ⟨.bl (!(valV ks k).isSome), H, I', rfl, by rw [es]; exact q⟩⟩
    · rename_i kvs e1
      obtain ⟨ob, ks, hk, kk, rk⟩ := rh.at_ _ a _ ha e1
      cases q : keyD dx with
      | none => rw [q] at e; cases e
      | some k =>
        rw [q] at e
        cases e
        have hx := kV_keyD r1 q
        subst hx
        have es : (valV ks k).isSome = (valD kvs k).isSome := by
          rcases valD_rep k kk rk with ⟨a, b⟩ | ⟨d, v, a, b, _⟩ <;> rw [a, b] <;> rfl
        have g : DGet H a (kV k) (valV ks k) := .inl ⟨ks, k, .inr ⟨ob, hk⟩, rfl, rfl⟩
        cases ry
        exact ⟨fun q => d_in hu I g rx fun s' I' => ⟨.bl (valV ks k).isSome, H, I', rfl, by rw [es]; exact q⟩, fun q => d_notIn hu I g rx fun s' I' => ⟨.bl (!(valV ks k).isSome), H, I', rfl, by rw [es]; exact q⟩⟩
    · cases e
  · rename_i ds
    unfold RepV at r2
    obtain ⟨a, vs, rfl, ha, rl⟩ := r2
    split at e
    · rename_i c
      cases e
      obtain ⟨c1, c2⟩ := Bool.and_eq_true_iff.mp c
      obtain ⟨q1, q2⟩ := flat_toV r1 c1
      obtain ⟨q3, q4⟩ := flat_toVL rl c2
      have ei : inV x vs = inFlat dx ds := by rw [q1, q3, inV_map]
      exact ⟨fun q => op_in_seq pns s σ H _ _ v u Q I rx ry ⟨a, vs, rfl, .inr (SqT.of ha), q2, q4, by rw [if_neg Bool.false_ne_true, ei]; exact q⟩, fun q => op_notIn_seq pns s σ H _ _ v u Q I rx ry ⟨a, vs, rfl, .inr (SqT.of ha), q2, q4, by rw [if_pos rfl, ei]; exact q⟩⟩
    · cases e
  · cases e
theorem o_nin (hu : X.A.units + 195 < cLine) : OpR X (compareOp .NotIn) (rV X.K ninF) := by
  intro pns s σ H x y v u Q I rx ry h
  obtain ⟨m, hs, dx, dy, r1, r2, rh, o⟩ := h
  unfold ninF at o
  cases e : inB dx dy hs with
  | none => rw [e] at o; exact o.elim
  | some b =>
    rw [e] at o
    exact (in_core (by omega) I rx ry r1 r2 rh e).2 (o _ m H (.refl _ _) (by unfold RepV; rfl) rh)
def isNon : D → Bool
  | .non => true
  | _ => false
def isNF : VF2
  | d, .non, h => some (.bl (isNon d), h)
  | _, _, _ => none
def isnNF : VF2
  | d, .non, h => some (.bl (!isNon d), h)
  | _, _, _ => none
theorem isNon_rep {m : List Addr} {H : Hp} {d : D} {v : V} (r : RepV K m H d v) : isNon d = decide (v = .non) := by
  cases d with
  | non => unfold RepV at r; subst r; rfl
  | bl _ => unfold RepV at r; subst r; rfl
  | int _ => unfold RepV at r; subst r; rfl
  | str _ => unfold RepV at r; subst r; rfl
  | tup _ => unfold RepV at r; obtain ⟨a, _, rfl, _⟩ := r; rfl
  | loc _ => unfold RepV at r; obtain ⟨a, _, rfl⟩ := r; rfl
  | ro _ => unfold RepV at r; obtain ⟨a, rfl, _⟩ := r; rfl
  | exn _ => unfold RepV at r; obtain ⟨a, rfl, _⟩ := r; rfl
theorem o_is : OpR X (compareOp .Is) (rV X.K isNF) := by
  intro pns s σ H x y v u Q I rx ry h
  obtain ⟨m, hs, dx, dy, r1, r2, rh, o⟩ := h
  unfold isNF at o
  split at o
  · unfold RepV at r2
    subst r2
    refine op_isN pns s σ H _ _ v u Q I rx ry ⟨rfl, ?_⟩
    rw [← isNon_rep r1]
    exact o _ m H (.refl _ _) (by unfold RepV; rfl) rh
  · exact o.elim
theorem o_isn : OpR X (compareOp .IsNot) (rV X.K isnNF) := by
  intro pns s σ H x y v u Q I rx ry h
  obtain ⟨m, hs, dx, dy, r1, r2, rh, o⟩ := h
  unfold isnNF at o
  split at o
  · unfold RepV at r2
    subst r2
    refine op_notN pns s σ H _ _ v u Q I rx ry ⟨rfl, ?_⟩
    rw [← isNon_rep r1]
    exact o _ m H (.refl _ _) (by unfold RepV; rfl) rh
  · exact o.elim
end
end DV
namespace DV
open PySem PySem.Spec PyProof.Rows L2
/-- no exception leaves where none is let -/
theorem cx_none {P : Program} {w : World} {H : Hp} {s : Shared} {e : Value} {s' : Shared} (c : L2.CX P w [] H s (fun _ _ _ => False) e s') : False := by
  obtain ⟨_, _, _, _, _, _, _, _, _, _, _, _, z⟩ := c
  exact z
theorem spM_ro {K : PySem.W.Frag} {φ : Fm} {H : Hp} {a : Addr} {ns : List Int} {h' : Hs} (hO : Only H) (hS : SqL K H a (ns.map V.int)) (e : φ [.ro ns] [] = .ok (.bl true) h') : spM K 1 φ [.ref a] H (fun v _ => v = .bl true) (fun _ _ _ => False) := by
  have hq : SqR K H a (ns.map V.int) := by
    rcases hS with h | h
    · rcases h with h | ⟨o, h⟩
      · rcases hO a with z | ⟨o, xs, z⟩
        · rw [z] at h; cases h
        · rw [z] at h; cases h
      · exact .inl ⟨o, h⟩
    · exact .inr h
  refine ⟨rfl, [], [.ro ns], [], .cons (by unfold RepV; exact ⟨a, rfl, hq⟩) .nil, ⟨rfl, List.nodup_nil, fun i b o hi => by simp at hi⟩, ?_⟩
  rw [e]
  intro v m' H' _ rv _
  unfold RepV at rv
  exact rv
theorem law_end {l : PySem.W.OpenLaw} {k : Nat} {q : Program} {loose : List Str} {XP : (Str → Option Value) → Heap → Prop} {YP : World → Heap → Prop} {d : DefRec} {φ : Fm}
    (hn : l.most = some 63) (hdf : d.params.defaults = []) (hr : Room k callerA) (hφ : ∀ ns : List Int, ns.length ≤ 63 → ∃ h', φ [.ro ns] [] = .ok (.bl true) h')
    (G : ∀ (w : World) (mg : Str → Option Value) (fa : Addr) (h : Heap), YP w h → h.Ns mainGlobals mg → mg d.name = some (.ref fa) →
      ∃ (K : PySem.W.Frag) (fd : FuncData), K.In h ∧ (∀ (s : Shared) (u : Value), BindsTo s fd ⟨[u], []⟩ [("script", u)]) ∧
        ∀ base : Heap, K.In base → base.Ns mainGlobals mg → FnOk l.prog w K mg base (L2.CX l.prog w) k fa fd ["script"] (spM K 1 φ)) :
    PySem.W.WalkO q loose XP YP l.row.toRowW d [] (fun f vs => PySem.call f vs) := by
  refine Att.attach_call hn hdf fun w sA sB mg mb fa o pm cd doc a vs ns T Y ho hd hcd hmg hobj hints hlen hg => ?_
  obtain ⟨K, fd, KX, hb, hF⟩ := G w mg fa _ Y T.T.g hmg
  refine law_call KX T.T.g T.T.b T.T.builtins T.T.nolimit hg hobj hints (Nat.le_trans hlen (by rw [sizeLine_eq]; decide)) hr hF hb (fun H hO hS => ?_) fun H e s' => cx_none
  obtain ⟨h', e⟩ := hφ ns hlen
  exact spM_ro hO hS e
def FUEL : Nat := 100000
theorem fnAt_by {P : Program} {w : World} {K : PySem.W.Frag} {mg : Str → Option Value} {base : Heap} {x qual : Str} {params : Arguments} {body : List Stmt} {scope : Scope} {f : Addr} {fd : FuncData} {ps : List Str} {k np nN : Nat} {M : SM} (kd : Nrm) (hp : ps.length = np)
    (F : FunD K x qual params body scope [] [] f fd) (hm : mg x = some (.ref f)) (hb : Binds K fd ps []) (G : FnOk P w K mg base (L2.CX P w) (k + 1) f fd ps (spM K np (kd.f (runM np nN M)))) : FnAt P w K mg base (k + 1) x ps (kd.f (runM np nN M)) := by
  subst hp
  exact ⟨⟨f, fd, hm, F.kp, hb, G⟩, kd.ar _ _ (runM_ar _ _ _)⟩
end DV
namespace DV
open PySem PySem.Spec PyProof.Rows L2
abbrev QX := Str → Hs → Prop
def R.wp {α : Type} (r : R α) (Q : α → Hs → Prop) (X : QX) : Prop := match r with
  | .ok a h => Q a h
  | .exc c h => X c h
  | .bad => False
def RS.wp (r : RS) (N : Sl → Hs → Prop) (Q : D → Hs → Prop) (X : QX) : Prop := match r with
  | .nx ds h => N ds h
  | .rt d h => Q d h
  | .exc c _ h => X c h
  | _ => False
def xF : QX := fun _ _ => False
@[simp] theorem wp_ok {α : Type} (a : α) (h : Hs) (Q : α → Hs → Prop) (X : QX) : (R.ok a h).wp Q X = Q a h := rfl
@[simp] theorem wp_exc {α : Type} (c : Str) (h : Hs) (Q : α → Hs → Prop) (X : QX) : (R.exc c h : R α).wp Q X = X c h := rfl
@[simp] theorem wp_bad {α : Type} (Q : α → Hs → Prop) (X : QX) : (R.bad : R α).wp Q X = False := rfl
@[simp] theorem wp_bind {α β : Type} (r : R α) (k : α → Hs → R β) (Q : β → Hs → Prop) (X : QX) : (r.bind k).wp Q X = r.wp (fun a h => (k a h).wp Q X) X := by cases r <;> rfl
@[simp] theorem ws_lift {α : Type} (r : R α) (ds : Sl) (k : α → Hs → RS) (N : Sl → Hs → Prop) (Q : D → Hs → Prop) (X : QX) : (lift r ds k).wp N Q X = r.wp (fun a h => (k a h).wp N Q X) X := by cases r <;> rfl
theorem R.wp_mono {α : Type} {r : R α} {Q Q' : α → Hs → Prop} {X X' : QX} (w : r.wp Q X) (f : ∀ a h, Q a h → Q' a h) (g : ∀ c h, X c h → X' c h) : r.wp Q' X' := by
  cases r with
  | ok a h => exact f a h w
  | exc c h => exact g c h w
  | bad => exact w
theorem RS.wp_mono {r : RS} {N N' : Sl → Hs → Prop} {Q Q' : D → Hs → Prop} {X X' : QX} (w : r.wp N Q X) (e : ∀ ds h, N ds h → N' ds h) (f : ∀ a h, Q a h → Q' a h) (g : ∀ c h, X c h → X' c h) : r.wp N' Q' X' := by
  cases r with
  | nx ds h => exact e ds h w
  | rt a h => exact f a h w
  | exc c ds h => exact g c h w
  | bk _ _ => exact w
  | ct _ _ => exact w
  | bad => exact w
/-- a told end -/
theorem R.wp_eq {α : Type} {r : R α} {a : α} {h : Hs} : r.wp (fun a' h' => a' = a ∧ h' = h) xF ↔ r = .ok a h := by
  cases r with
  | ok a' h' => exact ⟨fun ⟨e1, e2⟩ => by rw [e1, e2], fun e => by cases e; exact ⟨rfl, rfl⟩⟩
  | exc c h => exact ⟨fun e => e.elim, fun e => nomatch e⟩
  | bad => exact ⟨fun e => e.elim, fun e => nomatch e⟩
theorem R.wp_ex {α : Type} {r : R α} {Q : α → Hs → Prop} (w : r.wp Q xF) : ∃ a h, r = .ok a h ∧ Q a h := by
  cases r with
  | ok a h => exact ⟨a, h, rfl, w⟩
  | exc c h => exact w.elim
  | bad => exact w.elim
section
variable {N : Sl → Hs → Prop} {Q : D → Hs → Prop} {X : QX} {ds : Sl} {h : Hs}
@[simp] theorem wp_c (d : D) : (cM d ds h).wp Q X = Q d h := rfl
theorem wp_v (i : Nat) : (vM i ds h).wp Q X = (match ds[i]? with | some (some d) => Q d h | _ => False) := by
  unfold vM
  rcases ds[i]? with _ | _ | d <;> rfl
@[simp] theorem wp_ofO (o : Res) : (R.ofO o).wp Q X = (match o with | some p => Q p.1 p.2 | none => False) := by cases o <;> rfl
@[simp] theorem wp_bin (F : VF2) (A B : EM) : (binM F A B ds h).wp Q X = (A ds h).wp (fun x h => (B ds h).wp (fun y h => (R.ofO (F x y h)).wp Q X) X) X := by simp only [binM, wp_bind]
@[simp] theorem wp_un (F : D → Hs → Res) (A : EM) : (unM F A ds h).wp Q X = (A ds h).wp (fun x h => (R.ofO (F x h)).wp Q X) X := by simp only [unM, wp_bind]
@[simp] theorem wp_nilA {P : List D → Hs → Prop} : (nilA ds h).wp P X = P [] h := rfl
@[simp] theorem wp_consA {P : List D → Hs → Prop} (A : EM) (B : AM) : (consA A B ds h).wp P X = (A ds h).wp (fun x h => (B ds h).wp (fun xs h => P (x :: xs) h) X) X := by simp only [consA, wp_bind, wp_ok]
@[simp] theorem wp_arg (F : List D → Hs → Res) (A : AM) : (argM F A ds h).wp Q X = (A ds h).wp (fun xs h => (R.ofO (F xs h)).wp Q X) X := by simp only [argM, wp_bind]
@[simp] theorem wp_call (φ : Fm) (A : AM) : (callM φ A ds h).wp Q X = (A ds h).wp (fun xs h => (φ xs h).wp Q X) X := by simp only [callM, wp_bind]
@[simp] theorem wp_mt (ck : D → Hs → Bool) (F : D → List D → Hs → Res) (O : EM) (A : AM) : (mtMc ck F O A ds h).wp Q X = (O ds h).wp (fun d h => ck d h = true ∧ (A ds h).wp (fun xs h => (R.ofO (F d xs h)).wp Q X) X) X := by
  simp only [mtMc, wp_bind]
  congr 1
  funext d h
  by_cases c : ck d h = true
  · simp [c]
  · simp [c]
@[simp] theorem wp_ifE (T : TM) (A B : EM) : (ifE T A B ds h).wp Q X = (T ds h).wp (fun b h => if b = true then (A ds h).wp Q X else (B ds h).wp Q X) X := by
  simp only [ifE, wp_bind]
  congr 1
  funext b h
  split <;> rfl
@[simp] theorem wp_sl (A : EM) (lo hi : OM) : (slM A lo hi ds h).wp Q X = (A ds h).wp (fun d h => (lo ds h).wp (fun l h => (hi ds h).wp (fun u h => (R.ofO (slF d l u h)).wp Q X) X) X) X := by simp only [slM, wp_bind]
@[simp] theorem wp_noP {P : Option Int → Hs → Prop} : (noP ds h).wp P X = P none h := rfl
@[simp] theorem wp_someP {P : Option Int → Hs → Prop} (A : EM) : (someP A ds h).wp P X = (A ds h).wp (fun d h => match d with | .int i => P (some i) h | _ => False) X := by
  simp only [someP, wp_bind]
  congr 1
  funext d h
  cases d <;> rfl
def isBl (d : D) (P : Bool → Prop) : Prop := match d with
  | .bl b => P b
  | _ => False
@[simp] theorem isBl_bl (b : Bool) (P : Bool → Prop) : isBl (.bl b) P = P b := rfl
@[simp] theorem wp_tb {P : Bool → Hs → Prop} (A : EM) : (tbM A ds h).wp P X = (A ds h).wp (fun d h => isBl d fun b => P b h) X := by
  simp only [tbM, wp_bind]
  congr 1
  funext d h
  cases d <;> rfl
@[simp] theorem wp_tru {P : Bool → Hs → Prop} (A : EM) : (truM A ds h).wp P X = (A ds h).wp (fun d h => match truD d h with | some b => P b h | none => False) X := by
  simp only [truM, wp_bind]
  congr 1
  funext d h
  cases truD d h <;> rfl
@[simp] theorem wp_yes {P : Bool → Hs → Prop} : (yesM ds h).wp P X = P true h := rfl
@[simp] theorem wp_and {P : Bool → Hs → Prop} (A B : TM) : (andM A B ds h).wp P X = (A ds h).wp (fun b h => if b = true then (B ds h).wp P X else P false h) X := by
  simp only [andM, wp_bind]
  congr 1
  funext b h
  split <;> rfl
@[simp] theorem wp_or {P : Bool → Hs → Prop} (A B : TM) : (orM A B ds h).wp P X = (A ds h).wp (fun b h => if b = true then P true h else (B ds h).wp P X) X := by
  simp only [orM, wp_bind]
  congr 1
  funext b h
  split <;> rfl
@[simp] theorem wp_not {P : Bool → Hs → Prop} (A : TM) : (notM A ds h).wp P X = (A ds h).wp (fun b h => P (!b) h) X := by simp only [notM, wp_bind, wp_ok]
@[simp] theorem wp_andV (A B : EM) : (andV A B ds h).wp Q X = (A ds h).wp (fun d h => isBl d fun b => if b = true then (B ds h).wp Q X else Q (.bl false) h) X := by
  simp only [andV, wp_bind]
  congr 1
  funext d h
  cases d with
  | bl b => simp only [isBl]; split <;> rfl
  | _ => rfl
@[simp] theorem wp_orV (A B : EM) : (orV A B ds h).wp Q X = (A ds h).wp (fun d h => isBl d fun b => if b = true then Q (.bl true) h else (B ds h).wp Q X) X := by
  simp only [orV, wp_bind]
  congr 1
  funext d h
  cases d with
  | bl b => simp only [isBl]; split <;> rfl
  | _ => rfl
@[simp] theorem wp_notV (A : EM) : (notV A ds h).wp Q X = (A ds h).wp (fun d h => isBl d fun b => Q (.bl (!b)) h) X := by
  simp only [notV, wp_bind]
  congr 1
  funext d h
  cases d <;> rfl
@[simp] theorem wp_chain (F G : VF2) (A B C : EM) : (chainM F G A B C ds h).wp Q X = (A ds h).wp (fun x h => (B ds h).wp (fun y h => (R.ofO (F x y h)).wp (fun z h => isBl z fun b => if b = true then (C ds h).wp (fun w h => (R.ofO (G y w h)).wp Q X) X else Q (.bl false) h) X) X) X := by
  simp only [chainM, wp_bind]
  congr 1
  funext x h
  congr 1
  funext y h
  congr 1
  funext z h
  cases z with
  | bl b => simp only [isBl]; split <;> simp only [wp_bind, wp_ok]
  | _ => rfl
@[simp] theorem ws_pass : (passM ds h).wp N Q X = N ds h := rfl
@[simp] theorem ws_seq (A B : SM) : (seqM A B ds h).wp N Q X = (A ds h).wp (fun ds h => (B ds h).wp N Q X) Q X := by
  unfold seqM
  cases e : A ds h <;> rfl
@[simp] theorem ws_set (i : Nat) (A : EM) : (setM i A ds h).wp N Q X = (A ds h).wp (fun d h => N (ds.set i (some d)) h) X := by simp only [setM, ws_lift]; rfl
@[simp] theorem ws_expr (A : EM) : (exprM A ds h).wp N Q X = (A ds h).wp (fun _ h => N ds h) X := by simp only [exprM, ws_lift]; rfl
@[simp] theorem ws_ret (A : EM) : (retM A ds h).wp N Q X = (A ds h).wp Q X := by simp only [retM, ws_lift]; rfl
@[simp] theorem ws_retN : (retN ds h).wp N Q X = Q .non h := rfl
@[simp] theorem ws_raise (c : Str) : (raiseM c ds h).wp N Q X = X c h := rfl
@[simp] theorem ws_if (T : TM) (A B : SM) : (ifM T A B ds h).wp N Q X = (T ds h).wp (fun b h => if b = true then (A ds h).wp N Q X else (B ds h).wp N Q X) X := by
  simp only [ifM, ws_lift]
  congr 1
  funext b h
  split <;> rfl
@[simp] theorem ws_asg (A : EM) (T : GM) : (asgM A (okG T) ds h).wp N Q X = (A ds h).wp (fun d h => (T d ds h).wp N (fun _ _ => False) xF) X := by
  simp only [asgM, ws_lift]
  congr 1
  funext d h
  unfold okG
  cases T d ds h <;> rfl
@[simp] theorem ws_nameG (i : Nat) (d : D) {Qr : D → Hs → Prop} : (nameG i d ds h).wp N Qr X = N (ds.set i (some d)) h := rfl
@[simp] theorem ws_nilG {Qr : D → Hs → Prop} : (nilG [] ds h).wp N Qr X = N ds h := rfl
@[simp] theorem ws_consG (T : GM) (U : List D → Sl → Hs → RS) (d : D) (xs : List D) : (consG T U (d :: xs) ds h).wp N (fun _ _ => False) xF = (T d ds h).wp (fun ds h => (U xs ds h).wp N (fun _ _ => False) xF) (fun _ _ => False) xF := by
  show (match T d ds h with | .nx ds h => U xs ds h | _ => .bad).wp N (fun _ _ => False) xF = _
  cases T d ds h <;> rfl
@[simp] theorem ws_tupG (n : Nat) (U : List D → Sl → Hs → RS) (xs : List D) {Qr : D → Hs → Prop} : (tupG n U (.tup xs) ds h).wp N Qr X = (xs.length = n ∧ (U xs ds h).wp N Qr X) := by
  unfold tupG
  simp only
  split
  · rename_i c; simp [c]
  · rename_i c; simp only [c, false_and]; rfl
@[simp] theorem ws_setIx (F : D → D → D → Hs → Option Hs) (V O I : EM) : (setIxM F V O I ds h).wp N Q X = (V ds h).wp (fun v h => (O ds h).wp (fun o h => (I ds h).wp (fun i h => match F o i v h with | some h' => N ds h' | none => False) X) X) X := by
  simp only [setIxM, ws_lift]
  congr 1; funext v h
  congr 1; funext o h
  congr 1; funext i h
  cases F o i v h <;> rfl
/-- a loop with what holds ahead of each turn -/
theorem ws_loop {gd : Hs → Prop} {T : GM} {B : SM} (its : List D) (J : Nat → Sl → Hs → Prop) (start : J 0 ds h) (guard : ∀ i ds h, J i ds h → gd h)
    (turn : ∀ i d ds h, its[i]? = some d → J i ds h → (T d ds h).wp (fun ds h => (B ds h).wp (J (i + 1)) Q X) (fun _ _ => False) xF) (done : ∀ ds h, J its.length ds h → N ds h) : (loopM gd T B its ds h).wp N Q X := by
  have gen : ∀ (r : List D) (k : Nat) (ds : Sl) (h : Hs), its.drop k = r → k ≤ its.length → J k ds h → (loopM gd T B r ds h).wp N Q X := by
    intro r
    induction r with
    | nil =>
      intro k ds h e hk j
      have : k = its.length := by have := congrArg List.length e; simp at this; omega
      subst this
      unfold loopM
      rw [if_pos (guard _ _ _ j)]
      exact done ds h j
    | cons d r ih =>
      intro k ds h e hk j
      have hlt : k < its.length := by
        by_cases c : k < its.length
        · exact c
        · rw [List.drop_eq_nil_of_le (by omega)] at e; cases e
      rw [List.drop_eq_getElem_cons hlt] at e
      injection e with e1 e2
      have t := turn k d ds h (by rw [List.getElem?_eq_getElem hlt, e1]) j
      unfold loopM
      rw [if_pos (guard _ _ _ j)]
      cases q : T d ds h with
      | nx ds1 h1 =>
        rw [q] at t
        have t : (B ds1 h1).wp (J (k + 1)) Q X := t
        simp only
        cases q2 : B ds1 h1 with
        | nx ds2 h2 => rw [q2] at t; exact ih (k + 1) ds2 h2 e2 hlt t
        | rt d h2 => rw [q2] at t; exact t
        | exc c ds2 h2 => rw [q2] at t; exact t
        | bk _ _ => rw [q2] at t; exact t.elim
        | ct _ _ => rw [q2] at t; exact t.elim
        | bad => rw [q2] at t; exact t.elim
      | _ => rw [q] at t; exact (show False from t).elim
  exact gen its 0 ds h rfl (Nat.zero_le _) start
@[simp] theorem ws_for (I : IM) (T : GM) (B : SM) : (forM I T B ds h).wp N Q X = (I ds h).wp (fun p h => (loopM p.2 T B p.1 ds h).wp N Q X) X := by simp only [forM, ws_lift]
@[simp] theorem wp_valI {P : List D × (Hs → Prop) → Hs → Prop} (A : EM) : (valI A ds h).wp P X = (A ds h).wp (fun d h => match itsF d h with | some p => P p h | none => False) X := by
  simp only [valI, wp_bind]
  congr 1; funext d h
  cases itsF d h <;> rfl
@[simp] theorem wp_rngI {P : List D × (Hs → Prop) → Hs → Prop} (F : List D → Option (List D)) (A : AM) : (rngI F A ds h).wp P X = (A ds h).wp (fun xs h => match F xs with | some its => P (its, fun _ => True) h | none => False) X := by
  simp only [rngI, wp_bind]
  congr 1; funext d h
  cases F d <;> rfl
/-- a while with what holds and what falls -/
theorem ws_while {T : TM} {B : SM} (J : Nat → Sl → Hs → Prop) (n k : Nat) (hk : k < n) (start : J k ds h)
    (turn : ∀ k ds h, J k ds h → (T ds h).wp (fun b h => if b = true then (B ds h).wp (fun ds h => ∃ j, j < k ∧ J j ds h) Q X else N ds h) X) : (whileM T B n ds h).wp N Q X := by
  induction n generalizing k ds h with
  | zero => omega
  | succ n ih =>
    have t := turn k ds h start
    unfold whileM
    rw [ws_lift]
    refine R.wp_mono t (fun b h1 w => ?_) (fun _ _ x => x)
    cases b with
    | true =>
      rw [if_pos rfl] at w ⊢
      cases q : B ds h1 with
      | nx ds2 h2 => rw [q] at w; obtain ⟨j, hj, w⟩ := w; exact ih j (by omega) w
      | rt d h2 => rw [q] at w; exact w
      | exc c ds2 h2 => rw [q] at w; exact w
      | bk _ _ => rw [q] at w; exact w.elim
      | ct _ _ => rw [q] at w; exact w.elim
      | bad => rw [q] at w; exact w.elim
    | false => rw [if_neg Bool.false_ne_true] at w ⊢; exact w
theorem wp_run (np nN : Nat) (M : SM) (xs : List D) : (runM np nN M xs h).wp Q X = (xs.length = np ∧ (M (startD nN xs) h).wp (fun _ h => Q .non h) Q X) := by
  unfold runM
  by_cases c : xs.length = np
  · rw [if_pos c]
    simp only [c, true_and]
    cases M (startD nN xs) h <;> rfl
  · rw [if_neg c]; simp [c]
theorem wp_pure (φ : Fm) (xs : List D) : (kPure.f φ xs h).wp Q X = (φ xs h).wp (fun d h' => (noloc d = true ∧ h'.take h.length = h) ∧ Q d h) (fun c h' => h'.take h.length = h ∧ X c h) := by
  show (nPure φ xs h).wp Q X = _
  unfold nPure
  cases φ xs h with
  | ok d h' =>
    simp only [wp_ok]
    split
    · rename_i c; simp [c]
    · rename_i c; simp [c]
  | exc c h' =>
    simp only [wp_exc]
    split
    · rename_i c; simp [c]
    · rename_i c; simp [c]
  | bad => rfl
end
end DV
namespace DV
open PySem PySem.Spec PyProof.Rows L2
section
variable {h : Hs} {i j : Int} {a b : Str} {xs ys : List D}
@[simp] theorem add_int : addF (.int i) (.int j) h = some (.int (i + j), h) := rfl
@[simp] theorem add_strs : addF (.str a) (.str b) h = if a.length + b.length ≤ LIM then some (.str (a ++ b), h) else none := rfl
@[simp] theorem add_tup : addF (.tup xs) (.tup ys) h = if xs.length + ys.length ≤ LIM then some (.tup (xs ++ ys), h) else none := rfl
@[simp] theorem sub_int : subF (.int i) (.int j) h = some (.int (i - j), h) := rfl
@[simp] theorem mul_int' : mulF (.int i) (.int j) h = if cMul i j = true then some (.int (i * j), h) else none := rfl
@[simp] theorem mul_strn : mulF (.str a) (.int j) h = if cB (-1000000 ≤ j ∧ j ≤ 1000000 ∧ a.length ≤ 1000000 ∧ a.length * j.toNat ≤ LIM) = true then some (.str (repS a j.toNat), h) else none := rfl
theorem ipF_int {C : Int → Int → Bool} {g : Int → Int → Int} : ipF C g (.int i) (.int j) h = if C i j = true then some (.int (g i j), h) else none := by
  unfold ipF intF
  simp only
  split <;> rfl
@[simp] theorem mod_int' : modF (.int i) (.int j) h = if cMod i j = true then some (.int (i % j), h) else none := ipF_int
@[simp] theorem fdiv_int : fdivF (.int i) (.int j) h = if cDiv i j = true then some (.int (i / j), h) else none := ipF_int
@[simp] theorem pow_int : powF (.int i) (.int j) h = if cPow i j = true then some (.int (i ^ j.toNat), h) else none := ipF_int
theorem cMul_l (h1 : -18446744073709551616 < i) (h2 : i < 18446744073709551616) : cMul i j = true := cB_of (.inl ⟨h1, h2⟩)
theorem cMul_r (h1 : -18446744073709551616 < j) (h2 : j < 18446744073709551616) : cMul i j = true := cB_of (.inr ⟨h1, h2⟩)
theorem cMod_of (h1 : 0 < j) : cMod i j = true := cB_of h1
theorem cDiv_of (h1 : 0 < j) (h2 : j < 1073741824) : cDiv i j = true := cB_of ⟨h1, h2⟩
theorem cPow_of (h1 : 0 ≤ j) (h2 : j ≤ 1000000) (h3 : i.natAbs < 18446744073709551616) : cPow i j = true := cB_of ⟨h1, h2, h3⟩
@[simp] theorem lt_int : ltF (.int i) (.int j) h = some (.bl (decide (i < j)), h) := rfl
@[simp] theorem gt_int : gtF (.int i) (.int j) h = some (.bl (decide (j < i)), h) := rfl
@[simp] theorem ge_int : geF (.int i) (.int j) h = some (.bl (decide (j ≤ i)), h) := rfl
@[simp] theorem neg_int : negF (.int i) h = some (.int (-i), h) := rfl
@[simp] theorem tup_F : tupF xs h = if xs.length ≤ LIM then some (.tup xs, h) else none := rfl
@[simp] theorem lst_F : lstF xs h = if xs.length ≤ LIM then some (.loc h.length, h ++ [.lst xs]) else none := rfl
@[simp] theorem le_LIM {n : Nat} : (n ≤ LIM) = (n ≤ 16777216) := rfl
@[simp] theorem lt_LIM {n : Nat} : (n < LIM) = (n < 16777216) := rfl
theorem eq_of {d e : D} (a : pyOk d = true) (b : pyOk e = true) (z : depD d ≤ 190) [Decidable (d = e)] : eqF d e h = some (.bl (decide (d = e)), h) := by
  unfold eqF; rw [eqB_of a b z, Option.map_some]; congr
theorem ne_of' {d e : D} (a : pyOk d = true) (b : pyOk e = true) (z : depD d ≤ 190) [Decidable (d = e)] : neF d e h = some (.bl (!decide (d = e)), h) := by
  unfold neF; rw [eqB_of a b z, Option.map_some]; congr
open Classical in
@[simp] theorem eq_int : eqF (.int i) (.int j) h = some (.bl (decide (i = j)), h) := by rw [eq_of rfl rfl (Nat.zero_le _)]; simp
open Classical in
@[simp] theorem ne_int' : neF (.int i) (.int j) h = some (.bl (!decide (i = j)), h) := by rw [ne_of' rfl rfl (Nat.zero_le _)]; simp
@[simp] theorem eq_bool' {c d : Bool} : eqF (.bl c) (.bl d) h = some (.bl (c == d), h) := by simp [eqF, eqB, lenNe, pyH, pyW, PyData.canLay0, PyData.depth, PyData.eqv]
@[simp] theorem ne_bool' {c d : Bool} : neF (.bl c) (.bl d) h = some (.bl (!(c == d)), h) := by simp [neF, eqB, lenNe, pyH, pyW, PyData.canLay0, PyData.depth, PyData.eqv]
open Classical in
theorem eq_strs (ha : PyData.strOk a = true) (hb : PyData.strOk b = true) : eqF (.str a) (.str b) h = some (.bl (decide (a = b)), h) := by rw [eq_of (by unfold pyOk; exact ha) (by unfold pyOk; exact hb) (Nat.zero_le _)]; simp
open Classical in
theorem ne_strs (ha : PyData.strOk a = true) (hb : PyData.strOk b = true) : neF (.str a) (.str b) h = some (.bl (!decide (a = b)), h) := by rw [ne_of' (by unfold pyOk; exact ha) (by unfold pyOk; exact hb) (Nat.zero_le _)]; simp
@[simp] theorem ix_tup' : ixF (.tup xs) (.int i) h = (atI xs i).map fun d => (d, h) := rfl
@[simp] theorem ix_str' : ixF (.str a) (.int i) h = if a.length ≤ LIM then (atI a.cps.toList i).map (fun c => (.str ⟨#[c]⟩, h)) else none := rfl
@[simp] theorem len_tup : lenF [.tup xs] h = some (.int xs.length, h) := rfl
@[simp] theorem len_ro {ns : List Int} : lenF [.ro ns] h = some (.int ns.length, h) := rfl
@[simp] theorem len_str' : lenF [.str a] h = if a.length ≤ LIM then some (.int a.length, h) else none := rfl
@[simp] theorem max2_int : max2F [.int i, .int j] h = some (.int (if j > i then j else i), h) := rfl
theorem ix_lst {l : Nat} (e : h[l]? = some (.lst xs)) : ixF (.loc l) (.int i) h = (atI xs i).map fun d => (d, h) := by simp [ixF, e]
theorem len_lst {l : Nat} (e : h[l]? = some (.lst xs)) : lenF [.loc l] h = some (.int xs.length, h) := by simp [lenF, e]
theorem its_lst {l : Nat} (e : h[l]? = some (.lst xs)) : itsF (.loc l) h = some (xs, fun h => h[l]? = some (.lst xs)) := by simp [itsF, e]
@[simp] theorem its_tup : itsF (.tup xs) h = some (xs, fun _ => True) := rfl
@[simp] theorem its_str : itsF (.str a) h = some (a.cps.toList.map fun c => .str ⟨#[c]⟩, fun _ => True) := rfl
@[simp] theorem its_ro {ns : List Int} : itsF (.ro ns) h = some (ns.map D.int, fun _ => True) := rfl
@[simp] theorem nin_sign {c : Nat} : ninF (.str ⟨#[c]⟩) (.str b) h = some (.bl (!decide (c ∈ b.cps.toList)), h) := rfl
theorem atI_nat {α : Type} {zs : List α} {k : Nat} (hk : k < zs.length) : atI zs (k : Int) = zs[k]? := by
  unfold atI ixN
  simp [hk]
theorem atI_of {α : Type} {zs : List α} {i : Int} (h0 : 0 ≤ i) (h1 : i < zs.length) : ∃ z, atI zs i = some z ∧ zs[i.toNat]? = some z := by
  obtain ⟨k, rfl⟩ := Int.eq_ofNat_of_zero_le h0
  have hk : k < zs.length := by omega
  refine ⟨zs[k], ?_, by simp⟩
  rw [atI_nat hk]
  simp
theorem pw62 : (2 : Int) ^ 62 = 4611686018427387904 := by decide +kernel
theorem inR_of (h1 : -1000000000000 ≤ j) (h2 : j ≤ 1000000000000) : inR j = true := by
  unfold inR
  rw [pw62]
  exact cB_of ⟨by omega, by omega⟩
@[simp] theorem rng1_int : rng1 [.int j] = if inR j = true then some ((List.range j.toNat).map fun (i : Nat) => .int (i : Int)) else none := rfl
@[simp] theorem rng2_int : rng2 [.int i, .int j] = if inR i = true ∧ inR j = true then some ((List.range (j - i).toNat).map fun (k : Nat) => .int (i + (k : Int))) else none := rfl
end
section
variable {h r : Hs} {o : AO} {l k : Nat}
theorem get_app (e : h[l]? = some o) : (h ++ r)[l]? = some o := by
  obtain ⟨q, _⟩ := List.getElem?_eq_some_iff.mp e
  rw [List.getElem?_append_left q]; exact e
@[simp] theorem get_new : (h ++ r)[h.length + k]? = r[k]? := by rw [List.getElem?_append_right (by omega)]; congr 1; omega
@[simp] theorem get_new0 : (h ++ r)[h.length]? = r[0]? := by rw [List.getElem?_append_right (by omega)]; congr 1; omega
@[simp] theorem set_new : (h ++ r).set (h.length + k) o = h ++ r.set k o := (List.set_append_right _ _ (by omega)).trans (by rw [Nat.add_sub_cancel_left])
@[simp] theorem set_new0 : (h ++ r).set h.length o = h ++ r.set 0 o := (List.set_append_right _ _ (Nat.le_refl _)).trans (by rw [Nat.sub_self])
end
end DV
namespace DV
open PySem PySem.Spec PyProof.Rows L2
end DV
namespace DV
open PySem PySem.Spec PyProof.Rows L2
/-- the tuple at a, each item in a new pair with jts number -/
def Itm (K : PySem.W.Frag) (a : Addr) : It where
  go := fun i H => ∃ (xs : List V) (x : V), SqT K H a xs ∧ xs[i]? = some x
  yld := fun i H v H' => ∃ T x, v = .ref T ∧ H T = none ∧ H' = upd H T (.tup [.int (i : Nat), x]) ∧ ∀ xs, SqT K H a xs → xs[i]? = some x
  stop := fun i H => ∃ xs : List V, SqT K H a xs ∧ xs.length ≤ i
theorem enum_apart {h : Heap} {e it a : Addr} {c : Int} {old : Value} {items : Array Value} (he : IsEnum h e it c old) (ha : h.IsTuple a items) : e ≠ a := by
  rintro rfl
  obtain ⟨o, ho, hc, _⟩ := ha
  have he : h.get? e = some _ := he
  rw [he] at ho
  cases ho
  injection hc with z
  exact absurd z (by decide)
theorem turn_enumT {P : Program} {w : World} {K : PySem.W.Frag} {elts : List Expr} {kk : Nat} {tpos : Pos} (a e it : Addr) :
    Turn P w K (.Tuple elts kk tpos) (Itm K a) [e, it] e (fun i h => (∃ old, IsEnum h e it (i : Nat) old) ∧ h.IsTupleIter it a i ∧ e ≠ it ∧ a ≠ it) where
  mem := List.mem_cons_self
  obj := by
    rintro i h ⟨⟨old, he⟩, ⟨o, ho, hc, hd⟩, _⟩ b hb
    rcases List.mem_cons.mp hb with rfl | hb
    · exact ⟨_, he, fun v q => nomatch q⟩
    · cases List.mem_singleton.mp hb
      exact ⟨o, ho, fun v q => by rw [hd] at q; cases q⟩
  keep := by
    rintro i h h' ⟨⟨old, he⟩, hi, hne, hna⟩ k
    exact ⟨⟨old, k e (by simp) _ he⟩, hi.at fun o q => k it (by simp) o q, hne, hna⟩
  item := by
    intro X hP hw hK hc i pns s σ H E I hf st hg
    subst hP hw hK
    obtain ⟨⟨old, he⟩, hit, hne, hna⟩ := st
    obtain ⟨xs, x, hq, hx⟩ := hg
    obtain ⟨jts, rv, p, hz⟩ := I.tuple hq
    have p' : s.heap.IsTuple a jts.toArray := p
    obtain ⟨u, hu, ru⟩ := rv.get hx
    have hel : e < s.heap.objs.size := Heap.lt_size he
    have hil : it < s.heap.objs.size := by obtain ⟨_, q, _⟩ := hit; exact Heap.lt_size q
    have hh : X.A.in1.handled = none := I.ok.hd hc
    have D := Draws.tuple (prog := X.prog) (w := X.w) hh it a hna jts.toArray
    have hlt : i < jts.toArray.size := by
      have := (List.getElem?_eq_some_iff.mp hu).1
      simpa using this
    refine wpAny_pyNext_enum_itemD D he ⟨hit, p'⟩ hlt hne (fun q => ?_) fun y h' tk hy ho hst hT hsz hk => ?_
    · rcases List.mem_cons.mp q with q | q
      · exact hne q
      · exact enum_apart he p' (List.mem_singleton.mp q)
    · have ey : y = u := by
        have hy : jts.toArray[i]? = some y := hy
        rw [List.getElem?_toArray, hu] at hy
        exact (Option.some.inj hy).symm
      subst ey
      refine ⟨_, rfl, wpAny_letOwnedTupleGo_enum (s := { s with heap := h', toks := tk + 1 }) ho fun h2 he2 sb => ?_⟩
      have hT2 : h2.get? s.heap.objs.size = some { cls := .type "tuple", data := .seq #[.int i tk, y] } := (sb.2 _ (Nat.ne_of_gt hel)).trans hT
      have new : ObjOk X.prog X.w (upd H s.heap.objs.size (.tup [.int (i : Nat), x])) h2 s.heap.objs.size (.tup [.int (i : Nat), x]) :=
        ⟨by show 2 ≤ sizeLine; decide, [.int i tk, y], .cons ⟨_, rfl⟩ (.cons ru .nil), ⟨_, hT2, rfl, _, rfl⟩⟩
      have I1 : Inv X pns σ (upd H s.heap.objs.size (.tup [.int (i : Nat), x])) { s with heap := h2, toks := tk + 1 } :=
        I.turnedNew (ch := [e, it]) (fun b ob hb q => (sb.2 b (fun z => hb (by simp [z]))).trans (hk b ob (fun z => hb (by simp [z])) (fun z => hb (by simp [z])) q)) hf (Nat.le_refl _) new
      refine ⟨.ref s.heap.objs.size, _, I1, rfl, ⟨_, x, rfl, I.hok.fresh (Nat.le_refl _), rfl, fun ys hy => by rw [I.tuple_inj hy hq]; exact hx⟩, ⟨⟨y, ?_⟩, hst.1.at fun o q => (sb.2 it (Ne.symm hne)).trans q, hne, hna⟩, fun b hb => ?_⟩
      · have e1 : ((i + 1 : Nat) : Int) = (i : Int) + 1 := by omega
        rw [e1]; exact he2
      · have hb' : b < s.heap.objs.size := by
          rcases List.mem_cons.mp hb with rfl | hb
          · exact hel
          · cases List.mem_singleton.mp hb; exact hil
        rw [upd_ne (Nat.ne_of_lt hb')]
        exact (hf b hb).1
  done := by
    intro X hP hw hK hc i pns s σ H E I hf st hg
    subst hP hw hK
    obtain ⟨⟨old, he⟩, hit, hne, hna⟩ := st
    obtain ⟨xs, hq, hx⟩ := hg
    obtain ⟨jts, rv, p, hz⟩ := I.tuple hq
    have p' : s.heap.IsTuple a jts.toArray := p
    obtain ⟨f0, f1, f2, f3, f4, f5⟩ := hf it (by simp)
    have hl := rv.length
    have hh : X.A.in1.handled = none := I.ok.hd hc
    have D : Draws X.prog X.w X.A.in1 it [it, a] 0 (fun _ _ => False) (fun _ h => h.IsTupleIter it a i ∧ h.IsTuple a jts.toArray) := {
      live := fun _ _ st => let ⟨o, ho, _⟩ := st.1; ⟨o, ho⟩
      frame := fun _ _ _ st hk => ⟨st.1.at fun o z => hk it (by simp) o z, st.2.at fun o z => hk a (by simp) o z⟩
      item := fun k s Q E hk => absurd hk (Nat.not_lt_zero _)
      done := fun s Q E st hE => wpAny_nextOf_tuple_end hh st.1 st.2 (by rw [List.getElem?_toArray]; exact List.getElem?_eq_none (by omega)) hE }
    exact wpAny_pyNext_enum_endD D he ⟨hit, p'⟩ fun h' eb => ⟨rfl, I.turned (t' := s.toks) (fun b o hb q => eb b o hb q) f0 f1 f3 f4 f5⟩
  self := fun A i s Q E st h => let ⟨⟨_, he⟩, _⟩ := st; wpAny_pyIter_enum he h
/-- enumerate(t): jts new cells -/
theorem meets_enumT (v : Value) (o : Obj) (G : Heap → Prop) (B : Begins v o G) :
    Meets (Builtin.«enumerate.__new__» ⟨[.type "enumerate", v], []⟩) (fun _ R s => G s.heap ∧ R (.ok (.ret (.ref (s.heap.push o).objs.size)))
      { s with heap := (s.heap.push o).push { cls := .type "enumerate", data := .fields #[.none, .bool false, .ref s.heap.objs.size, rawInt 0, .none, .none] } }) :=
  .of_wp fun prog w A R s h => by
    obtain ⟨hp, gg, dd, tk, os⟩ := s
    obtain ⟨g1, h⟩ := h
    have hsub := sub_enumerate
    have go : ∀ {A' : Around} {E Q : Value → Shared → Prop}, Q (.ref hp.objs.size) ⟨hp.push o, gg, dd, tk, os⟩ → wpAny (model prog w) A' (pyIter v) Q E ⟨hp, gg, dd, tk, os⟩ := fun q => B.iter prog w _ _ ⟨hp, gg, dd, tk, os⟩ _ g1 q
    wp_walk
    refine wpAny_stack_any fun st => wpAny_pure ?_
    split
    · rename_i c _ _ _ _ _
      cases (c == Value.type "enumerate")
      · wp_walk using go
        exact ⟨_, rfl, h⟩
      · wp_walk using go
        exact ⟨_, rfl, h⟩
    · wp_walk using go
      exact ⟨_, rfl, h⟩
theorem call_enumT {P : Program} {w : World} {A : Around} {E Q : Value → Shared → Prop} {s : Shared} {t : Addr} {items : Array Value} (ht : s.heap.IsTuple t items)
    (h : ∀ h', IsEnum h' (s.heap.objs.size + 1) s.heap.objs.size ((0 : Nat) : Int) .none → h'.IsTupleIter s.heap.objs.size t 0 → h'.objs.size = s.heap.objs.size + 2 → (∀ b o, s.heap.get? b = some o → h'.get? b = some o) → Q (.ref (s.heap.objs.size + 1)) { s with heap := h' }) :
    wpAny (model P w) A (call (.type "enumerate") [.ref t]) Q E s := by
  refine callType_new F.called_enumerate (by decide) (F.typeCall_enumerate_1 _) (F.newCall_enumerate_1 _) (fun obj => F.args_object_init_2 obj _) F.entry_enumerate_new (meets_enumT _ _ _ (begins_tuple t items)) ⟨ht, ?_⟩
  have hz := Heap.size_push s.heap { cls := .type "tuple_iterator", data := .fields #[.ref t, .int 0 0] }
  have he := Heap.get?_push_size (s.heap.push { cls := .type "tuple_iterator", data := .fields #[.ref t, .int 0 0] }) (o := { cls := .type "enumerate", data := .fields #[.none, .bool false, .ref s.heap.objs.size, rawInt 0, .none, .none] }) rfl
  show _ ∧ _
  rw [hz] at he ⊢
  exact ⟨⟨_, he, rfl⟩, h _ he ⟨_, Heap.get?_push_of_some _ (Heap.get?_push_size _ rfl), rfl, rfl⟩ (by rw [Heap.size_push, hz]) fun b o x => Heap.get?_push_of_some _ (Heap.get?_push_of_some _ x)⟩
def numD (xs : List D) : List D := xs.zipIdx.map fun p => .tup [.int (p.2 : Nat), p.1]
def enumF (d : D) (h : Hs) : Option (List D × (Hs → Prop)) := match d with
  | .tup ds => some (numD ds, fun _ => True)
  | .loc l => match h[l]? with
    | some (.lst ds) => some (numD ds, fun h => h[l]? = some (.lst ds))
    | _ => none
  | _ => none
def enumI (A : EM) : IM := fun ds h => (A ds h).bind fun d h => match enumF d h with
  | some p => .ok p h
  | none => .bad
theorem numD_get {xs : List D} {i : Nat} {d : D} (e : (numD xs)[i]? = some d) : ∃ x, xs[i]? = some x ∧ d = .tup [.int (i : Nat), x] := by
  unfold numD at e
  rw [List.getElem?_map, List.getElem?_zipIdx] at e
  cases q : xs[i]? with
  | none => rw [q] at e; cases e
  | some x => rw [q] at e; cases e; exact ⟨x, rfl, by simp⟩
theorem numD_len (xs : List D) : (numD xs).length = xs.length := by simp [numD]
section
variable {K : PySem.W.Frag} {p : Addr} {vs : List V} {ds : List D} {m : List Addr} {H : Hp}
theorem pair_rep {h : Hs} {i : Nat} {x : D} {v : V} {T : Addr} (rv : RepV K m H x v) (rh : RepH K m H h) (hT : H T = none) :
    Grow m H m (upd H T (.tup [.int (i : Nat), v])) ∧ RepV K m (upd H T (.tup [.int (i : Nat), v])) (.tup [.int (i : Nat), x]) (.ref T) ∧ RepH K m (upd H T (.tup [.int (i : Nat), v])) h := by
  refine ⟨.put hT, ?_, rh.put hT⟩
  unfold RepV
  exact ⟨T, _, rfl, upd_same, .cons (by unfold RepV; rfl) (.cons (rv.mono (.put hT)) .nil)⟩
theorem isIt_enumT (hp : H p = some (.tup vs)) (rl : RepL K m H ds vs) : IsIt K (Itm K p) (numD ds) (fun _ => True) m H := by
  intro i m' H' h' g' rh' _
  have hp' := g'.tup _ _ hp
  refine ⟨fun d hd => ?_, fun hi => ⟨vs, SqT.of hp', by rw [rl.length]; rw [numD_len] at hi; exact hi⟩⟩
  obtain ⟨x, hx, rfl⟩ := numD_get hd
  obtain ⟨v, hv, rv⟩ := rl.get hx
  refine ⟨⟨vs, v, SqT.of hp', hv⟩, fun y H2 ⟨T, u, ey, hT, eH, q⟩ => ?_⟩
  have := q vs (SqT.of hp')
  rw [hv] at this; cases this
  subst ey eH
  exact pair_rep (rv.mono g') rh' hT
theorem isIt_enumL {l : Nat} (hp : m[l]? = some p) : IsIt K (Ite K p) (numD ds) (fun h => h[l]? = some (.lst ds)) m H := by
  intro i m' H' h' g' rh' hg
  obtain ⟨⟨r, rfl⟩, _, _, _⟩ := g'
  obtain ⟨hlt, _⟩ := List.getElem?_eq_some_iff.mp hp
  have hp' : (m ++ r)[l]? = some p := by rw [List.getElem?_append_left hlt]; exact hp
  obtain ⟨vs, hv, rl⟩ := rh'.lst hp' hg
  refine ⟨fun d hd => ?_, fun hi => ⟨vs, SqL.of hv, by rw [rl.length]; rw [numD_len] at hi; exact hi⟩⟩
  obtain ⟨x, hx, rfl⟩ := numD_get hd
  obtain ⟨v, hw, rv⟩ := rl.get hx
  refine ⟨⟨vs, v, SqL.of hv, hw⟩, fun y H2 ⟨T, u, ey, hT, eH, q⟩ => ?_⟩
  have := q vs (SqL.of hv)
  rw [hw] at this; cases this
  subst ey eH
  exact pair_rep rv rh' hT
end
/-- enumerate of a list or a tuple -/
theorem pi_enumA {X : Cx} {e : Expr} {ta : TA} {p pos tpos : Pos} {elts : List Expr} {kk : Nat} (hg : Gl X "enumerate") (hm : X.mg "enumerate" = none) (ha : PA X [e] ta) (hs : starEach [e] X.env = [(false, eval e X.env)] := by rfl) :
    PI X (.Tuple elts kk tpos) (.Call (.Name "enumerate" p) [e] [] pos) (fun σ H R => ta σ H fun vs H1 => ∃ a, vs = [.ref a] ∧ ((∃ xs, SqL X.K H1 a xs ∧ R (Ite X.K a) H1) ∨ ∃ xs, SqT X.K H1 a xs ∧ R (Itm X.K a) H1)) := by
  refine ⟨fun pns s σ H R I h => ?_⟩
  refine Call_ (ld_blt I hg hm boot_enumerate (PyProof.Rows.callWith_type1 (thn (ha.run pos pns s σ H _ I h) fun us s1 ⟨vs, H1, I1, r1, q1⟩ => ?_) hs rfl))
  obtain ⟨a, rfl, q1⟩ := q1
  obtain ⟨u, rfl, r⟩ := vals1 r1
  cases r
  have cells : ∀ {b : Addr}, b ∈ [s1.heap.objs.size + 1, s1.heap.objs.size] → s1.heap.objs.size ≤ b := fun hb => by
    rcases List.mem_cons.mp hb with rfl | hb
    · exact Nat.le_add_right _ _
    · cases List.mem_singleton.mp hb; exact Nat.le_refl _
  rcases q1 with ⟨xs, hq, q⟩ | ⟨xs, hq, q⟩
  · obtain ⟨jts, rv, p', hz⟩ := I1.list hq
    refine call_enumerate_list p'.isList fun h' he hit hsz hk => wpAny_pyIter_enum he ?_
    exact ⟨s1.heap.objs.size + 1, [s1.heap.objs.size + 1, s1.heap.objs.size], _, _, H1, rfl, I1.kept (t' := s1.toks) hk, turn_enum a (s1.heap.objs.size + 1) s1.heap.objs.size, ⟨⟨.none, he⟩, hit, Nat.succ_ne_self _⟩, fun b hb => I1.fpOk (cells hb) (I1.hok.fresh (cells hb)), q⟩
  · obtain ⟨jts, rv, p', hz⟩ := I1.tuple hq
    have p2 : s1.heap.IsTuple a jts.toArray := p'
    have hlt : a < s1.heap.objs.size := by obtain ⟨o, ho, _⟩ := p2; exact Heap.lt_size ho
    refine call_enumT p2 fun h' he hit hsz hk => wpAny_pyIter_enum he ?_
    exact ⟨s1.heap.objs.size + 1, [s1.heap.objs.size + 1, s1.heap.objs.size], _, _, H1, rfl, I1.kept (t' := s1.toks) hk, turn_enumT a (s1.heap.objs.size + 1) s1.heap.objs.size, ⟨⟨.none, he⟩, hit, Nat.succ_ne_self _, Nat.ne_of_lt hlt⟩, fun b hb => I1.fpOk (cells hb) (I1.hok.fresh (cells hb)), q⟩
theorem im_enum {X : Cx} {g : Cfg} {e : Expr} {A : EM} {p pos tpos : Pos} {elts : List Expr} {kk : Nat} (hK : X.K = g.K) (hg : Gl X "enumerate") (hm : X.mg "enumerate" = none) (he : PE X e (tM g A)) (hs : starEach [e] X.env = [(false, eval e X.env)] := by rfl) :
    PI X (.Tuple elts kk tpos) (.Call (.Name "enumerate" p) [e] [] pos) (tI g (enumI A)) := by
  refine PI.weak (pi_enumA hg hm (pa_cons he pa_nil (by rw [hs] <;> rfl)) hs) fun σ H R ⟨m, ds, h, hs, rh, o⟩ => ⟨m, ds, h, hs, rh, OutE.toI o fun d h1 v m1 H1 g1 r1 rh1 o1 => ?_⟩
  rw [hK]
  cases d with
  | tup xs =>
    unfold RepV at r1
    obtain ⟨p, vs, rfl, hp, rl⟩ := r1
    exact ⟨p, rfl, .inr ⟨vs, SqT.of hp, o1 _ m1 H1 (.refl _ _) rh1 (isIt_enumT hp rl)⟩⟩
  | loc l =>
    unfold RepV at r1
    obtain ⟨p, hp, rfl⟩ := r1
    cases q : h1[l]? with
    | none => simp only [enumF, q] at o1; exact o1.elim
    | some ao =>
      cases ao with
      | lst xs =>
        obtain ⟨vs, hv, rl⟩ := rh1.lst hp q
        simp only [enumF, q] at o1
        exact ⟨p, rfl, .inl ⟨vs, SqL.of hv, o1 _ m1 H1 (.refl _ _) rh1 (isIt_enumL hp)⟩⟩
      | _ => simp only [enumF, q] at o1; exact o1.elim
  | _ => exact (show False from o1).elim
@[simp] theorem wp_enumI {ds : Sl} {h : Hs} {X : QX} {P : List D × (Hs → Prop) → Hs → Prop} (A : EM) : (enumI A ds h).wp P X = (A ds h).wp (fun d h => match enumF d h with | some p => P p h | none => False) X := by
  simp only [enumI, wp_bind]
  congr 1; funext d h
  cases enumF d h <;> rfl
end DV
namespace DV
open PySem PySem.Spec PyProof.Rows L2
section
variable {X : QX} {ds : Sl} {h h0 : Hs} {Q : D → Hs → Prop} {own : List Nat} {I : IM} {T : GM} {C : TM} {A : EM} {gd : Hs → Prop}
@[simp] theorem wp_lc : (lcM own I T C A ds h).wp Q X = (I ds h).wp (fun p h => (lcLoop p.2 h.length T C A (wipeD ds own) p.1 (h ++ [.lst []])).wp Q X) X := by simp only [lcM, wp_bind]
@[simp] theorem wipe_nil : wipeD ds [] = ds := rfl
@[simp] theorem wipe_cons {v : Nat} {vs : List Nat} : wipeD ds (v :: vs) = (wipeD ds vs).set v none := rfl
/-- one turn: what it gives (none: left out), the heap as it is -/
def LcTurn (T : GM) (C : TM) (A : EM) (ds : Sl) (d : D) (o : Option D) (h : Hs) : Prop :=
  (T d ds h).wp (fun ds1 h1 => h1 = h ∧ (C ds1 h).wp (fun b h2 => h2 = h ∧ match o with
    | some y => b = true ∧ (A ds1 h).wp (fun y' h3 => y' = y ∧ h3 = h) xF
    | none => b = false) xF) (fun _ _ => False) xF
theorem lc_loop (its : List D) (fs : List (Option D)) (hl : its.length = fs.length) (acc : List D) (hz : acc.length + its.length ≤ 16777216)
    (g : ∀ acc : List D, gd (h0 ++ [.lst acc])) (turn : ∀ (i : Nat) (d : D) (o : Option D) (acc : List D), its[i]? = some d → fs[i]? = some o → LcTurn T C A ds d o (h0 ++ [.lst acc])) :
    lcLoop gd h0.length T C A ds its (h0 ++ [.lst acc]) = .ok (.loc h0.length) (h0 ++ [.lst (acc ++ fs.filterMap id)]) := by
  induction its generalizing fs acc with
  | nil =>
    have : fs = [] := List.eq_nil_of_length_eq_zero hl.symm
    subst this
    unfold lcLoop
    rw [if_pos (g acc)]
    simp
  | cons d its ih =>
    cases fs with
    | nil => cases hl
    | cons o fs =>
      simp only [List.length_cons] at hl hz
      have t := turn 0 d o acc rfl rfl
      have rest := fun acc' (hz' : acc'.length + its.length ≤ 16777216) => ih fs (by omega) acc' hz' fun i d' o' a e1 e2 => turn (i + 1) d' o' a e1 e2
      unfold lcLoop
      rw [if_pos (g acc)]
      unfold LcTurn at t
      cases q : T d ds (h0 ++ [.lst acc]) with
      | nx ds1 h1 =>
        rw [q] at t
        obtain ⟨rfl, t⟩ := t
        simp only
        cases q2 : C ds1 (h0 ++ [.lst acc]) with
        | ok b h2 =>
          rw [q2] at t
          obtain ⟨rfl, t⟩ := t
          rw [R.noX_ok, R.bind_ok]
          cases o with
          | none =>
            have t : b = false := t
            subst t
            rw [if_neg Bool.false_ne_true, rest acc (by omega)]
            rfl
          | some y =>
            obtain ⟨rfl, t⟩ := t
            rw [if_pos rfl]
            obtain ⟨y', h3, e, rfl, rfl⟩ := R.wp_ex t
            rw [e, R.noX_ok, R.bind_ok]
            have e1 : (h0 ++ [AO.lst acc])[h0.length]? = some (.lst acc) := by simp
            have e2 : (h0 ++ [AO.lst acc]).set h0.length (.lst (acc ++ [y'])) = h0 ++ [.lst (acc ++ [y'])] := by simp
            rw [e1]
            simp only
            rw [if_pos (by show acc.length < 16777216; omega), e2, rest (acc ++ [y']) (by rw [List.length_append]; simp; omega)]
            simp
        | exc c h2 => rw [q2] at t; exact t.elim
        | bad => rw [q2] at t; exact t.elim
      | _ => rw [q] at t; exact (show False from t).elim
theorem lc_map (its ys : List D) (hl : its.length = ys.length) (hz : its.length ≤ 16777216)
    (g : ∀ acc : List D, gd (h0 ++ [.lst acc])) (turn : ∀ (i : Nat) (d y : D) (acc : List D), its[i]? = some d → ys[i]? = some y → LcTurn T C A ds d (some y) (h0 ++ [.lst acc])) :
    lcLoop gd h0.length T C A ds its (h0 ++ [.lst []]) = .ok (.loc h0.length) (h0 ++ [.lst ys]) := by
  have := lc_loop (h0 := h0) (gd := gd) (T := T) (C := C) (A := A) (ds := ds) its (ys.map some) (by simpa using hl) [] (by simpa using hz) g fun i d o acc e1 e2 => by
    rw [List.getElem?_map] at e2
    cases q : ys[i]? with
    | none => rw [q] at e2; cases e2
    | some y => rw [q] at e2; cases e2; exact turn i d y acc e1 q
  rw [this, List.nil_append, List.filterMap_map]
  simp
/-- the test is none: every item gives its image -/
theorem lc_map1 {i : Nat} (its ys : List D) (hl : its.length = ys.length) (hz : its.length ≤ 16777216)
    (g : ∀ acc : List D, gd (h0 ++ [.lst acc])) (turn : ∀ (k : Nat) (d y : D) (acc : List D), its[k]? = some d → ys[k]? = some y → A (ds.set i (some d)) (h0 ++ [.lst acc]) = .ok y (h0 ++ [.lst acc])) :
    lcLoop gd h0.length (nameG i) yesM A ds its (h0 ++ [.lst []]) = .ok (.loc h0.length) (h0 ++ [.lst ys]) :=
  lc_map its ys hl hz g fun k d y acc e1 e2 => ⟨rfl, rfl, rfl, R.wp_eq.mpr (turn k d y acc e1 e2)⟩
end
@[simp] theorem wp_maxd {ds : Sl} {h : Hs} {Q : D → Hs → Prop} {X : QX} (A B : EM) : (maxdF A B ds h).wp Q X = (A ds h).wp (fun d h => (B ds h).wp (fun e h => (maxdR d e h).wp Q X) X) X := by simp only [maxdF, wp_bind]
theorem wp_new {φ : Fm} {xs : List D} {h : Hs} {Q : D → Hs → Prop} {X : QX} (w : (φ xs h).wp (fun d h' => ∃ l o, d = .loc l ∧ h'[l]? = some o ∧ h.length ≤ l ∧ h'.take h.length = h ∧ nolocO o = true ∧ Q (.loc h.length) (h ++ [o])) (fun c h' => h'.take h.length = h ∧ X c h)) : (kNew.f φ xs h).wp Q X := by
  show (nNew φ xs h).wp Q X
  unfold nNew
  cases e : φ xs h with
  | ok d h' =>
    rw [e] at w
    obtain ⟨l, o, rfl, e1, c1, c2, c3, q⟩ := w
    simp only [e1]
    rw [if_pos ⟨c1, c2, c3⟩]
    exact q
  | exc c h' =>
    rw [e] at w
    simp only
    rw [if_pos w.1]
    exact w.2
  | bad => rw [e] at w; exact w
theorem append_lst {h : Hs} {l : Nat} {xs : List D} {v : D} (e : h[l]? = some (.lst xs)) (hz : xs.length < 16777216) : appendF (.loc l) [v] h = some (.non, h.set l (.lst (xs ++ [v]))) := by
  simp [appendF, e, hz]
theorem ck_lst {h : Hs} {l : Nat} {xs : List D} (e : h[l]? = some (.lst xs)) : ckList (.loc l) h = true := by simp [ckList, e]
section
variable {N : Sl → Hs → Prop} {Q : D → Hs → Prop} {X : QX} {ds : Sl} {h h1 : Hs} {d : D}
theorem st_set {i : Nat} {A : EM} {B : SM} (d : D) (h1 : Hs) (e : (A ds h).wp (fun a' h' => a' = d ∧ h' = h1) xF) (w : (B (ds.set i (some d)) h1).wp N Q X) : (seqM (setM i A) B ds h).wp N Q X := by
  rw [ws_seq, ws_set, R.wp_eq.mp e]
  exact w
theorem RS.wp_eq {r : RS} {ds : Sl} {h : Hs} (w : r.wp (fun a b => a = ds ∧ b = h) (fun _ _ => False) xF) : r = .nx ds h := by
  cases r with
  | nx a b => obtain ⟨rfl, rfl⟩ := w; rfl
  | rt _ _ => exact w.elim
  | exc _ _ _ => exact w.elim
  | bk _ _ => exact w.elim
  | ct _ _ => exact w.elim
  | bad => exact w.elim
theorem st_seq {A B : SM} (ds1 : Sl) (h1 : Hs) (e : (A ds h).wp (fun a b => a = ds1 ∧ b = h1) (fun _ _ => False) xF) (w : (B ds1 h1).wp N Q X) : (seqM A B ds h).wp N Q X := by
  rw [ws_seq, RS.wp_eq e]
  exact w
end
theorem st_guard {N : Sl → Hs → Prop} {Q : D → Hs → Prop} {X : QX} {ds : Sl} {h : Hs} {T : TM} {A C : SM} (h1 : Hs) (e : (T ds h).wp (fun a' h' => a' = false ∧ h' = h1) xF) (w : (C ds h1).wp N Q X) : (seqM (ifM T A passM) C ds h).wp N Q X := by
  rw [ws_seq, ws_if, R.wp_eq.mp e]
  exact w
end DV
namespace DV
open PySem PySem.Spec PyProof.Rows L2
def dctO : AO → Option (List (Key × D))
  | .dct kvs => some kvs
  | .fdc kvs => some kvs
  | _ => none
def dK : Key → D
  | .inl i => .int i
  | .inr s => .str s
def newDM : EM := fun _ h => .ok (.loc h.length) (h ++ [.dct []])
def newTM : EM := fun _ h => .ok (.loc h.length) (h ++ [.dcT []])
/-- a list, a dict written -/
def setAF : D → D → D → Hs → Option Hs
  | .loc l, i, v, h => match h[l]? with
    | some (.lst ds) => (match i with
      | .int i => (ixN ds.length i).map fun j => h.set l (.lst (ds.set j v))
      | _ => none)
    | some (.dct kvs) => if kvs.length < LIM then (keyD i).map fun k => h.set l (.dct (putD kvs k v)) else none
    | some (.dcT kvs) => (match i with
      | .tup ks => if kvs.length < LIM then (keysD ks).map fun k => h.set l (.dcT (putD kvs k v)) else none
      | _ => none)
    | _ => none
  | _, _, _, _ => none
def getDF : D → List D → Hs → Res
  | .loc l, [i, x], h => match h[l]? with
    | some (.dct kvs) => (keyD i).map fun k => ((valD kvs k).getD x, h)
    | some (.fdc kvs) => (keyD i).map fun k => ((valD kvs k).getD x, h)
    | _ => none
  | _, _, _ => none
def setdF : D → List D → Hs → Res
  | .loc l, [i, x], h => match h[l]? with
    | some (.dct kvs) => if kvs.length < LIM then (keyD i).map fun k => (match valD kvs k with
      | some v => (v, h)
      | none => (x, h.set l (.dct (putD kvs k x)))) else none
    | _ => none
  | _, _, _ => none
section
variable {K : PySem.W.Frag} {m : List Addr} {H : Hp} {h : Hs} {l : Nat} {a : Addr}
theorem RepH.rdD {o : AO} {kvs : List (Key × D)} (rh : RepH K m H h) (ha : m[l]? = some a) (e : h[l]? = some o) (q : dctO o = some kvs) : ∃ ks : List (Key × V), Rd H a (.dK ks) ∧ kvs.map (·.1) = ks.map (·.1) ∧ RepL K m H (kvs.map (·.2)) (ks.map (·.2)) := by
  cases o with
  | dct x =>
    cases q
    obtain ⟨ks, hk, kk, rk⟩ := rh.at_ _ a _ ha e
    exact ⟨ks, .inl hk, kk, rk⟩
  | fdc x =>
    cases q
    obtain ⟨ob, ks, hk, kk, rk⟩ := rh.at_ _ a _ ha e
    exact ⟨ks, .inr ⟨ob, hk⟩, kk, rk⟩
  | lst _ => cases q
  | dcT _ => cases q
  | ins _ _ => cases q
theorem put_dct {kvs kvs0 : List (Key × D)} {ks ks0 : List (Key × V)} (rh : RepH K m H h) (ha : m[l]? = some a) (hv : H a = some (.dK ks0)) (kk : kvs.map (·.1) = ks.map (·.1)) (rk : RepL K m H (kvs.map (·.2)) (ks.map (·.2))) :
    Grow m H m (upd H a (.dK ks)) ∧ RepH K m (upd H a (.dK ks)) (h.set l (.dct kvs)) := by
  have w : Grow m H m (upd H a (.dK ks)) := .write hv (fun _ z => nomatch z) (fun _ _ z => nomatch z) (fun _ z => nomatch z)
  exact ⟨w, rh.write ha hv (fun _ z => nomatch z) (fun _ _ z => nomatch z) (fun _ z => nomatch z) ⟨ks, upd_same, kk, rk.mono w⟩⟩
end
section
variable {X : Cx} {g : Cfg} {pos : Pos}
theorem em_newD : PE X (.Dict [] [] pos) (tM g newDM) := PE.weak pe_dnewK fun σ H Q ⟨m, ds, h, hs, rh, o⟩ p hp =>
  o (.ref p) (m ++ [p]) _ (.app hp) (by unfold RepV; exact ⟨p, by rw [← rh.len]; simp, rfl⟩) (rh.new hp ⟨[], upd_same, rfl, by show RepL g.K _ _ [] []; exact .nil⟩)
theorem s_any (hu : X.A.units + 1 < cLine) : PSet X (rSt X.K setAF) := by
  intro pns s σ H o i v ov iv u Q I ro ri rv h
  obtain ⟨m, hs, od, id, vd, r1, r2, r3, rh, q⟩ := h
  unfold setAF at q
  split at q
  · rename_i l
    unfold RepV at r1
    obtain ⟨a, ha, rfl⟩ := r1
    split at q
    · rename_i xs e
      split at q
      · refine s_list pns s σ H _ _ _ ov iv u Q I ro ri rv ⟨m, hs, .loc l, .int _, vd, by unfold RepV; exact ⟨a, ha, rfl⟩, r2, r3, rh, ?_⟩
        unfold setLF
        simp only [e]
        exact q
      · exact q.elim
    · rename_i kvs e
      obtain ⟨ks, hk, kk, rk⟩ := rh.at_ _ a _ ha e
      split at q
      · rename_i hz
        cases c : keyD id with
        | none => rw [c] at q; exact q.elim
        | some k =>
          rw [c] at q
          have := kV_keyD r2 c
          subst this
          obtain ⟨kk2, rk2⟩ := put_rep k r3 kk rk
          obtain ⟨w, rh2⟩ := put_dct (kvs0 := kvs) rh ha hk kk2 rk2
          cases ro
          have hl : ks.length < sizeLine := by rw [LIM_eq]; have := congrArg List.length kk; simp at this; omega
          exact d_setItem hu I (DPut.k hk hl) ri rv fun s' I' => ⟨_, I', q m _ w rh2⟩
      · exact q.elim
    · rename_i kvs e
      obtain ⟨ks, hk, kk, rk⟩ := rh.at_ _ a _ ha e
      split at q
      · rename_i kd
        split at q
        · rename_i hz
          cases c : keysD kd with
          | none => rw [c] at q; exact q.elim
          | some k =>
            rw [c] at q
            unfold RepV at r2
            obtain ⟨b, xs, rfl, hb, rl⟩ := r2
            have := kV_keysD rl c
            subst this
            obtain ⟨kk2, rk2⟩ := put_rep k r3 kk rk
            have w : Grow m H m (upd H a (.dT (putK ks k v))) := .write hk (fun _ z => nomatch z) (fun _ _ z => nomatch z) (fun _ z => nomatch z)
            have rh2 : RepH X.K m (upd H a (.dT (putK ks k v))) (hs.set l (.dcT (putD kvs k vd))) := rh.write ha hk (fun _ z => nomatch z) (fun _ _ z => nomatch z) (fun _ z => nomatch z) ⟨_, upd_same, kk2, rk2.mono w⟩
            cases ro
            have hl : ks.length < sizeLine := by rw [LIM_eq]; have := congrArg List.length kk; simp at this; omega
            exact d_setItem hu I (DPut.t hk hb hl) ri rv fun s' I' => ⟨_, I', q m _ w rh2⟩
        · exact q.elim
      · exact q.elim
    · exact q.elim
  · exact q.elim
theorem get_core (hu : X.A.units + 1 < cLine) {pns : List (Addr × Obj)} {s : Shared} {σ : St} {H : Hp} {v : Value} {us : List Value} {Q : VK} {m : List Addr} {hs : Hs} {l : Nat} {a : Addr} {o : AO} {kvs : List (Key × D)} {i x : D} {y z : V} {k : Key}
    (I : Inv X pns σ H s) (ha : m[l]? = some a) (rx : RelV (.ref a) v) (rv : Vals [y, z] us) (ry : RepV X.K m H i y) (rz : RepV X.K m H x z) (rh : RepH X.K m H hs) (e : hs[l]? = some o) (q : dctO o = some kvs) (c : keyD i = some k)
    (w : OutV X.K m H Q (some ((valD kvs k).getD x, hs))) : wpAny (model X.prog X.w) X.A (call (.builtin "dict.get") (v :: us)) (EP X pns σ Q) X.xe s := by
  obtain ⟨ks, hk, kk, rk⟩ := rh.rdD ha e q
  obtain ⟨u1, u2, rfl, r1, r2⟩ := vals2 rv
  have := kV_keyD ry c
  subst this
  cases rx
  refine d_get2 hu I (.inl ⟨ks, k, hk, rfl, rfl⟩) r1 r2 fun w' s' I' rw' => ⟨_, H, I', rw', ?_⟩
  refine OutV.keep w ?_ rh
  rcases valD_rep k kk rk with ⟨p, p2⟩ | ⟨d, v', p, p2, r⟩
  · rw [p, p2]; exact rz
  · rw [p, p2]; exact r
theorem k_get (hu : X.A.units + 1 < cLine) : MtR X "dict.get" (rMt X.K getDF) := by
  intro pns s σ H x vs v us Q I rx rv h
  obtain ⟨m, hs, d, ds, r1, rl, rh, o⟩ := h
  unfold getDF at o
  split at o
  · rename_i l i y
    unfold RepV at r1
    obtain ⟨a, ha, rfl⟩ := r1
    obtain ⟨v1, v2, rfl, q1, q2⟩ := repL2 rl
    split at o
    · rename_i kvs e
      cases c : keyD i with
      | none => rw [c] at o; exact o.elim
      | some k => rw [c] at o; exact get_core hu I ha rx rv q1 q2 rh e rfl c o
    · rename_i kvs e
      cases c : keyD i with
      | none => rw [c] at o; exact o.elim
      | some k => rw [c] at o; exact get_core hu I ha rx rv q1 q2 rh e rfl c o
    · exact o.elim
  · exact o.elim
theorem k_setd : MtR X "dict.setdefault" (rMt X.K setdF) := by
  intro pns s σ H x vs v us Q I rx rv h
  obtain ⟨m, hs, d, ds, r1, rl, rh, o⟩ := h
  unfold setdF at o
  split at o
  · rename_i l i y
    unfold RepV at r1
    obtain ⟨a, ha, rfl⟩ := r1
    obtain ⟨v1, v2, rfl, q1, q2⟩ := repL2 rl
    split at o
    · rename_i kvs e
      split at o
      · rename_i hz
        cases c : keyD i with
        | none => rw [c] at o; exact o.elim
        | some k =>
          rw [c, Option.map_some] at o
          obtain ⟨ks, hk, kk, rk⟩ := rh.at_ _ a _ ha e
          obtain ⟨u1, u2, rfl, w1, w2⟩ := vals2 rv
          have := kV_keyD q1 c
          subst this
          cases rx
          obtain ⟨z, hd, ws, rel, dd⟩ := dk_of I.hok hk
          have hz2 : ws.length ≤ sizeLine := by rw [← rel.length]; exact z
          refine call_meetsIn PySem.F.slot_dict_setdefault dd.typeIs PySem.F.entry_dict_setdefault (PySem.F.args_dict_setdefault_3 _ _ _) (kt_meets_setdefault (mixKind X.prog X.w) a (kV_is w1) hd u2) ⟨ws, dd, hz2, fun v' hv' => ?_, fun hn h' dd' hs' => ?_⟩
          · have rr := rel.val k
            rw [hv'] at rr
            rcases valD_rep k kk rk with ⟨p, p2⟩ | ⟨d', v'', p, p2, r⟩
            · rw [p2] at rr; exact rr.elim
            · rw [p2] at rr
              simp only [p] at o
              exact ⟨v'', H, I.tok _, rr, OutV.keep o r rh⟩
          · have rr := rel.val k
            rw [hn] at rr
            rcases valD_rep k kk rk with ⟨p, p2⟩ | ⟨d', v'', p, p2, r⟩
            · simp only [p] at o
              obtain ⟨kk2, rk2⟩ := put_rep k q2 kk rk
              obtain ⟨w, rh2⟩ := put_dct (kvs0 := kvs) rh ha hk kk2 rk2
              have he : ∃ q, h'.get? a = some q := let ⟨q, _, _, hq, _⟩ := dd'; ⟨q, hq⟩
              have hl : (putK ks k v2).length ≤ sizeLine := by
                have l1 := length_putK ks k v2
                rw [LIM_eq]
                have l2 := congrArg List.length kk
                simp at l2
                omega
              exact ⟨v2, _, d_write (t' := s.toks + 1) I (by rw [hk]; exact True.intro) hs' he (dk_new hl hd (rel.put k w2) dd'), w2, o v2 m _ w (q2.mono w) rh2⟩
            · rw [p2] at rr; exact rr.elim
      · exact o.elim
    · exact o.elim
  · exact o.elim
end
end DV
namespace DV
open PySem PySem.Spec PyProof.Rows L2
end DV
namespace DV
open PySem PySem.Spec PyProof.Rows L2
theorem tuple_mul1 (l : Addr) (items : Array Value) (n : Nat) (dd : Option Addr) (sl : Array (Option Value)) (x : Int) (u : Tok) (c0 : (decide (x < -(2 ^ 63)) || decide (x ≥ 2 ^ 63)) = false) (c1 : (items.isEmpty || x == 1) = true) :
    Meets (Builtin.«tuple.__mul__» ⟨[.ref l, .int x u], []⟩) (fun _ R s => s.heap.get? l = some { cls := .type "tuple", dict := dd, data := .seq items n, slots := sl } ∧ R (.ok (.ret (Value.ref l))) s) :=
  .of_wp fun prog w A R s h => by
    obtain ⟨hp, g, d, tk, os⟩ := s
    obtain ⟨hl, h⟩ := h
    have f1 := AutoSeq1.idx_int
    wp_walk using wpAny_loadPart' hl
    repeat (first
      | (refine wpAny_ite_false (decide_eq_false (by rw [c0]; exact Bool.false_ne_true)) ?_; wp_walk using wpAny_loadPart' hl)
      | (refine wpAny_ite_true (decide_eq_true c1) ?_; wp_walk using wpAny_loadPart' hl))
    exact ⟨_, rfl, h⟩
theorem tuple_mul0 (l : Addr) (items : Array Value) (n : Nat) (dd : Option Addr) (sl : Array (Option Value)) (x : Int) (u : Tok) (c0 : (decide (x < -(2 ^ 63)) || decide (x ≥ 2 ^ 63)) = false) (c1 : (items.isEmpty || x == 1) = false) (c2 : (decide (x ≤ 0) || items.isEmpty) = true) :
    Meets (Builtin.«tuple.__mul__» ⟨[.ref l, .int x u], []⟩) (fun _ R s => s.heap.get? l = some { cls := .type "tuple", dict := dd, data := .seq items n, slots := sl } ∧
      R (.ok (.ret (Value.ref s.heap.objs.size))) { s with heap := s.heap.push { cls := Value.type "tuple", data := Data.seq #[] }, toks := s.toks }) :=
  .of_wp fun prog w A R s h => by
    obtain ⟨hp, g, d, tk, os⟩ := s
    obtain ⟨hl, h⟩ := h
    have f1 := AutoSeq1.idx_int
    have hsz : (#[] : Array Value).size ≤ sizeLine := by rw [sizeLine_eq]; decide
    wp_walk using wpAny_loadPart' hl
    repeat (first
      | (refine wpAny_ite_false (decide_eq_false (by rw [c0]; exact Bool.false_ne_true)) ?_; wp_walk using wpAny_loadPart' hl)
      | (refine wpAny_ite_false (decide_eq_false (by rw [c1]; exact Bool.false_ne_true)) ?_; wp_walk using wpAny_loadPart' hl)
      | (refine wpAny_ite_true (decide_eq_true c2) ?_; wp_walk using wpAny_loadPart' hl))
    exact ⟨_, rfl, h⟩
def rRepX (K : PySem.W.Frag) : R2 := fun x y H Q => ∃ l k xs, x = .ref l ∧ y = .int k ∧ SqT K H l xs ∧ -1000 ≤ k ∧ k ≤ 1000 ∧ xs.length ≤ 1000 ∧ ((xs = [] ∨ k = 1) → Q (.ref l) H) ∧ ∀ p, H p = none → Q (.ref p) (upd H p (.tup (List.replicate k.toNat xs).flatten))
section
variable {X : Cx}
theorem op_repX : OpR X (binaryOp .Mult) (rRepX X.K) := by
  intro pns s σ H x y v u Q I rx ry h
  obtain ⟨l, k, xs, rfl, rfl, hT, h1, h2, hz, q1, q⟩ := h
  by_cases big : xs ≠ [] ∧ 2 ≤ k
  · exact op_repT pns s σ H _ _ v u Q I rx ry ⟨l, k, xs, rfl, rfl, hT, big.1, big.2, h2, hz, q⟩
  cases rx
  obtain ⟨t, rfl⟩ := ry
  obtain ⟨jts, r, ⟨⟨cls, dd, data, sl⟩, ho, hc, n, hd⟩, hs⟩ := I.tuple hT
  simp only at hc hd
  subst hc hd
  have hle : jts.length = xs.length := r.length.symm
  have c0 : (decide (k < -(2 ^ 63)) || decide (k ≥ 2 ^ 63)) = false := by
    rw [decide_eq_false (by omega), decide_eq_false (by omega)] <;> rfl
  refine wpAny_binaryOp_repeat_ref (T := "tuple") (U := "int") (by decide) ⟨_, ho, rfl⟩ (fun s' => typeIs_int s' k t) noFill_tuple_mul F.fills_int_mul F.slot_int_rmul repeat_tuple F.slot_int_index.lookup
    (call_meets F.slot_int_rmul (typeIs_int s k t) F.entry_int_rmul (F.args_int_rmul_2 _ _) (int_rmul_tuple k t l jts.toArray n dd sl) ⟨ho, rfl, ⟨_, ho, rfl⟩, ?_⟩)
  by_cases z : xs = [] ∨ k = 1
  · have c1 : (jts.toArray.isEmpty || k == 1) = true := by
      rcases z with z | z
      · have : jts = [] := List.eq_nil_of_length_eq_zero (by rw [hle, z]; rfl)
        subst this; rfl
      · subst z; simp
    exact call_meets F.slot_tuple_mul ⟨_, ho, rfl⟩ F.entry_tuple_mul (F.args_tuple_mul_2 _ _) (tuple_mul1 l jts.toArray n dd sl k t c0 c1) ⟨ho, ⟨.ref l, H, I, rfl, q1 z⟩⟩
  · have hn : jts ≠ [] := fun e => z (.inl (List.eq_nil_of_length_eq_zero (by rw [← hle, e]; rfl)))
    have hx : xs ≠ [] := fun e => z (.inl e)
    have hi : jts.toArray.isEmpty = false := by
      cases jts with
      | nil => exact absurd rfl hn
      | cons a b => rfl
    have hk : k ≤ 0 := by
      have : ¬ 2 ≤ k := fun c => big ⟨hx, c⟩
      have : k ≠ 1 := fun c => z (.inr c)
      omega
    have c1 : (jts.toArray.isEmpty || k == 1) = false := by
      rw [hi, Bool.false_or]; exact beq_eq_false_iff_ne.mpr (by omega)
    have c2 : (decide (k ≤ 0) || jts.toArray.isEmpty) = true := by rw [decide_eq_true hk]; rfl
    have e0 : (List.replicate k.toNat xs).flatten = [] := by
      have : k.toNat = 0 := by omega
      rw [this]; rfl
    have q2 := q s.heap.objs.size (I.hok.fresh (Nat.le_refl _))
    rw [e0] at q2
    refine call_meets F.slot_tuple_mul ⟨_, ho, rfl⟩ F.entry_tuple_mul (F.args_tuple_mul_2 _ _) (tuple_mul0 l jts.toArray n dd sl k t c0 c1 c2) ⟨ho, ?_⟩
    refine ⟨.ref s.heap.objs.size, _, I.laid (t' := s.toks) (o := .tup []) (fun b ob q => Heap.get?_push_of_some _ q) (Nat.le_refl _) ?_, rfl, q2⟩
    exact ⟨by rw [sizeLine_eq]; decide, [], .nil, IsTup.new _ _⟩
end
theorem RepL.rep {K : PySem.W.Frag} {m : List Addr} {H : Hp} {ds : List D} {vs : List V} (r : RepL K m H ds vs) : ∀ k : Nat, RepL K m H (List.replicate k ds).flatten (List.replicate k vs).flatten
  | 0 => .nil
  | k + 1 => by
    rw [List.replicate_succ, List.replicate_succ, List.flatten_cons, List.flatten_cons]
    exact r.append (RepL.rep r k)
noncomputable def mulXF : VF2
  | .tup xs, .int k, h => if -1000 ≤ k ∧ k ≤ 1000 ∧ xs.length ≤ 1000 then some (.tup (List.replicate k.toNat xs).flatten, h) else none
  | d, e, h => mulF d e h
theorem o_mulX {X : Cx} : OpR X (binaryOp .Mult) (rV X.K mulXF) := by
  intro pns s σ H x y v u Q I rx ry h
  obtain ⟨m, hs, dx, dy, r1, r2, rh, o⟩ := h
  unfold mulXF at o
  split at o
  · rename_i xs k
    split at o
    · rename_i c
      have r1' := r1
      unfold RepV at r1 r2
      obtain ⟨a, vs, rfl, ha, rl⟩ := r1
      subst r2
      have ne : vs = [] ↔ xs = [] := rl.nil_iff
      refine op_repX pns s σ H _ _ v u Q I rx ry ⟨a, k, vs, rfl, rfl, SqT.of ha, c.1, c.2.1, by rw [rl.length]; exact c.2.2, fun z => ?_, fun p hp => ?_⟩
      · have e : (List.replicate k.toNat xs).flatten = xs := by
          rcases z with z | z
          · rw [ne.mp z]; simp
          · subst z; simp
        rw [e] at o
        exact OutV.keep o r1' rh
      · exact o (.ref p) m _ (.put hp) (by unfold RepV; exact ⟨p, _, rfl, upd_same, (rl.rep _).mono (.put hp)⟩) (rh.put hp)
    · exact o.elim
  · exact o_mul pns s σ H x y v u Q I rx ry ⟨m, hs, dx, dy, r1, r2, rh, o⟩
/-- which items -/
def stepIx (n : Nat) (lo st : Option Int) : List Nat := sliceRange (sliceBounds lo none st n).1 (sliceBounds lo none st n).2.1 (sliceBounds lo none st n).2.2
def pickL {α : Type} (xs : List α) (lo st : Option Int) : List α := (stepIx xs.length lo st).filterMap fun i => xs[i]?
/-- with a step k, 2 to 9 -/
def stepF (d : D) (lo : Option Int) (k : Int) (h : Hs) : Res := match d with
  | .loc l => match h[l]? with
    | some (.lst ds) => if (pickL ds lo (some k)).length ≤ LIM then some (.loc h.length, h ++ [.lst (pickL ds lo (some k))]) else none
    | _ => none
  | .ro ns => if (pickL ns lo (some k)).length ≤ LIM then some (.loc h.length, h ++ [.lst ((pickL ns lo (some k)).map D.int)]) else none
  | _ => none
def stepM (A : EM) (lo : OM) (k : Int) : EM := fun ds h => (A ds h).bind fun d h => (lo ds h).bind fun l h => .ofO (stepF d l k h)
end DV
namespace DV
open PySem PySem.Spec PyProof.Rows L2
def strsOf : List D → Option (List Str)
  | [] => some []
  | .str s :: r => (strsOf r).map fun ss => s :: ss
  | _ => none
@[simp] theorem strsOf_map (ns : List Str) : strsOf (ns.map D.str) = some ns := by
  induction ns with
  | nil => rfl
  | cons n ns ih => rw [List.map_cons]; unfold strsOf; rw [ih]; rfl
def disp1M (A B : EM) : EM := fun ds h => (A ds (h ++ [.dct []])).bind fun k h1 => (B ds h1).bind fun v h2 => match keyD k, h2[h.length]? with
  | some k, some (.dct []) => .ok (.loc h.length) (h2.set h.length (.dct [(k, v)]))
  | _, _ => .bad
section
variable {N : Sl → Hs → Prop} {Q : D → Hs → Prop} {X : QX} {ds : Sl} {h : Hs}
@[simp] theorem wp_newD : (newDM ds h).wp Q X = Q (.loc h.length) (h ++ [.dct []]) := rfl
@[simp] theorem wp_newT : (newTM ds h).wp Q X = Q (.loc h.length) (h ++ [.dcT []]) := rfl
@[simp] theorem wp_step (A : EM) (lo : OM) (k : Int) : (stepM A lo k ds h).wp Q X = (A ds h).wp (fun d h => (lo ds h).wp (fun l h => (R.ofO (stepF d l k h)).wp Q X) X) X := by simp only [stepM, wp_bind]
@[simp] theorem wp_disp1 (A B : EM) : (disp1M A B ds h).wp Q X = (A ds (h ++ [.dct []])).wp (fun k h1 => (B ds h1).wp (fun v h2 => match keyD k, h2[h.length]? with
  | some k, some (.dct []) => Q (.loc h.length) (h2.set h.length (.dct [(k, v)]))
  | _, _ => False) X) X := by
  simp only [disp1M, wp_bind]
  congr 1; funext k h1
  congr 1; funext v h2
  split <;> rfl
end
end DV
namespace DV
open PySem PySem.Spec PyProof.Rows L2
def kxB (K : PySem.W.Frag) (C : Addr) : Bool :=
  (PySem.W.clsIn K C).isSome && (decide (PySem.W.findIn K (.ref C) "__getattribute__" = some (some (.builtin "BaseException.__getattribute__"))) && ((PySem.W.findIn K (.ref C) "__getattr__").isSome &&
  (decide (PySem.W.subIn K (.ref C) (.type "BaseException") = some true) && (decide (PySem.W.findIn K (.ref C) "__class__" = some (some (.builtin "object.__class__"))) &&
  (decide (PySem.W.specialIn K (.builtin "object.__class__") "__get__" = some (some (.builtin "getset_descriptor.__get__"))) && (decide (PySem.W.takesIn K (.builtin "object.__class__") = some true) && decide (PySem.W.mroIn K C (.type "object") = some true)))))))
inductive Fx where
  | he (f : He.Fa)
  | kx (x : Str)
  | ix (x y : Str) (b : Bool)
  | ib (x : Str) (T : String) (b : Bool)
def Fx.ok (K : PySem.W.Frag) : Fx → Bool
  | .he f => f.ok K
  | .kx x => kxB K (He.ga K x)
  | .ix x y b => decide (PySem.W.kitOne K (.ref (He.ga K x)) (.ref (He.ga K y)) = some b)
  | .ib x T b => decide (PySem.W.kitOne K (.ref (He.ga K x)) (.type T) = some b)
def obsX (fa : List Fx) (fn : List He.DefD) (K : PySem.W.Frag) : He.AlD := ((fa.all fun f => f.ok K) && fn.all fun d => d.ok K, fn.map fun d => He.fnW K d.at_)
def SaysX (fa : List Fx) (fn : List He.DefD) (K : PySem.W.Frag) : Prop := obsX fa fn K = He.valD fn
def obsXG (n : Nat) (fa : List Fx) (fn : List He.DefD) (g : Addr → Option Obj) : He.AlD := obsX fa fn (He.frG g (He.asD g n))
def hookX (n : Nat) (fa : List Fx) (fn : List He.DefD) : PySem.W.Hook where
  α := He.AlD
  obs := fun s => obsXG n fa fn s.heap.get?
  val := fun _ => He.valD fn
  says := fun _ h => ∃ K : PySem.W.Frag, K.In h ∧ SaysX fa fn K
  of := fun _ _ e => ⟨_, He.frG_in, e⟩
  keeps := fun _ _ _ ⟨K, hK, c⟩ k => ⟨K, PySem.W.Frag.In.keeps hK k, c⟩
theorem obsXG_eq {n : Nat} {fa : List Fx} {fn : List He.DefD} {g : Addr → Option Obj} {s : Shared} (h : ∀ a, g a = s.heap.get? a) : obsXG n fa fn g = (hookX n fa fn).obs s := by
  have e : g = s.heap.get? := funext h
  rw [e] <;> rfl
section
variable {fa : List Fx} {fn : List He.DefD} {K : PySem.W.Frag}
theorem SaysX.fact0 (c : SaysX fa fn K) (i : Nat) {f : Fx} (h : fa[i]? = some f := by rfl) : f.ok K = true := by
  have c1 := (He.ba (show ((fa.all fun f => f.ok K) && fn.all fun d => d.ok K) = true from congrArg (fun z : He.AlD => z.1) c)).1
  exact List.all_eq_true.mp c1 f (List.mem_of_getElem? h)
theorem SaysX.fact (c : SaysX fa fn K) (i : Nat) {f : He.Fa} (h : fa[i]? = some (.he f) := by rfl) : f.ok K = true := c.fact0 i h
theorem SaysX.def_ (c : SaysX fa fn K) (i : Nat) {d : He.DefD} (h : fn[i]? = some d := by rfl) : ∃ fd, FunD K d.name d.qual d.params d.body d.scope (d.dvs K) (d.kws K) (He.fAd K d.at_) fd := by
  have c2 := (He.ba (show ((fa.all fun f => f.ok K) && fn.all fun d => d.ok K) = true from congrArg (fun z : He.AlD => z.1) c)).2
  have e : fn.map (fun d => He.fnW K d.at_) = fn.map He.DefD.val := congrArg (fun z : He.AlD => z.2) c
  have e2 : (fn.map fun d => He.fnW K d.at_)[i]? = (fn.map He.DefD.val)[i]? := by rw [e]
  rw [List.getElem?_map, List.getElem?_map, h] at e2
  exact He.DefD.funD (Option.some.inj e2) (List.all_eq_true.mp c2 d (List.mem_of_getElem? h))
end
def tabF (tb : List (Str × Bool)) (c : Str) : Option Bool := (tb.find? fun p => decide (p.1 = c)).map (·.2)
def isXF (tb : List (Str × Bool)) (d : D) (h : Hs) : Res := match d with
  | .exn c => (tabF tb c).map fun b => (.bl b, h)
  | _ => none
end DV
namespace DV
open PySem PySem.Spec PyProof.Rows L2
end DV
namespace DV
open PySem PySem.Spec PyProof.Rows L2
def putFD (f : Str) (v : D) : List (Str × D) → List (Str × D)
  | [] => [(f, v)]
  | (g, x) :: r => if g = f then (g, v) :: r else (g, x) :: putFD f v r
def fldF (C f : Str) (d : D) (h : Hs) : Res := match d with
  | .loc l => match h[l]? with
    | some (.ins C' fs) => if C' = C then (fs.lookup f).map fun v => (v, h) else none
    | _ => none
  | _ => none
def fldM (C f : Str) (O : EM) : EM := unM (fldF C f) O
def setFldF (C f : Str) (d v : D) (h : Hs) : Option Hs := match d with
  | .loc l => match h[l]? with
    | some (.ins C' fs) => if C' = C ∧ fs.length < 1000 then some (h.set l (.ins C (putFD f v fs))) else none
    | _ => none
  | _ => none
def setFldM (C f : Str) (V O : EM) : SM := fun ds h => lift (V ds h) ds fun v h => lift (O ds h) ds fun o h => match setFldF C f o v h with
  | some h => .nx ds h
  | none => .bad
def methM (C m : Str) (φ : Fm) (O : EM) (As : AM) : EM := fun ds h => (O ds h).bind fun d h => match d with
  | .loc l => (match h[l]? with
    | some (.ins C' fs) => if C' = C ∧ fs.lookup m = none then (As ds h).bind fun xs h => φ (d :: xs) h else .bad
    | _ => .bad)
  | _ => .bad
def newM (C : Str) (φ : Fm) (As : AM) : EM := fun ds h => (As ds h).bind fun xs h => match φ (.loc h.length :: xs) (h ++ [.ins C []]) with
  | .ok .non h' => .ok (.loc h.length) h'
  | _ => .bad
end DV
namespace DV
open PySem PySem.Spec PyProof.Rows L2
section
variable {N : Sl → Hs → Prop} {Q : D → Hs → Prop} {X : QX} {ds : Sl} {h : Hs}
@[simp] theorem wp_fld (C f : Str) (O : EM) : (fldM C f O ds h).wp Q X = (O ds h).wp (fun d h => match fldF C f d h with | some p => Q p.1 p.2 | none => False) X := by
  unfold fldM
  rw [wp_un]
  congr 1; funext d h
  cases fldF C f d h <;> rfl
@[simp] theorem ws_setFld (C f : Str) (V O : EM) : (setFldM C f V O ds h).wp N Q X = (V ds h).wp (fun v h => (O ds h).wp (fun o h => match setFldF C f o v h with | some h => N ds h | none => False) X) X := by
  simp only [setFldM, ws_lift]
  congr 1; funext v h
  congr 1; funext o h
  cases setFldF C f o v h <;> rfl
@[simp] theorem wp_meth (C m : Str) (φ : Fm) (O : EM) (As : AM) : (methM C m φ O As ds h).wp Q X = (O ds h).wp (fun d h => match d with
    | .loc l => (match h[l]? with
      | some (.ins C' fs) => (C' = C ∧ fs.lookup m = none) ∧ (As ds h).wp (fun xs h => (φ (d :: xs) h).wp Q X) X
      | _ => False)
    | _ => False) X := by
  simp only [methM, wp_bind]
  congr 1; funext d h
  cases d with
  | loc l =>
    simp only
    cases h[l]? with
    | none => rfl
    | some o =>
      cases o with
      | ins C' fs =>
        simp only
        by_cases c : C' = C ∧ fs.lookup m = none
        · rw [if_pos c]; simp [c]
        · rw [if_neg c]; simp only [c, false_and]; rfl
      | _ => rfl
  | _ => rfl
@[simp] theorem wp_new_ (C : Str) (φ : Fm) (As : AM) : (newM C φ As ds h).wp Q X = (As ds h).wp (fun xs h => match φ (.loc h.length :: xs) (h ++ [.ins C []]) with
    | .ok .non h' => Q (.loc h.length) h'
    | _ => False) X := by
  simp only [newM, wp_bind]
  congr 1; funext xs h
  cases φ (.loc h.length :: xs) (h ++ [.ins C []]) with
  | ok d h' => cases d <;> rfl
  | exc _ _ => rfl
  | bad => rfl
end
theorem wp_eff {Q : D → Hs → Prop} {X : QX} {φ : Fm} {xs : List D} {h : Hs} (w : (φ xs h).wp (fun d h' => (noloc d = true ∧ ∀ (i : Nat) (o : AO), i < h.length → h'[i]? = some o → h[i]? = some o ∨ nolocO o = true) ∧ Q d (h'.take h.length))
    (fun c h' => (∀ (i : Nat) (o : AO), i < h.length → h'[i]? = some o → h[i]? = some o ∨ nolocO o = true) ∧ X c (h'.take h.length))) : (kEff.f φ xs h).wp Q X := by
  show (nEff φ xs h).wp Q X
  unfold nEff
  cases e : φ xs h with
  | ok d h' =>
    rw [e] at w
    simp only
    rw [if_pos w.1]
    exact w.2
  | exc c h' =>
    rw [e] at w
    simp only
    rw [if_pos w.1]
    exact w.2
  | bad => rw [e] at w; exact w
end DV
namespace DV
open PySem PySem.Spec PyProof.Rows L2
section
variable {h : Hs} {i j : Int} {a b : Str} {xs ys : List D} {l : Nat} {v x : D}
@[simp] theorem mulX_int : mulXF (.int i) (.int j) h = if cMul i j = true then some (.int (i * j), h) else none := rfl
@[simp] theorem mulX_str : mulXF (.str a) (.int j) h = if cB (-1000000 ≤ j ∧ j ≤ 1000000 ∧ a.length ≤ 1000000 ∧ a.length * j.toNat ≤ LIM) = true then some (.str (repS a j.toNat), h) else none := rfl
@[simp] theorem mulX_tup : mulXF (.tup xs) (.int i) h = if -1000 ≤ i ∧ i ≤ 1000 ∧ xs.length ≤ 1000 then some (.tup (List.replicate i.toNat xs).flatten, h) else none := rfl
theorem set_dct {kvs : List (Key × D)} {k : D} {kk : Key} (e : h[l]? = some (.dct kvs)) (ek : keyD k = some kk) (hz : kvs.length < 16777216) : setAF (.loc l) k v h = some (h.set l (.dct (putD kvs kk v))) := by
  simp [setAF, e, hz, ek]
theorem get_dct {kvs : List (Key × D)} {k : D} {kk : Key} (e : h[l]? = some (.dct kvs)) (ek : keyD k = some kk) : getDF (.loc l) [k, x] h = some ((valD kvs kk).getD x, h) := by
  simp [getDF, e, ek]
theorem setd_dct {kvs : List (Key × D)} {k : D} {kk : Key} (e : h[l]? = some (.dct kvs)) (ek : keyD k = some kk) (hz : kvs.length < 16777216) : setdF (.loc l) [k, x] h = some (match valD kvs kk with | some v => (v, h) | none => (x, h.set l (.dct (putD kvs kk x)))) := by
  simp [setdF, e, hz, ek] <;> cases valD kvs kk <;> rfl
theorem ck_dct {kvs : List (Key × D)} (e : h[l]? = some (.dct kvs)) : ckDct (.loc l) h = true := by simp [ckDct, e]
theorem nin_dct {kvs : List (Key × D)} {k : D} {kk : Key} (e : h[l]? = some (.dct kvs)) (ek : keyD k = some kk) : ninF k (.loc l) h = some (.bl (!(valD kvs kk).isSome), h) := by
  cases k <;> simp_all [ninF, inB]
theorem ix_dct {kvs : List (Key × D)} {k : D} {kk : Key} (e : h[l]? = some (.dct kvs)) (ek : keyD k = some kk) : ixF (.loc l) k h = (valD kvs kk).map fun d => (d, h) := by
  simp [ixF, e, ek]
@[simp] theorem key_int : keyD (.int i) = some (.inl i) := rfl
@[simp] theorem key_str : keyD (.str a) = some (.inr a) := rfl
end
end DV
namespace DV
open PySem PySem.Spec PyProof.Rows L2
def min2I (i j : Int) : Int := if j < i then j else i
def min3F : List D → Hs → Res
  | [.int i, .int j, .int k], h => some (.int (min2I (min2I i j) k), h)
  | _, _ => none
def blsOf : List D → Option (List Bool)
  | [] => some []
  | .bl s :: r => (blsOf r).map fun ss => s :: ss
  | _ => none
theorem blsOf_some : ∀ {ds : List D} {ss : List Bool}, blsOf ds = some ss → ds = ss.map D.bl
  | [], _, e => by cases e; rfl
  | .bl i :: r, ns, e => by
    unfold blsOf at e
    cases q : blsOf r with
    | none => rw [q] at e; cases e
    | some ms => rw [q] at e; cases e; rw [List.map_cons, blsOf_some q]
  | .non :: _, _, e => by cases e
  | .str _ :: _, _, e => by cases e
  | .int _ :: _, _, e => by cases e
  | .tup _ :: _, _, e => by cases e
  | .loc _ :: _, _, e => by cases e
  | .ro _ :: _, _, e => by cases e
  | .exn _ :: _, _, e => by cases e
@[simp] theorem blsOf_map (ns : List Bool) : blsOf (ns.map D.bl) = some ns := by
  induction ns with
  | nil => rfl
  | cons n ns ih => rw [List.map_cons]; unfold blsOf; rw [ih]; rfl
def allF : List D → Hs → Res
  | [.loc l], h => match h[l]? with
    | some (.lst ds) => (blsOf ds).map fun bs => (.bl (bs.all id), h)
    | _ => none
  | _, _ => none
theorem repL_bls {K : PySem.W.Frag} {m : List Addr} {H : Hp} : ∀ {ns : List Bool} {vs : List V}, RepL K m H (ns.map D.bl) vs → vs = ns.map V.bl
  | [], vs, r => by unfold RepL at r; exact r
  | n :: ns, vs, r => by
    rw [List.map_cons] at r
    unfold RepL at r
    obtain ⟨x, xs, rfl, h1, h2⟩ := r
    unfold RepV at h1
    subst h1
    rw [repL_bls h2]; rfl
def isTF : VF2
  | .bl a, .bl b, h => some (.bl (a == b), h)
  | _, _, _ => none
def isnTF : VF2
  | .bl a, .bl b, h => some (.bl (a != b), h)
  | _, _, _ => none
section
variable {X : Cx}
theorem c_all (hc : X.calm = true) : CallR X (.builtin "all") (rC X.K allF) := by
  intro pns s σ H vs us Q I rl h
  obtain ⟨m, hs, ds, r, rh, o⟩ := h
  unfold allF at o
  split at o
  · obtain ⟨x, rfl, r1⟩ := repL1 r
    unfold RepV at r1
    obtain ⟨a, ha, rfl⟩ := r1
    split at o
    · rename_i xs e
      obtain ⟨ws, hw, rl2⟩ := rh.lst ha e
      cases q : blsOf xs with
      | none => rw [q] at o; exact o.elim
      | some ys =>
        rw [q, Option.map_some] at o
        have := blsOf_some q
        subst this
        have := repL_bls rl2
        subst this
        exact cr_all hc pns s σ H _ us Q I rl ⟨a, ys, rfl, SqL.of hw, OutV.keep o (by unfold RepV; rfl) rh⟩
    · exact o.elim
  · exact o.elim
end
@[simp] theorem min3_int {h : Hs} {i j k : Int} : min3F [.int i, .int j, .int k] h = some (.int (min2I (min2I i j) k), h) := rfl
@[simp] theorem isT_bl {h : Hs} {a b : Bool} : isTF (.bl a) (.bl b) h = some (.bl (a == b), h) := rfl
@[simp] theorem isnT_bl {h : Hs} {a b : Bool} : isnTF (.bl a) (.bl b) h = some (.bl (a != b), h) := rfl
theorem all_lst {h : Hs} {l : Nat} {bs : List Bool} (e : h[l]? = some (.lst (bs.map D.bl))) : allF [.loc l] h = some (.bl (bs.all id), h) := by simp [allF, e]
end DV
namespace DV
open PySem PySem.Spec PyProof.Rows L2
end DV
namespace DV
open PySem PySem.Spec PyProof.Rows L2
noncomputable def m__law_cell_at : SM :=
  seqM (ifM (tbM (binM ltF (vM 1) (argM lenF (consA (vM 0) nilA)))) (retM (binM ixF (vM 0) (vM 1))) (passM)) (retM (cM (.int 0)))
noncomputable def F__law_cell_at : Nat → Fm
  | 0 => fun _ _ => .bad
  | n + 1 => kPure.f (runM 2 2 (m__law_cell_at))
theorem S__law_cell_at (n : Nat) : F__law_cell_at (n + 1) = kPure.f (runM 2 2 (m__law_cell_at)) := rfl
noncomputable def m_blanks_of (f_blanks_of : Fm) : SM :=
  seqM (ifM (tbM (binM eqF (binM ixF (vM 0) (cM (.int 0))) (cM (.str "blank")))) (retM (argM lstF (consA (binM ixF (vM 0) (cM (.int 1))) nilA))) (passM)) (seqM (setM 1 (argM lstF (nilA))) (seqM (forM (valI (binM ixF (vM 0) (cM (.int 2)))) (nameG 2) (forM (valI (callM f_blanks_of (consA (vM 2) nilA))) (nameG 3) (ifM (tbM (binM ninF (vM 3) (vM 1))) (exprM (mtMc ckList appendF (vM 1) (consA (vM 3) nilA))) (passM)))) (retM (vM 1))))
noncomputable def F_blanks_of : Nat → Fm
  | 0 => fun _ _ => .bad
  | n + 1 => kNew.f (runM 1 4 (m_blanks_of (F_blanks_of n)))
theorem S_blanks_of (n : Nat) : F_blanks_of (n + 1) = kNew.f (runM 1 4 (m_blanks_of (F_blanks_of n))) := rfl
noncomputable def m_exchanged (f_exchanged : Fm) : SM :=
  seqM (ifM (tbM (binM eqF (binM ixF (vM 0) (cM (.int 0))) (cM (.str "blank")))) (retM (mtMc ckDct getDF (vM 1) (consA (binM ixF (vM 0) (cM (.int 1))) (consA (vM 0) nilA)))) (passM)) (retM (argM tupF (consA (cM (.str "block")) (consA (binM ixF (vM 0) (cM (.int 1))) (consA (argM tupT (consA (lcM [2] (valI (binM ixF (vM 0) (cM (.int 2)))) (nameG 2) (yesM) (callM f_exchanged (consA (vM 2) (consA (vM 1) nilA)))) nilA)) nilA)))))
noncomputable def F_exchanged : Nat → Fm
  | 0 => fun _ _ => .bad
  | n + 1 => kPure.f (runM 2 3 (m_exchanged (F_exchanged n)))
theorem S_exchanged (n : Nat) : F_exchanged (n + 1) = kPure.f (runM 2 3 (m_exchanged (F_exchanged n))) := rfl
noncomputable def m_same_blocks : SM :=
  retM (andV (chainM eqF eqF (binM ixF (vM 0) (cM (.int 0))) (binM ixF (vM 1) (cM (.int 0))) (cM (.str "block"))) (andV (binM eqF (binM ixF (vM 0) (cM (.int 1))) (binM ixF (vM 1) (cM (.int 1)))) (binM eqF (argM lenF (consA (binM ixF (vM 0) (cM (.int 2))) nilA)) (argM lenF (consA (binM ixF (vM 1) (cM (.int 2))) nilA)))))
noncomputable def F_same_blocks : Nat → Fm
  | 0 => fun _ _ => .bad
  | n + 1 => kPure.f (runM 2 2 (m_same_blocks))
theorem S_same_blocks (n : Nat) : F_same_blocks (n + 1) = kPure.f (runM 2 2 (m_same_blocks)) := rfl
noncomputable def m_fit_under (f_fit_under f_same_blocks : Fm) : SM :=
  seqM (ifM (tbM (binM eqF (binM ixF (vM 0) (cM (.int 0))) (cM (.str "blank")))) (retM (binM eqF (mtMc ckDct setdF (vM 2) (consA (binM ixF (vM 0) (cM (.int 1))) (consA (vM 1) nilA))) (vM 1))) (passM)) (seqM (ifM (notM (truM (callM f_same_blocks (consA (vM 0) (consA (vM 1) nilA))))) (retM (cM (.bl false))) (passM)) (seqM (forM (enumI (binM ixF (vM 0) (cM (.int 2)))) (tupG 2 (consG (nameG 3) (consG (nameG 4) (nilG)))) (ifM (notM (truM (callM f_fit_under (consA (vM 4) (consA (binM ixF (binM ixF (vM 1) (cM (.int 2))) (vM 3)) (consA (vM 2) nilA)))))) (retM (cM (.bl false))) (passM))) (retM (cM (.bl true)))))
noncomputable def F_fit_under : Nat → Fm
  | 0 => fun _ _ => .bad
  | n + 1 => kEff.f (runM 3 5 (m_fit_under (F_fit_under n) (F_same_blocks n)))
theorem S_fit_under (n : Nat) : F_fit_under (n + 1) = kEff.f (runM 3 5 (m_fit_under (F_fit_under n) (F_same_blocks n))) := rfl
noncomputable def m_fitting (f_fit_under : Fm) : SM :=
  seqM (setM 2 (newDM)) (seqM (ifM (truM (callM f_fit_under (consA (vM 0) (consA (vM 1) (consA (vM 2) nilA))))) (retM (vM 2)) (passM)) (retM (cM .non)))
noncomputable def F_fitting : Nat → Fm
  | 0 => fun _ _ => .bad
  | n + 1 => kRaw.f (runM 2 3 (m_fitting (F_fit_under n)))
theorem S_fitting (n : Nat) : F_fitting (n + 1) = kRaw.f (runM 2 3 (m_fitting (F_fit_under n))) := rfl
noncomputable def m_clash_under (f_clash_under f_same_blocks : Fm) : SM :=
  seqM (ifM (tbM (binM eqF (binM ixF (vM 0) (cM (.int 0))) (cM (.str "blank")))) (seqM (asgM (mtMc ckDct setdF (vM 3) (consA (binM ixF (vM 0) (cM (.int 1))) (consA (argM tupF (consA (vM 2) (consA (vM 1) nilA))) nilA))) (okG (tupG 2 (consG (nameG 4) (consG (nameG 5) (nilG)))))) (seqM (ifM (tbM (binM neF (vM 5) (vM 1))) (retM (argM tupF (consA (cM (.str "twice")) (consA (vM 4) (consA (vM 2) nilA))))) (passM)) (retM (cM .non)))) (passM)) (seqM (ifM (notM (truM (callM f_same_blocks (consA (vM 0) (consA (vM 1) nilA))))) (retM (argM tupF (consA (cM (.str "unlike")) (consA (vM 2) nilA)))) (passM)) (seqM (forM (enumI (binM ixF (vM 0) (cM (.int 2)))) (tupG 2 (consG (nameG 6) (consG (nameG 7) (nilG)))) (seqM (setM 8 (callM f_clash_under (consA (vM 7) (consA (binM ixF (binM ixF (vM 1) (cM (.int 2))) (vM 6)) (consA (binM addF (vM 2) (argM tupF (consA (vM 6) nilA))) (consA (vM 3) nilA)))))) (ifM (tbM (binM isnNF (vM 8) (cM .non))) (retM (vM 8)) (passM)))) (retM (cM .non))))
noncomputable def F_clash_under : Nat → Fm
  | 0 => fun _ _ => .bad
  | n + 1 => kEff.f (runM 4 9 (m_clash_under (F_clash_under n) (F_same_blocks n)))
theorem S_clash_under (n : Nat) : F_clash_under (n + 1) = kEff.f (runM 4 9 (m_clash_under (F_clash_under n) (F_same_blocks n))) := rfl
noncomputable def m_first_clash (f_clash_under : Fm) : SM :=
  retM (callM f_clash_under (consA (vM 0) (consA (vM 1) (consA (argM tupF (nilA)) (consA (newDM) nilA)))))
noncomputable def F_first_clash : Nat → Fm
  | 0 => fun _ _ => .bad
  | n + 1 => kPure.f (runM 2 2 (m_first_clash (F_clash_under n)))
theorem S_first_clash (n : Nat) : F_first_clash (n + 1) = kPure.f (runM 2 2 (m_first_clash (F_clash_under n))) := rfl
noncomputable def m__law_mixed : SM :=
  retM (binM modF (binM mulXF (binM addF (vM 0) (cM (.int 1))) (cM (.int 1357913579135791357))) (cM (.int 2305843009213693951)))
noncomputable def F__law_mixed : Nat → Fm
  | 0 => fun _ _ => .bad
  | n + 1 => kPure.f (runM 1 1 (m__law_mixed))
theorem S__law_mixed (n : Nat) : F__law_mixed (n + 1) = kPure.f (runM 1 1 (m__law_mixed)) := rfl
noncomputable def m__law_numbers (f__law_mixed f__law_cell_at : Fm) : SM :=
  seqM (setM 3 (slM (vM 0) (someP (vM 1)) (someP (binM addF (vM 1) (vM 2))))) (seqM (setM 4 (callM f__law_cell_at (consA (vM 0) (consA (cM (.int 0)) nilA)))) (seqM (setM 5 (argM max2F (consA (argM lenF (consA (vM 3) nilA)) (consA (binM modF (callM f__law_mixed (consA (vM 4) nilA)) (cM (.int 17))) nilA)))) (seqM (setM 6 (argM lstF (nilA))) (seqM (forM (rngI rng1 (consA (vM 5) nilA)) (nameG 7) (ifM (tbM (binM ltF (vM 7) (argM lenF (consA (vM 3) nilA)))) (exprM (mtMc ckList appendF (vM 6) (consA (callM f__law_mixed (consA (binM ixF (vM 3) (vM 7)) nilA)) nilA))) (exprM (mtMc ckList appendF (vM 6) (consA (callM f__law_mixed (consA (binM addF (binM mulXF (binM modF (vM 4) (cM (.int 1000003))) (binM addF (binM addF (binM mulXF (vM 7) (vM 7)) (vM 7)) (cM (.int 41)))) (vM 7)) nilA)) nilA))))) (retM (vM 6))))))
noncomputable def F__law_numbers : Nat → Fm
  | 0 => fun _ _ => .bad
  | n + 1 => kNew.f (runM 3 8 (m__law_numbers (F__law_mixed n) (F__law_cell_at n)))
theorem S__law_numbers (n : Nat) : F__law_numbers (n + 1) = kNew.f (runM 3 8 (m__law_numbers (F__law_mixed n) (F__law_cell_at n))) := rfl
noncomputable def m__law_names_v2 (f__law_mixed : Fm) : SM :=
  seqM (setM 1 (cM (.str "abcdefghijklmnopqrstuvwxyz0123456789"))) (seqM (setM 2 (callM f__law_mixed (consA (vM 0) nilA))) (seqM (setM 3 (binM addF (cM (.int 1)) (binM modF (binM fdivF (vM 2) (cM (.int 2))) (cM (.int 12))))) (seqM (setM 4 (binM modF (binM fdivF (vM 2) (cM (.int 24))) (vM 3))) (seqM (setM 5 (binM ixF (vM 1) (binM modF (binM fdivF (vM 2) (cM (.int 288))) (cM (.int 26))))) (seqM (ifM (tbM (binM eqF (binM modF (vM 2) (cM (.int 2))) (cM (.int 0)))) (retM (lcM [6] (rngI rng1 (consA (cM (.int 9)) nilA)) (nameG 6) (yesM) (binM mulXF (vM 5) (binM addF (vM 6) (cM (.int 1)))))) (passM)) (seqM (forM (rngI rng1 (consA (binM subF (vM 3) (cM (.int 1))) nilA)) (nameG 6) (setM 5 (binM addF (vM 5) (binM ixF (vM 1) (binM modF (callM f__law_mixed (consA (binM mulXF (binM fdivF (vM 2) (cM (.int 9))) (binM addF (binM addF (binM mulXF (vM 6) (vM 6)) (binM mulXF (cM (.int 3)) (vM 6))) (cM (.int 3)))) nilA)) (cM (.int 36))))))) (retM (lcM [6] (rngI rng1 (consA (cM (.int 9)) nilA)) (nameG 6) (yesM) (binM addF (binM addF (slM (vM 5) (noP) (someP (vM 4))) (binM ixF (vM 1) (binM modF (binM addF (binM fdivF (vM 2) (cM (.int 7488))) (binM mulXF (cM (.int 7)) (vM 6))) (cM (.int 26))))) (slM (vM 5) (someP (binM addF (vM 4) (cM (.int 1)))) (noP)))))))))))
noncomputable def F__law_names_v2 : Nat → Fm
  | 0 => fun _ _ => .bad
  | n + 1 => kNew.f (runM 1 7 (m__law_names_v2 (F__law_mixed n)))
theorem S__law_names_v2 (n : Nat) : F__law_names_v2 (n + 1) = kNew.f (runM 1 7 (m__law_names_v2 (F__law_mixed n))) := rfl
noncomputable def m__law_blank : SM :=
  seqM (setM 1 (binM fdivF (vM 0) (cM (.int 5)))) (retM (argM tupF (consA (cM (.str "blank")) (consA (binM ixF (argM lstF (consA (binM addF (cM (.int 1)) (binM modF (vM 1) (cM (.int 4)))) (consA (binM addF (cM (.int 1)) (binM modF (vM 1) (cM (.int 3)))) (consA (cM (.int 1)) (consA (binM subF (binM powF (cM (.int 10)) (cM (.int 9))) (binM modF (vM 1) (cM (.int 3)))) (consA (binM addF (cM (.int 1)) (binM modF (vM 1) (binM powF (cM (.int 10)) (cM (.int 9))))) nilA)))))) (binM modF (vM 0) (cM (.int 5)))) nilA))))
noncomputable def F__law_blank : Nat → Fm
  | 0 => fun _ _ => .bad
  | n + 1 => kPure.f (runM 1 2 (m__law_blank))
theorem S__law_blank (n : Nat) : F__law_blank (n + 1) = kPure.f (runM 1 2 (m__law_blank)) := rfl
noncomputable def m__law_build (f__law_build f__law_blank : Fm) : SM :=
  seqM (ifM (tbM (binM geF (vM 1) (argM lenF (consA (vM 0) nilA)))) (retM (argM tupF (consA (argM tupF (consA (cM (.str "block")) (consA (cM (.str "z")) (consA (argM tupF (nilA)) nilA)))) (consA (vM 1) nilA)))) (passM)) (seqM (setM 4 (binM ixF (vM 0) (vM 1))) (seqM (ifM (tbM (binM eqF (binM modF (vM 4) (cM (.int 4))) (cM (.int 1)))) (retM (argM tupF (consA (callM f__law_blank (consA (binM fdivF (vM 4) (cM (.int 4))) nilA)) (consA (binM addF (vM 1) (cM (.int 1))) nilA)))) (passM)) (seqM (setM 5 (binM ixF (argM lstF (consA (cM (.int 0)) (consA (cM (.int 0)) (consA (cM (.int 1)) (consA (cM (.int 2)) (consA (cM (.int 2)) (consA (cM (.int 3)) nilA))))))) (binM modF (binM fdivF (vM 4) (cM (.int 4))) (cM (.int 6))))) (seqM (ifM (tbM (binM gtF (vM 2) (cM (.int 10)))) (setM 5 (cM (.int 0))) (passM)) (seqM (setM 1 (binM addF (vM 1) (cM (.int 1)))) (seqM (setM 6 (argM lstF (nilA))) (seqM (forM (rngI rng1 (consA (vM 5) nilA)) (nameG 7) (seqM (asgM (callM f__law_build (consA (vM 0) (consA (vM 1) (consA (binM addF (vM 2) (cM (.int 1))) (consA (vM 3) nilA))))) (okG (tupG 2 (consG (nameG 8) (consG (nameG 1) (nilG)))))) (exprM (mtMc ckList appendF (vM 6) (consA (vM 8) nilA))))) (retM (argM tupF (consA (argM tupF (consA (cM (.str "block")) (consA (binM ixF (vM 3) (binM modF (binM fdivF (vM 4) (cM (.int 24))) (cM (.int 9)))) (consA (argM tupT (consA (vM 6) nilA)) nilA)))) (consA (vM 1) nilA)))))))))))
noncomputable def F__law_build : Nat → Fm
  | 0 => fun _ _ => .bad
  | n + 1 => kPure.f (runM 4 9 (m__law_build (F__law_build n) (F__law_blank n)))
theorem S__law_build (n : Nat) : F__law_build (n + 1) = kPure.f (runM 4 9 (m__law_build (F__law_build n) (F__law_blank n))) := rfl
noncomputable def m__law_tree_v2 (f__law_build : Fm) : SM :=
  seqM (setM 2 (argM lstF (nilA))) (seqM (setM 3 (cM (.int 0))) (seqM (whileM (andM (tbM (binM ltF (vM 3) (argM lenF (consA (vM 0) nilA)))) (tbM (binM ltF (argM lenF (consA (vM 2) nilA)) (cM (.int 9))))) (seqM (asgM (callM f__law_build (consA (vM 0) (consA (vM 3) (consA (cM (.int 1)) (consA (vM 1) nilA))))) (okG (tupG 2 (consG (nameG 4) (consG (nameG 3) (nilG)))))) (exprM (mtMc ckList appendF (vM 2) (consA (vM 4) nilA)))) FUEL) (seqM (ifM (tbM (binM eqF (argM lenF (consA (vM 2) nilA)) (cM (.int 1)))) (retM (binM ixF (vM 2) (cM (.int 0)))) (passM)) (retM (argM tupF (consA (cM (.str "block")) (consA (cM (.str "root")) (consA (argM tupT (consA (vM 2) nilA)) nilA))))))))
noncomputable def F__law_tree_v2 : Nat → Fm
  | 0 => fun _ _ => .bad
  | n + 1 => kPure.f (runM 2 5 (m__law_tree_v2 (F__law_build n)))
theorem S__law_tree_v2 (n : Nat) : F__law_tree_v2 (n + 1) = kPure.f (runM 2 5 (m__law_tree_v2 (F__law_build n))) := rfl
noncomputable def m__law_small_v2 (f__law_blank : Fm) : SM :=
  seqM (setM 2 (binM modF (vM 0) (cM (.int 6)))) (seqM (setM 0 (binM fdivF (vM 0) (cM (.int 6)))) (seqM (ifM (tbM (binM ltF (vM 2) (cM (.int 2)))) (retM (callM f__law_blank (consA (vM 0) nilA))) (passM)) (seqM (setM 3 (argM tupF (consA (cM (.str "block")) (consA (binM ixF (vM 1) (binM modF (vM 0) (cM (.int 9)))) (consA (argM tupF (nilA)) nilA))))) (seqM (ifM (tbM (binM eqF (vM 2) (cM (.int 2)))) (retM (vM 3)) (passM)) (seqM (setM 4 (callM f__law_blank (consA (binM fdivF (vM 0) (cM (.int 9))) nilA))) (seqM (ifM (tbM (binM eqF (vM 2) (cM (.int 3)))) (retM (argM tupF (consA (cM (.str "block")) (consA (binM ixF (vM 1) (binM modF (binM fdivF (vM 0) (cM (.int 81))) (cM (.int 9)))) (consA (argM tupF (consA (vM 4) nilA)) nilA))))) (passM)) (retM (argM tupF (consA (cM (.str "block")) (consA (binM ixF (vM 1) (binM modF (binM fdivF (vM 0) (cM (.int 81))) (cM (.int 9)))) (consA (binM ixF (argM lstF (consA (argM tupF (consA (vM 3) (consA (vM 4) nilA))) (consA (argM tupF (consA (vM 4) (consA (vM 4) nilA))) nilA))) (binM modF (vM 2) (cM (.int 2)))) nilA)))))))))))
noncomputable def F__law_small_v2 : Nat → Fm
  | 0 => fun _ _ => .bad
  | n + 1 => kPure.f (runM 2 5 (m__law_small_v2 (F__law_blank n)))
theorem S__law_small_v2 (n : Nat) : F__law_small_v2 (n + 1) = kPure.f (runM 2 5 (m__law_small_v2 (F__law_blank n))) := rfl
noncomputable def m__law_filled (f__law_filled : Fm) : SM :=
  seqM (ifM (tbM (binM eqF (binM ixF (vM 0) (cM (.int 0))) (cM (.str "blank")))) (retM (mtMc ckDct getDF (vM 1) (consA (binM ixF (vM 0) (cM (.int 1))) (consA (vM 0) nilA)))) (passM)) (retM (argM tupF (consA (cM (.str "block")) (consA (binM ixF (vM 0) (cM (.int 1))) (consA (argM tupT (consA (lcM [2] (valI (binM ixF (vM 0) (cM (.int 2)))) (nameG 2) (yesM) (callM f__law_filled (consA (vM 2) (consA (vM 1) nilA)))) nilA)) nilA)))))
noncomputable def F__law_filled : Nat → Fm
  | 0 => fun _ _ => .bad
  | n + 1 => kPure.f (runM 2 3 (m__law_filled (F__law_filled n)))
theorem S__law_filled (n : Nat) : F__law_filled (n + 1) = kPure.f (runM 2 3 (m__law_filled (F__law_filled n))) := rfl
noncomputable def m__law_blanks (f__law_blanks : Fm) : SM :=
  seqM (ifM (tbM (binM eqF (binM ixF (vM 0) (cM (.int 0))) (cM (.str "blank")))) (retM (argM lstF (consA (binM ixF (vM 0) (cM (.int 1))) nilA))) (passM)) (seqM (setM 1 (argM lstF (nilA))) (seqM (forM (valI (binM ixF (vM 0) (cM (.int 2)))) (nameG 2) (forM (valI (callM f__law_blanks (consA (vM 2) nilA))) (nameG 3) (ifM (tbM (binM ninF (vM 3) (vM 1))) (exprM (mtMc ckList appendF (vM 1) (consA (vM 3) nilA))) (passM)))) (retM (vM 1))))
noncomputable def F__law_blanks : Nat → Fm
  | 0 => fun _ _ => .bad
  | n + 1 => kNew.f (runM 1 4 (m__law_blanks (F__law_blanks n)))
theorem S__law_blanks (n : Nat) : F__law_blanks (n + 1) = kNew.f (runM 1 4 (m__law_blanks (F__law_blanks n))) := rfl
noncomputable def m__law_filling_v2 (f__law_blanks f__law_mixed f__law_small : Fm) : SM :=
  seqM (setM 3 (newDM)) (seqM (forM (enumI (callM f__law_blanks (consA (vM 0) nilA))) (tupG 2 (consG (nameG 4) (consG (nameG 5) (nilG)))) (setIxM setAF (callM f__law_small (consA (callM f__law_mixed (consA (binM mulXF (vM 1) (binM addF (binM addF (binM mulXF (vM 4) (vM 4)) (binM mulXF (cM (.int 3)) (vM 4))) (cM (.int 3)))) nilA)) (consA (vM 2) nilA))) (vM 3) (vM 5))) (retM (vM 3)))
noncomputable def F__law_filling_v2 : Nat → Fm
  | 0 => fun _ _ => .bad
  | n + 1 => kNew.f (runM 3 6 (m__law_filling_v2 (F__law_blanks n) (F__law_mixed n) (F__law_small_v2 n)))
theorem S__law_filling_v2 (n : Nat) : F__law_filling_v2 (n + 1) = kNew.f (runM 3 6 (m__law_filling_v2 (F__law_blanks n) (F__law_mixed n) (F__law_small_v2 n))) := rfl
noncomputable def m__law_places_v2 (f__law_places : Fm) : SM :=
  seqM (setM 1 (argM lstF (consA (argM tupF (consA (argM tupF (nilA)) (consA (vM 0) nilA))) nilA))) (seqM (ifM (tbM (binM eqF (binM ixF (vM 0) (cM (.int 0))) (cM (.str "block")))) (forM (enumI (binM ixF (vM 0) (cM (.int 2)))) (tupG 2 (consG (nameG 2) (consG (nameG 3) (nilG)))) (setM 1 (binM addF (vM 1) (lcM [4, 5] (valI (callM f__law_places (consA (vM 3) nilA))) (tupG 2 (consG (nameG 4) (consG (nameG 5) nilG))) (yesM) (argM tupF (consA (binM addF (argM tupF (consA (vM 2) nilA)) (vM 4)) (consA (vM 5) nilA))))))) (passM)) (retM (vM 1)))
noncomputable def F__law_places_v2 : Nat → Fm
  | 0 => fun _ _ => .bad
  | n + 1 => kNew.f (runM 1 6 (m__law_places_v2 (F__law_places_v2 n)))
theorem S__law_places_v2 (n : Nat) : F__law_places_v2 (n + 1) = kNew.f (runM 1 6 (m__law_places_v2 (F__law_places_v2 n))) := rfl
noncomputable def m__law_part : SM :=
  seqM (forM (valI (vM 1)) (nameG 2) (setM 0 (binM ixF (binM ixF (vM 0) (cM (.int 2))) (vM 2)))) (retM (vM 0))
noncomputable def F__law_part : Nat → Fm
  | 0 => fun _ _ => .bad
  | n + 1 => kPure.f (runM 2 3 (m__law_part))
theorem S__law_part (n : Nat) : F__law_part (n + 1) = kPure.f (runM 2 3 (m__law_part)) := rfl
noncomputable def m__law_clash (f__law_places f__law_part : Fm) : SM :=
  seqM (setM 2 (newDM)) (seqM (forM (valI (callM f__law_places (consA (vM 0) nilA))) (tupG 2 (consG (nameG 3) (consG (nameG 4) (nilG)))) (seqM (setM 5 (callM f__law_part (consA (vM 1) (consA (vM 3) nilA)))) (ifM (tbM (binM eqF (binM ixF (vM 4) (cM (.int 0))) (cM (.str "blank")))) (seqM (ifM (tbM (binM ninF (binM ixF (vM 4) (cM (.int 1))) (vM 2))) (setIxM setAF (argM tupF (consA (vM 3) (consA (vM 5) nilA))) (vM 2) (binM ixF (vM 4) (cM (.int 1)))) (passM)) (ifM (tbM (binM neF (binM ixF (binM ixF (vM 2) (binM ixF (vM 4) (cM (.int 1)))) (cM (.int 1))) (vM 5))) (retM (argM tupF (consA (cM (.str "twice")) (consA (binM ixF (binM ixF (vM 2) (binM ixF (vM 4) (cM (.int 1)))) (cM (.int 0))) (consA (vM 3) nilA))))) (passM))) (ifM (orM (tbM (binM neF (binM ixF (vM 5) (cM (.int 0))) (cM (.str "block")))) (orM (tbM (binM neF (binM ixF (vM 5) (cM (.int 1))) (binM ixF (vM 4) (cM (.int 1))))) (tbM (binM neF (argM lenF (consA (binM ixF (vM 5) (cM (.int 2))) nilA)) (argM lenF (consA (binM ixF (vM 4) (cM (.int 2))) nilA)))))) (retM (argM tupF (consA (cM (.str "unlike")) (consA (vM 3) nilA)))) (passM))))) (retM (cM .non)))
noncomputable def F__law_clash : Nat → Fm
  | 0 => fun _ _ => .bad
  | n + 1 => kPure.f (runM 2 6 (m__law_clash (F__law_places_v2 n) (F__law_part n)))
theorem S__law_clash (n : Nat) : F__law_clash (n + 1) = kPure.f (runM 2 6 (m__law_clash (F__law_places_v2 n) (F__law_part n))) := rfl
noncomputable def m__law_bent_v2 (f__law_small f__law_bent : Fm) : SM :=
  seqM (ifM (tbM (binM neF (vM 1) (argM tupF (nilA)))) (seqM (setM 4 (binM ixF (vM 1) (cM (.int 0)))) (seqM (setM 5 (callM f__law_bent (consA (binM ixF (binM ixF (vM 0) (cM (.int 2))) (vM 4)) (consA (slM (vM 1) (someP (cM (.int 1))) (noP)) (consA (vM 2) (consA (vM 3) nilA)))))) (retM (argM tupF (consA (cM (.str "block")) (consA (binM ixF (vM 0) (cM (.int 1))) (consA (binM addF (binM addF (slM (binM ixF (vM 0) (cM (.int 2))) (noP) (someP (vM 4))) (argM tupF (consA (vM 5) nilA))) (slM (binM ixF (vM 0) (cM (.int 2))) (someP (binM addF (vM 4) (cM (.int 1)))) (noP))) nilA))))))) (passM)) (seqM (setM 6 (binM modF (vM 2) (cM (.int 4)))) (seqM (setM 2 (binM fdivF (vM 2) (cM (.int 4)))) (seqM (ifM (orM (tbM (binM eqF (binM ixF (vM 0) (cM (.int 0))) (cM (.str "blank")))) (tbM (binM eqF (vM 6) (cM (.int 0))))) (retM (callM f__law_small (consA (vM 2) (consA (vM 3) nilA)))) (passM)) (seqM (ifM (tbM (binM eqF (vM 6) (cM (.int 1)))) (retM (argM tupF (consA (cM (.str "block")) (consA (binM ixF (vM 3) (binM modF (vM 2) (cM (.int 9)))) (consA (binM ixF (vM 0) (cM (.int 2))) nilA))))) (passM)) (seqM (ifM (tbM (binM eqF (vM 6) (cM (.int 2)))) (retM (argM tupF (consA (cM (.str "block")) (consA (binM ixF (vM 0) (cM (.int 1))) (consA (slM (binM ixF (vM 0) (cM (.int 2))) (noP) (someP (unM negF (cM (.int 1))))) nilA))))) (passM)) (seqM (ifM (tbM (binM gtF (argM lenF (consA (binM ixF (vM 0) (cM (.int 2))) nilA)) (cM (.int 8)))) (retM (vM 0)) (passM)) (retM (argM tupF (consA (cM (.str "block")) (consA (binM ixF (vM 0) (cM (.int 1))) (consA (binM addF (binM ixF (vM 0) (cM (.int 2))) (argM tupF (consA (callM f__law_small (consA (vM 2) (consA (vM 3) nilA))) nilA))) nilA)))))))))))
noncomputable def F__law_bent_v2 : Nat → Fm
  | 0 => fun _ _ => .bad
  | n + 1 => kPure.f (runM 4 7 (m__law_bent_v2 (F__law_small_v2 n) (F__law_bent_v2 n)))
theorem S__law_bent_v2 (n : Nat) : F__law_bent_v2 (n + 1) = kPure.f (runM 4 7 (m__law_bent_v2 (F__law_small_v2 n) (F__law_bent_v2 n))) := rfl
noncomputable def m__law_is_place : SM :=
  seqM (ifM (notM (truM (unM (isF "tuple") (vM 0)))) (retM (cM (.bl false))) (passM)) (retM (argM allF (consA (lcM [1] (valI (vM 0)) (nameG 1) (yesM) (andV (unM (isF "int") (vM 1)) (notV (unM (isF "bool") (vM 1))))) nilA)))
noncomputable def F__law_is_place : Nat → Fm
  | 0 => fun _ _ => .bad
  | n + 1 => kPure.f (runM 1 2 (m__law_is_place))
theorem S__law_is_place (n : Nat) : F__law_is_place (n + 1) = kPure.f (runM 1 2 (m__law_is_place)) := rfl
noncomputable def m_law_k25 (f__law_is_place f_fitting f_first_clash f__law_clash f__law_bent f__law_places f__law_mixed f__law_filling f__law_filled f__law_cell_at f__law_numbers f__law_tree f__law_names : Fm) : SM :=
  seqM (setM 1 (callM f__law_names (consA (binM fdivF (callM f__law_cell_at (consA (vM 0) (consA (cM (.int 0)) nilA))) (cM (.int 5))) nilA))) (seqM (setM 2 (callM f__law_tree (consA (callM f__law_numbers (consA (vM 0) (consA (cM (.int 1)) (consA (cM (.int 40)) nilA)))) (consA (vM 1) nilA)))) (seqM (setM 3 (callM f__law_mixed (consA (binM addF (callM f__law_cell_at (consA (vM 0) (consA (cM (.int 0)) nilA))) (cM (.int 7))) nilA))) (seqM (setM 4 (callM f__law_filled (consA (vM 2) (consA (callM f__law_filling (consA (vM 2) (consA (vM 3) (consA (vM 1) nilA)))) nilA)))) (seqM (forM (rngI rng1 (consA (binM modF (vM 3) (cM (.int 4))) nilA)) (nameG 5) (seqM (setM 6 (callM f__law_mixed (consA (binM mulXF (binM fdivF (vM 3) (cM (.int 4))) (binM addF (binM addF (binM mulXF (vM 5) (vM 5)) (binM mulXF (cM (.int 5)) (vM 5))) (cM (.int 5)))) nilA))) (seqM (setM 7 (callM f__law_places (consA (vM 4) nilA))) (setM 4 (callM f__law_bent (consA (vM 4) (consA (binM ixF (binM ixF (vM 7) (binM modF (vM 6) (argM lenF (consA (vM 7) nilA)))) (cM (.int 0))) (consA (binM fdivF (vM 6) (cM (.int 1000))) (consA (vM 1) nilA))))))))) (seqM (setM 8 (callM f__law_clash (consA (vM 2) (consA (vM 4) nilA)))) (seqM (setM 9 (callM f_first_clash (consA (vM 2) (consA (vM 4) nilA)))) (seqM (setM 10 (callM f_fitting (consA (vM 2) (consA (vM 4) nilA)))) (seqM (ifM (tbM (binM isNF (vM 8) (cM .non))) (retM (andV (binM isNF (vM 9) (cM .non)) (unM (isF "dict") (vM 10)))) (passM)) (seqM (ifM (orM (notM (truM (unM (isF "tuple") (vM 9)))) (orM (tbM (binM ltF (argM lenF (consA (vM 9) nilA)) (cM (.int 2)))) (notM (truM (unM (isF "str") (binM ixF (vM 9) (cM (.int 0)))))))) (retM (cM (.bl false))) (passM)) (retM (andV (binM isNF (vM 10) (cM .non)) (andV (binM eqF (vM 9) (vM 8)) (argM allF (consA (lcM [11] (valI (slM (vM 9) (someP (cM (.int 1))) (noP))) (nameG 11) (yesM) (callM f__law_is_place (consA (vM 11) nilA))) nilA))))))))))))))
noncomputable def F_law_k25 : Nat → Fm
  | 0 => fun _ _ => .bad
  | n + 1 => kPure.f (runM 1 12 (m_law_k25 (F__law_is_place n) (F_fitting n) (F_first_clash n) (F__law_clash n) (F__law_bent_v2 n) (F__law_places_v2 n) (F__law_mixed n) (F__law_filling_v2 n) (F__law_filled n) (F__law_cell_at n) (F__law_numbers n) (F__law_tree_v2 n) (F__law_names_v2 n)))
theorem S_law_k25 (n : Nat) : F_law_k25 (n + 1) = kPure.f (runM 1 12 (m_law_k25 (F__law_is_place n) (F_fitting n) (F_first_clash n) (F__law_clash n) (F__law_bent_v2 n) (F__law_places_v2 n) (F__law_mixed n) (F__law_filling_v2 n) (F__law_filled n) (F__law_cell_at n) (F__law_numbers n) (F__law_tree_v2 n) (F__law_names_v2 n))) := rfl
end DV
namespace DV
open PySem PySem.Spec PyProof.Rows L2
/-- a text's signs in the alphabets -/
abbrev smallS : Str := "abcdefghijklmnopqrstuvwxyz"
abbrev figS : Str := "0123456789"
def okSign (c : Nat) : Bool := decide (c ∈ smallS.cps) || decide (c ∈ figS.cps)
def nameL : List Nat → Bool
  | [] => false
  | c :: r => decide (c ∈ smallS.cps) && r.all okSign
def nameB (s : Str) : Bool := decide (1 ≤ s.length ∧ s.length ≤ 12) && nameL s.cps.toList
theorem str_len (s : Str) : s.length = s.cps.toList.length := by rw [Array.length_toList]; rfl
theorem hL : LIM = 16777216 := rfl
theorem app_len (a b : Str) : (a ++ b).length = a.length + b.length := by
  show (a.cps ++ b.cps).size = _
  rw [Array.size_append]; rfl
theorem cut_len (s : Str) (lo hi : Option Int) : (cutS s lo hi).length ≤ s.length := by
  show Array.size (List.toArray _) ≤ s.cps.size
  rw [List.size_toArray, List.length_take, List.length_drop, Array.length_toList]
  omega
theorem rep_size (s : Str) (k : Nat) : (repS s k).length = s.length * k := by
  show Array.size (List.toArray _) = _
  rw [List.size_toArray, rep_len, ← str_len]
end DV
namespace DV
open PySem PySem.Spec PyProof.Rows L2
inductive Tr where
  | bl (k : Int)
  | bk (s : Str) (ps : List Tr)
def Tr.parts : Tr → List Tr
  | .bl _ => []
  | .bk _ ps => ps
mutual
def tD : Tr → D
  | .bl k => .tup [.str "blank", .int k]
  | .bk s ps => .tup [.str "block", .str s, .tup (tDs ps)]
def tDs : List Tr → List D
  | [] => []
  | t :: ts => tD t :: tDs ts
end
theorem tDs_map : ∀ ts : List Tr, tDs ts = ts.map tD
  | [] => by simp [tDs]
  | t :: ts => by rw [tDs, tDs_map ts]; rfl
@[simp] theorem tDs_len (ts : List Tr) : (tDs ts).length = ts.length := by rw [tDs_map, List.length_map]
theorem tDs_get {ts : List Tr} {i : Nat} {d : D} (e : (tDs ts)[i]? = some d) : ∃ t, ts[i]? = some t ∧ d = tD t := by
  rw [tDs_map, List.getElem?_map] at e
  cases q : ts[i]? with
  | none => rw [q] at e; cases e
  | some t => rw [q] at e; cases e; exact ⟨t, rfl, rfl⟩
mutual
theorem noloc_tD : ∀ t : Tr, noloc (tD t) = true
  | .bl k => rfl
  | .bk s ps => by simp [tD, noloc, nolocL, noloc_tDs ps]
theorem noloc_tDs : ∀ ts : List Tr, nolocL (tDs ts) = true
  | [] => by simp [tDs, nolocL]
  | t :: ts => by simp [tDs, nolocL, noloc_tD t, noloc_tDs ts]
end
mutual
def Tr.knots : Tr → Nat
  | .bl _ => 1
  | .bk _ ps => 1 + knotsL ps
def knotsL : List Tr → Nat
  | [] => 0
  | t :: ts => t.knots + knotsL ts
end
mutual
def Tr.depth : Tr → Nat
  | .bl _ => 1
  | .bk _ ps => 1 + depthL ps
def depthL : List Tr → Nat
  | [] => 0
  | t :: ts => max t.depth (depthL ts)
end
theorem knots_parts (t : Tr) : t.knots = 1 + knotsL t.parts := by cases t <;> simp [Tr.knots, Tr.parts, knotsL]
theorem depth_parts (t : Tr) : t.depth = 1 + depthL t.parts := by cases t <;> simp [Tr.depth, Tr.parts, depthL]
theorem knots_pos (t : Tr) : 1 ≤ t.knots := by rw [knots_parts]; omega
theorem depth_mem {t : Tr} : ∀ {ts : List Tr}, t ∈ ts → t.depth ≤ depthL ts
  | [], h => nomatch h
  | u :: ts, h => by
    rw [depthL]
    rcases List.mem_cons.mp h with rfl | h
    · exact Nat.le_max_left _ _
    · exact Nat.le_trans (depth_mem h) (Nat.le_max_right _ _)
theorem knots_mem {t : Tr} : ∀ {ts : List Tr}, t ∈ ts → t.knots ≤ knotsL ts
  | [], h => nomatch h
  | u :: ts, h => by
    rw [knotsL]
    rcases List.mem_cons.mp h with rfl | h
    · omega
    · have := knots_mem h; omega
theorem knotsL_sum : ∀ ts : List Tr, knotsL ts = (ts.map Tr.knots).sum
  | [] => rfl
  | t :: ts => by rw [knotsL, knotsL_sum ts]; simp
theorem len_knotsL : ∀ ts : List Tr, ts.length ≤ knotsL ts
  | [] => by simp
  | t :: ts => by rw [knotsL]; have := len_knotsL ts; have := knots_pos t; simp; omega
@[simp] theorem ok_block : PyData.strOk "block" = true := by decide +kernel
@[simp] theorem ok_blank : PyData.strOk "blank" = true := by decide +kernel
theorem bk_bl : ¬ ("block" : Str) = "blank" := by decide +kernel
theorem bl_bk : ¬ ("blank" : Str) = "block" := by decide +kernel
@[simp] theorem eq_bl1 {h : Hs} : eqF (.str "blank") (.str "blank") h = some (.bl true, h) := by rw [eq_strs ok_blank ok_blank]; simp
@[simp] theorem eq_bl2 {h : Hs} : eqF (.str "block") (.str "blank") h = some (.bl false, h) := by rw [eq_strs ok_block ok_blank, decide_eq_false bk_bl]
@[simp] theorem eq_bk1 {h : Hs} : eqF (.str "block") (.str "block") h = some (.bl true, h) := by rw [eq_strs ok_block ok_block]; simp
@[simp] theorem eq_bk2 {h : Hs} : eqF (.str "blank") (.str "block") h = some (.bl false, h) := by rw [eq_strs ok_blank ok_block, decide_eq_false bl_bk]
@[simp] theorem at0 {α : Type} {a : α} {l : List α} : atI (a :: l) 0 = some a := by
  have : (0 : Int) = ((0 : Nat) : Int) := rfl
  rw [this, atI_nat (by simp)]; rfl
@[simp] theorem at1 {α : Type} {a b : α} {l : List α} : atI (a :: b :: l) 1 = some b := by
  have : (1 : Int) = ((1 : Nat) : Int) := rfl
  rw [this, atI_nat (by simp)]; rfl
@[simp] theorem at2 {α : Type} {a b c : α} {l : List α} : atI (a :: b :: c :: l) 2 = some c := by
  have : (2 : Int) = ((2 : Nat) : Int) := rfl
  rw [this, atI_nat (by simp)]; rfl
end DV
namespace DV
open PySem PySem.Spec PyProof.Rows L2
abbrev S36 : Str := "abcdefghijklmnopqrstuvwxyz0123456789"
theorem S36_len : S36.cps.toList.length = 36 := by decide +kernel
end DV
namespace DV
open PySem PySem.Spec PyProof.Rows L2
mutual
/-- names, counts of parts and numbers are as the document has them -/
def Tr.good : Tr → Prop
  | .bl k => 1 ≤ k ∧ k ≤ 1000000000
  | .bk s ps => nameB s = true ∧ ps.length ≤ 9 ∧ goodL ps
def goodL : List Tr → Prop
  | [] => True
  | t :: ts => t.good ∧ goodL ts
end
theorem goodL_iff : ∀ {ts : List Tr}, goodL ts ↔ ∀ t ∈ ts, t.good
  | [] => by simp [goodL]
  | t :: ts => by rw [goodL, goodL_iff]; simp
end DV
namespace DV
open PySem PySem.Spec PyProof.Rows L2
abbrev Fr := Str × Nat × List Tr
def fD (f : Fr) : D := .tup [.str f.1, .loc f.2.1]
/-- what stands in the heap: the old things, the names, the cells, the frames and their lists -/
structure FrI (h : Hs) (ns : List Str) (its : List D) (fr : List Fr) (h' : Hs) : Prop where
  pre : h'.take h.length = h
  nam : h'[h.length]? = some (.lst (ns.map D.str))
  cel : h'[h.length + 3]? = some (.lst its)
  frm : h'[h.length + 2]? = some (.lst (fr.map fD))
  par : ∀ f ∈ fr, h'[f.2.1]? = some (.lst (tDs f.2.2))
  dis : (fr.map (·.2.1)).Nodup
  low : ∀ f ∈ fr, h.length ≤ f.2.1 ∧ f.2.1 ≠ h.length ∧ f.2.1 ≠ h.length + 2 ∧ f.2.1 ≠ h.length + 3
section
variable {h h' : Hs} {ns : List Str} {its : List D} {fr : List Fr}
theorem FrI.lt (I : FrI h ns its fr h') : h.length + 3 < h'.length := (List.getElem?_eq_some_iff.mp I.cel).1
theorem FrI.plt (I : FrI h ns its fr h') {f : Fr} (hf : f ∈ fr) : f.2.1 < h'.length := (List.getElem?_eq_some_iff.mp (I.par f hf)).1
theorem take_set_ge {α : Type} {l : List α} {n k : Nat} {a : α} (hk : n ≤ k) : (l.set k a).take n = l.take n := by
  apply List.ext_getElem?
  intro i
  rw [List.getElem?_take, List.getElem?_take]
  split
  · rw [List.getElem?_set_ne (by omega)]
  · rfl
theorem FrI.grow (I : FrI h ns its fr h') (r : Hs) : FrI h ns its fr (h' ++ r) where
  pre := by rw [List.take_append_of_le_length (by have := I.lt; omega)]; exact I.pre
  nam := get_app I.nam
  cel := get_app I.cel
  frm := get_app I.frm
  par := fun f hf => get_app (I.par f hf)
  dis := I.dis
  low := I.low
/-- the frames' list written -/
theorem FrI.put (I : FrI h ns its fr h') (fr2 : List Fr) (hp : ∀ f ∈ fr2, h'[f.2.1]? = some (.lst (tDs f.2.2))) (hd : (fr2.map (·.2.1)).Nodup)
    (hl : ∀ f ∈ fr2, h.length ≤ f.2.1 ∧ f.2.1 ≠ h.length ∧ f.2.1 ≠ h.length + 2 ∧ f.2.1 ≠ h.length + 3) : FrI h ns its fr2 (h'.set (h.length + 2) (.lst (fr2.map fD))) where
  pre := by rw [take_set_ge (by omega)]; exact I.pre
  nam := by rw [List.getElem?_set_ne (by omega)]; exact I.nam
  cel := by rw [List.getElem?_set_ne (by omega)]; exact I.cel
  frm := by rw [List.getElem?_set_self (by have := I.lt; omega)]
  par := fun f hf => by rw [List.getElem?_set_ne (Ne.symm (hl f hf).2.2.1)]; exact hp f hf
  dis := hd
  low := hl
theorem FrI.push (I : FrI h ns its fr h') (s : Str) (ps : List Tr) : FrI h ns its (fr ++ [(s, h'.length, ps)]) ((h' ++ [AO.lst (tDs ps)] : Hs).set (h.length + 2) (.lst ((fr ++ [(s, h'.length, ps)]).map fD))) := by
  refine (I.grow [AO.lst (tDs ps)]).put _ (fun f hf => ?_) ?_ fun f hf => ?_
  · rcases List.mem_append.mp hf with hf | hf
    · exact get_app (I.par f hf)
    · cases List.mem_singleton.mp hf
      simp
  · rw [List.map_append]
    refine List.nodup_append.mpr ⟨I.dis, by simp, fun a ha b hb => ?_⟩
    obtain ⟨g, hg, rfl⟩ := List.mem_map.mp ha
    have : b = h'.length := by simpa using hb
    have := I.plt hg
    omega
  · rcases List.mem_append.mp hf with hf | hf
    · exact I.low f hf
    · cases List.mem_singleton.mp hf
      have := I.lt
      show h.length ≤ h'.length ∧ h'.length ≠ _ ∧ h'.length ≠ _ ∧ h'.length ≠ _
      omega
theorem tDs_app (ps : List Tr) (t : Tr) : tDs ps ++ [tD t] = tDs (ps ++ [t]) := by rw [tDs_map, tDs_map, List.map_append]; rfl
theorem FrI.app {s : Str} {l : Nat} {ps : List Tr} (I : FrI h ns its (fr ++ [(s, l, ps)]) h') (t : Tr) : FrI h ns its (fr ++ [(s, l, ps ++ [t])]) (h'.set l (.lst (tDs (ps ++ [t])))) := by
  have mem : (s, l, ps) ∈ fr ++ [(s, l, ps)] := by simp
  obtain ⟨l1, l2, l3, l4⟩ := I.low _ mem
  have ll := I.plt mem
  simp only at l1 l2 l3 l4 ll
  have dd : ∀ g ∈ fr, g.2.1 ≠ l := fun g hg z => by
    have := I.dis
    rw [List.map_append] at this
    exact (List.nodup_append.mp this).2.2 g.2.1 (List.mem_map.mpr ⟨g, hg, rfl⟩) l (by simp) z
  refine ⟨by rw [take_set_ge l1]; exact I.pre, by rw [List.getElem?_set_ne l2]; exact I.nam, by rw [List.getElem?_set_ne l4]; exact I.cel, ?_, fun f hf => ?_, ?_, fun f hf => ?_⟩
  · rw [List.getElem?_set_ne l3, I.frm, List.map_append, List.map_append]; rfl
  · rcases List.mem_append.mp hf with hf | hf
    · rw [List.getElem?_set_ne (Ne.symm (dd f hf))]; exact I.par f (List.mem_append_left _ hf)
    · cases List.mem_singleton.mp hf
      rw [List.getElem?_set_self ll]
  · have := I.dis
    rw [List.map_append] at this ⊢
    exact this
  · rcases List.mem_append.mp hf with hf | hf
    · exact I.low f (List.mem_append_left _ hf)
    · cases List.mem_singleton.mp hf
      exact ⟨l1, l2, l3, l4⟩
end
theorem depthL_le {ps : List Tr} {n : Nat} : depthL ps ≤ n ↔ ∀ t ∈ ps, t.depth ≤ n := by
  induction ps with
  | nil => simp [depthL]
  | cons t ts ih => rw [depthL, Nat.max_le, ih]; simp
/-- the trees in frames: good, few; the lowest first -/
structure FrT (w : Nat) (fr : List Fr) (top : Fr) : Prop where
  nm : ∀ f ∈ fr ++ [top], nameB f.1 = true ∧ ∀ t ∈ f.2.2, t.good
  few : ∀ f ∈ fr, f.2.2.length ≤ 8
  few1 : top.2.2.length ≤ 9
  len : fr.length ≤ 9
  dep : ∀ j f, (fr ++ [top])[j]? = some f → ∀ t ∈ f.2.2, t.depth + j ≤ 10 + w
section
variable {w : Nat} {fr : List Fr} {top g : Fr}
theorem FrT.good (T : FrT w fr top) : (Tr.bk top.1 top.2.2).good := by
  have := T.nm top (by simp)
  exact ⟨this.1, T.few1, goodL_iff.mpr this.2⟩
theorem FrT.depth (T : FrT w fr top) : (Tr.bk top.1 top.2.2).depth + fr.length ≤ 11 + w := by
  have : depthL top.2.2 + fr.length ≤ 10 + w := by
    by_cases z : fr.length ≤ 10 + w
    · have := depthL_le.mpr (fun t ht => by have := T.dep fr.length top (by simp) t ht; show t.depth ≤ 10 + w - fr.length; omega)
      omega
    · have := T.len; omega
  rw [Tr.depth]; omega
end
end DV
namespace DV
open PySem PySem.Spec PyProof.Rows L2
theorem tup_loc {h : Hs} {l : Nat} {xs : List D} (e : h[l]? = some (.lst xs)) : tupT [.loc l] h = some (.tup xs, h) := by simp [tupT, e]
end DV
namespace DV
open PySem PySem.Spec PyProof.Rows L2
mutual
def Tr.places : Tr → List (List Nat × Tr)
  | .bl k => [([], .bl k)]
  | .bk s ps => ([], .bk s ps) :: placesL 0 ps
def placesL (k : Nat) : List Tr → List (List Nat × Tr)
  | [] => []
  | t :: ts => (t.places.map fun p => (k :: p.1, p.2)) ++ placesL (k + 1) ts
end
theorem places_parts (t : Tr) : t.places = ([], t) :: placesL 0 t.parts := by cases t <;> simp [Tr.places, Tr.parts, placesL]
def plInts (p : List Nat) : List D := p.map fun (k : Nat) => D.int (k : Int)
def plD (p : List Nat × Tr) : D := .tup [.tup (plInts p.1), tD p.2]
theorem noloc_pl (p : List Nat) : nolocL (plInts p) = true := by
  induction p with
  | nil => rfl
  | cons k p ih => simp [plInts, nolocL, noloc] at ih ⊢; exact ih
theorem noloc_pls (ps : List (List Nat × Tr)) : nolocL (ps.map plD) = true := by
  induction ps with
  | nil => rfl
  | cons p ps ih => simp [nolocL, noloc, plD, noloc_pl, noloc_tD, ih]
mutual
theorem places_len : ∀ t : Tr, t.places.length = t.knots
  | .bl k => by simp [Tr.places, Tr.knots]
  | .bk s ps => by rw [Tr.places, Tr.knots, List.length_cons, placesL_len ps 0]; omega
theorem placesL_len : ∀ (ts : List Tr) (k : Nat), (placesL k ts).length = knotsL ts
  | [], k => by simp [placesL, knotsL]
  | t :: ts, k => by rw [placesL, List.length_append, List.length_map, places_len t, placesL_len ts, knotsL]
end
@[simp] theorem rng3_int {i j : Int} : rng3 [.int i, .int j, .int (-1)] = if inR i = true ∧ inR j = true then some ((List.range (i - j).toNat).map fun (t : Nat) => .int (i - (t : Int))) else none := by
  unfold rng3
  simp
mutual
theorem place_len : ∀ (t : Tr) (p : List Nat × Tr), p ∈ t.places → p.1.length + p.2.depth ≤ t.depth
  | .bl k, p, h => by
    rw [Tr.places] at h
    cases List.mem_singleton.mp h
    simp [Tr.depth]
  | .bk s ps, p, h => by
    rw [Tr.places] at h
    rcases List.mem_cons.mp h with rfl | h
    · simp
    · have := placeL_len ps 0 p h
      rw [Tr.depth]; omega
theorem placeL_len : ∀ (ts : List Tr) (k : Nat) (p : List Nat × Tr), p ∈ placesL k ts → p.1.length + p.2.depth ≤ 1 + depthL ts
  | [], k, p, h => by rw [placesL] at h; exact nomatch h
  | t :: ts, k, p, h => by
    rw [placesL] at h
    rw [depthL]
    rcases List.mem_append.mp h with h | h
    · obtain ⟨q, hq, rfl⟩ := List.mem_map.mp h
      have := place_len t q hq
      simp only [List.length_cons]
      omega
    · have := placeL_len ts (k + 1) p h
      omega
end
mutual
theorem depth_knots : ∀ t : Tr, t.depth ≤ t.knots
  | .bl k => by simp [Tr.depth, Tr.knots]
  | .bk s ps => by rw [Tr.depth, Tr.knots]; have := depthL_knots ps; omega
theorem depthL_knots : ∀ ts : List Tr, depthL ts ≤ knotsL ts
  | [] => Nat.le_refl _
  | t :: ts => by rw [depthL, knotsL]; have := depth_knots t; have := depthL_knots ts; omega
end
end DV
namespace DV
open PySem PySem.Spec PyProof.Rows L2
mutual
theorem dep_tD : ∀ t : Tr, depD (tD t) ≤ 2 * t.depth
  | .bl k => by simp [tD, depD, depL, Tr.depth]
  | .bk s ps => by
    have := dep_tDs ps
    simp [tD, depD, depL, Tr.depth]
    omega
theorem dep_tDs : ∀ ts : List Tr, depL (tDs ts) ≤ 2 * depthL ts
  | [] => by simp [tDs, depL]
  | t :: ts => by
    have := dep_tD t
    have := dep_tDs ts
    simp only [tDs, depL, depthL]
    omega
end
end DV
namespace DV
open PySem PySem.Spec PyProof.Rows L2
@[simp] theorem ix_ro {h : Hs} {ns : List Int} {i : Int} : ixF (.ro ns) (.int i) h = (atI ns i).map fun n => (.int n, h) := rfl
def cellI (ns : List Int) (k : Nat) : Int := (ns[k]?).getD 0
theorem cell_ok (n : Nat) (h : Hs) (ns : List Int) (k : Nat) : F__law_cell_at (n + 1) [.ro ns, .int k] h = .ok (.int (cellI ns k)) h := by
  rw [S__law_cell_at]
  refine R.wp_eq.mp ?_
  by_cases c : k < ns.length
  · have e : atI ns (k : Int) = some ns[k] := by rw [atI_nat c, List.getElem?_eq_getElem c]
    have e2 : cellI ns k = ns[k] := by unfold cellI; rw [List.getElem?_eq_getElem c]; rfl
    simp [wp_pure, wp_run, m__law_cell_at, startD, wp_v, c, e, e2, noloc]
  · have e2 : cellI ns k = 0 := by unfold cellI; rw [List.getElem?_eq_none (by omega)]; rfl
    simp [wp_pure, wp_run, m__law_cell_at, startD, wp_v, c, e2, noloc]
theorem cell0_ok (n : Nat) (h : Hs) (ns : List Int) : F__law_cell_at (n + 1) [.ro ns, .int 0] h = .ok (.int (cellI ns 0)) h := cell_ok n h ns 0
theorem slF_ro {h : Hs} {ns : List Int} {lo hi : Option Int} : slF (.ro ns) lo hi h = some (.loc h.length, h ++ [.lst ((cutL ns lo hi).map D.int)]) := rfl
theorem slF_tup {h : Hs} {xs : List D} {lo hi : Option Int} : slF (.tup xs) lo hi h = some (.tup (cutL xs lo hi), h) := rfl
theorem cut_to {α : Type} (xs : List α) (k : Nat) : cutL xs none (some (k : Int)) = xs.take k := by
  unfold cutL
  have e1 : HT.sIx xs.length 0 none = 0 := rfl
  rw [e1, HT.sIx_nat, List.drop_zero, Nat.sub_zero, ← List.take_take, List.take_length]
theorem cut_from {α : Type} (xs : List α) (k : Nat) : cutL xs (some (k : Int)) none = xs.drop k := by
  unfold cutL
  have e1 : HT.sIx xs.length xs.length none = xs.length := rfl
  rw [e1, HT.sIx_nat]
  by_cases c : k ≤ xs.length
  · rw [Nat.min_eq_left c]
    exact List.take_of_length_le (by rw [List.length_drop]; omega)
  · rw [Nat.min_eq_right (by omega), List.drop_length, List.drop_eq_nil_of_le (by omega)]; simp
@[simp] theorem p109 : cPow 10 9 = true := cPow_of (by decide) (by decide) (by decide)
@[simp] theorem p108 : cPow 10 8 = true := cPow_of (by decide) (by decide) (by decide)
@[simp] theorem p106 : cPow 10 6 = true := cPow_of (by decide) (by decide) (by decide)
@[simp] theorem m109 (i : Int) : cMod i 1000000000 = true := cMod_of (by decide)
/-- equality of places -/
theorem plInts_inj : ∀ {a b : List Nat}, plInts a = plInts b ↔ a = b
  | [], [] => by simp
  | [], _ :: _ => by simp [plInts]
  | _ :: _, [] => by simp [plInts]
  | x :: a, y :: b => by
    have := plInts_inj (a := a) (b := b)
    simp only [plInts, List.map_cons, List.cons.injEq] at this ⊢
    rw [this]
    simp
    intro _
    omega
theorem pyOk_pl (p : List Nat) : pyOkL (plInts p) = true := by
  induction p with
  | nil => rfl
  | cons k p ih => simp [plInts, pyOkL, pyOk] at ih ⊢; exact ih
theorem dep_pl (p : List Nat) : depL (plInts p) = 0 := by
  induction p with
  | nil => rfl
  | cons k p ih => simp [plInts, depL, depD] at ih ⊢; exact ih
theorem eq_pl {h : Hs} (a b : List Nat) : eqF (.tup (plInts a)) (.tup (plInts b)) h = some (.bl (decide (a = b)), h) := by
  have e : (D.tup (plInts a) = D.tup (plInts b)) ↔ a = b := by rw [D.tup.injEq]; exact plInts_inj
  have := Classical.propDecidable (D.tup (plInts a) = D.tup (plInts b))
  rw [eq_of (by unfold pyOk; exact pyOk_pl a) (by unfold pyOk; exact pyOk_pl b) (by unfold depD; rw [dep_pl]; omega)]
  simp [e]
@[simp] theorem pl_len (p : List Nat) : (plInts p).length = p.length := by simp [plInts]
end DV
namespace DV
open PySem PySem.Spec PyProof.Rows L2
def Tr.at_ : Tr → List Int → Option Tr
  | t, [] => some t
  | t, k :: p => if 0 ≤ k ∧ k < t.parts.length then (t.parts[k.toNat]?).bind fun u => u.at_ p else none
theorem at_nil (t : Tr) : t.at_ [] = some t := by unfold Tr.at_; rfl
theorem at_cons (t : Tr) (k : Int) (p : List Int) : t.at_ (k :: p) = if 0 ≤ k ∧ k < t.parts.length then (t.parts[k.toNat]?).bind fun u => u.at_ p else none := by rw [Tr.at_]
theorem at_snoc : ∀ (p : List Int) (t : Tr) (k : Int), t.at_ (p ++ [k]) = (t.at_ p).bind fun u => u.at_ [k]
  | [], t, k => rfl
  | j :: p, t, k => by
    rw [List.cons_append, at_cons, at_cons]
    split
    · cases t.parts[j.toNat]? with
      | none => rfl
      | some u => simp only [Option.bind_some]; exact at_snoc p u k
    · rfl
theorem at_app : ∀ (p q : List Int) (t : Tr), t.at_ (p ++ q) = (t.at_ p).bind fun u => u.at_ q
  | [], q, t => rfl
  | j :: p, q, t => by
    rw [List.cons_append, at_cons, at_cons]
    split
    · cases t.parts[j.toNat]? with
      | none => rfl
      | some u => simp only [Option.bind_some]; exact at_app p q u
    · rfl
def plZ (p : List Int) : List D := p.map D.int
theorem plInts_Z (p : List Nat) : plInts p = plZ (p.map fun (k : Nat) => (k : Int)) := by simp [plInts, plZ]
mutual
theorem places_at : ∀ (t : Tr) (q : List Nat × Tr), q ∈ t.places → t.at_ (q.1.map fun (k : Nat) => (k : Int)) = some q.2
  | .bl k, q, h => by
    rw [Tr.places] at h
    cases List.mem_singleton.mp h
    simp [Tr.at_]
  | .bk s ps, q, h => by
    rw [Tr.places] at h
    rcases List.mem_cons.mp h with rfl | h
    · simp [Tr.at_]
    · obtain ⟨k, p, u, e, hu, ha⟩ := placesL_at ps 0 q h
      rw [e]
      have hk := (List.getElem?_eq_some_iff.mp hu).1
      simp only [List.map_cons]
      unfold Tr.at_
      rw [if_pos ⟨by omega, by simp only [Tr.parts]; omega⟩]
      have e2 : ((0 + k : Nat) : Int).toNat = k := by omega
      rw [e2, Tr.parts, hu]
      exact ha
theorem placesL_at : ∀ (ts : List Tr) (j : Nat) (q : List Nat × Tr), q ∈ placesL j ts → ∃ k p u, q.1 = (j + k) :: p ∧ ts[k]? = some u ∧ u.at_ (p.map fun (k : Nat) => (k : Int)) = some q.2
  | [], j, q, h => by rw [placesL] at h; exact nomatch h
  | t :: ts, j, q, h => by
    rw [placesL] at h
    rcases List.mem_append.mp h with h | h
    · obtain ⟨r, hr, rfl⟩ := List.mem_map.mp h
      exact ⟨0, r.1, t, rfl, rfl, places_at t r hr⟩
    · obtain ⟨k, p, u, e, hu, ha⟩ := placesL_at ts (j + 1) q h
      exact ⟨k + 1, p, u, by rw [e]; congr 1; omega, by simpa using hu, ha⟩
end
theorem placesL_app : ∀ (a b : List Tr) (k : Nat), placesL k (a ++ b) = placesL k a ++ placesL (k + a.length) b
  | [], b, k => rfl
  | t :: a, b, k => by
    rw [List.cons_append, placesL, placesL, placesL_app a b (k + 1), List.append_assoc]
    congr 2
    simp only [List.length_cons]
    congr 1
    omega
end DV
namespace DV
open PySem PySem.Spec PyProof.Rows L2
end DV
namespace DV
open PySem PySem.Spec PyProof.Rows L2
/-- those not yet there, one behind the other -/
def addNew : List Int → List Int → List Int
  | acc, [] => acc
  | acc, k :: ks => addNew (if k ∈ acc then acc else acc ++ [k]) ks
mutual
def Tr.blanks : Tr → List Int
  | .bl k => [k]
  | .bk _ ps => blanksL [] ps
def blanksL (acc : List Int) : List Tr → List Int
  | [] => acc
  | t :: ts => blanksL (addNew acc t.blanks) ts
end
mutual
/-- all blanks as they stand -/
def Tr.allB : Tr → List Int
  | .bl k => [k]
  | .bk _ ps => allBL ps
def allBL : List Tr → List Int
  | [] => []
  | t :: ts => t.allB ++ allBL ts
end
theorem addNew_app : ∀ (xs ys acc : List Int), addNew acc (xs ++ ys) = addNew (addNew acc xs) ys
  | [], ys, acc => rfl
  | x :: xs, ys, acc => by rw [List.cons_append, addNew, addNew, addNew_app xs ys]
theorem mem_addNew {k : Int} : ∀ (xs acc : List Int), k ∈ addNew acc xs ↔ k ∈ acc ∨ k ∈ xs
  | [], acc => by simp [addNew]
  | x :: xs, acc => by
    rw [addNew, mem_addNew xs]
    split
    · rename_i h
      constructor
      · rintro (a | a)
        · exact .inl a
        · exact .inr (List.mem_cons_of_mem _ a)
      · rintro (a | a)
        · exact .inl a
        · rcases List.mem_cons.mp a with rfl | a
          · exact .inl h
          · exact .inr a
    · simp only [List.mem_append, List.mem_cons, List.not_mem_nil, or_false]
      constructor
      · rintro ((a | a) | a)
        · exact .inl a
        · exact .inr (.inl a)
        · exact .inr (.inr a)
      · rintro (a | a | a)
        · exact .inl (.inl a)
        · exact .inl (.inr a)
        · exact .inr a
/-- adding what was gathered apart is adding all -/
theorem addNew_gather : ∀ (xs acc b : List Int), addNew acc (addNew b xs) = addNew (addNew acc b) xs
  | [], acc, b => rfl
  | x :: xs, acc, b => by
    rw [addNew, addNew, addNew_gather xs acc]
    congr 1
    split
    · rename_i h
      rw [if_pos ((mem_addNew b acc).mpr (.inr h))]
    · rw [addNew_app]
      rfl
theorem nodup_addNew : ∀ (xs acc : List Int), acc.Nodup → (addNew acc xs).Nodup
  | [], acc, h => h
  | x :: xs, acc, h => by
    rw [addNew]
    refine nodup_addNew xs _ ?_
    split
    · exact h
    · rename_i hx
      refine List.nodup_append.mpr ⟨h, by simp, fun a ha b hb e => hx ?_⟩
      have e2 : b = x := by simpa using hb
      rw [e2] at e
      rw [← e]
      exact ha
mutual
theorem blanks_all : ∀ t : Tr, t.blanks = addNew [] t.allB
  | .bl k => by simp [Tr.blanks, Tr.allB, addNew]
  | .bk s ps => by rw [Tr.blanks, Tr.allB, blanksL_all ps]
theorem blanksL_all : ∀ (ts : List Tr) (acc : List Int), blanksL acc ts = addNew acc (allBL ts)
  | [], acc => by simp [blanksL, allBL, addNew]
  | t :: ts, acc => by
    rw [blanksL, allBL, blanksL_all ts, addNew_app, blanks_all t, addNew_gather]
    rfl
end
theorem blanks_nodup (t : Tr) : t.blanks.Nodup := by rw [blanks_all]; exact nodup_addNew _ _ List.nodup_nil
mutual
theorem allB_len : ∀ t : Tr, t.allB.length ≤ t.knots
  | .bl k => by simp [Tr.allB, Tr.knots]
  | .bk s ps => by rw [Tr.allB, Tr.knots]; have := allBL_len ps; omega
theorem allBL_len : ∀ ts : List Tr, (allBL ts).length ≤ knotsL ts
  | [] => by simp [allBL]
  | t :: ts => by rw [allBL, knotsL, List.length_append]; have := allB_len t; have := allBL_len ts; omega
end
theorem addNew_len : ∀ (xs acc : List Int), (addNew acc xs).length ≤ acc.length + xs.length
  | [], acc => by simp [addNew]
  | x :: xs, acc => by
    rw [addNew]
    have := addNew_len xs (if x ∈ acc then acc else acc ++ [x])
    split at this <;> (simp at this ⊢; rename_i h; simp [h]; omega)
theorem blanks_len (t : Tr) : t.blanks.length ≤ t.knots := by
  rw [blanks_all]
  have h1 := addNew_len t.allB []
  have h2 := allB_len t
  rw [List.length_nil] at h1
  omega
theorem blanksL_snoc (u : Tr) : ∀ (ts : List Tr) (acc : List Int), blanksL acc (ts ++ [u]) = addNew (blanksL acc ts) u.blanks
  | [], acc => by simp [blanksL]
  | t :: ts, acc => by rw [List.cons_append, blanksL, blanksL, blanksL_snoc u ts]
theorem ints_flat (xs : List Int) : (xs.map D.int).all flatD = true := by
  rw [List.all_map]
  exact List.all_eq_true.mpr fun _ _ => rfl
theorem inFlat_ints (k : Int) : ∀ xs : List Int, inFlat (.int k) (xs.map D.int) = decide (k ∈ xs)
  | [] => by simp [inFlat]
  | x :: xs => by
    have ih := inFlat_ints k xs
    unfold inFlat at ih ⊢
    rw [List.map_cons, List.any_cons, ih]
    show ((x == k) || _) = _
    by_cases c : k = x
    · subst c; simp
    · have : (x == k) = false := by simpa using Ne.symm c
      rw [this]
      simp [c]
theorem nin_ints {h : Hs} {l : Nat} {xs : List Int} {k : Int} (e : h[l]? = some (.lst (xs.map D.int))) : ninF (.int k) (.loc l) h = some (.bl (!decide (k ∈ xs)), h) := by
  simp only [ninF, inB, e, ints_flat, inFlat_ints, flatD, Bool.and_self, if_true]
  rfl
theorem noloc_ints (xs : List Int) : nolocL (xs.map D.int) = true := by
  induction xs with
  | nil => rfl
  | cons x xs ih => simp [nolocL, noloc, ih]
theorem blanks_of_ok : ∀ (n : Nat) (h : Hs) (t : Tr), t.depth ≤ n → t.knots ≤ 1000000 → F_blanks_of n [tD t] h = .ok (.loc h.length) (h ++ [.lst (t.blanks.map D.int)])
  | 0, h, t, hn, _ => by rw [depth_parts] at hn; omega
  | n + 1, h, .bl k, hn, hk => by
    rw [S_blanks_of]
    refine R.wp_eq.mp (wp_new ?_)
    simp [wp_run, m_blanks_of, startD, wp_v, tD, nolocO, nolocL, noloc, Tr.blanks]
  | n + 1, h, .bk s ps, hn, hk => by
    rw [S_blanks_of]
    refine R.wp_eq.mp (wp_new ?_)
    rw [Tr.depth] at hn
    rw [Tr.knots] at hk
    simp [wp_run, m_blanks_of, startD, wp_v, tD]
    obtain ⟨J, hJ⟩ : ∃ J : Nat → Sl → Hs → Prop, J = fun i ds h' => ∃ r b c, h' = h ++ (.lst ((blanksL [] (ps.take i)).map D.int) :: r) ∧ ds = [some (tD (.bk s ps)), some (.loc h.length), b, c] := ⟨_, rfl⟩
    have start : J 0 [some (tD (.bk s ps)), some (.loc h.length), none, none] (h ++ [.lst []]) := by rw [hJ]; exact ⟨[], _, _, rfl, rfl⟩
    simp [tD] at start
    refine ws_loop _ J start (fun _ _ _ _ => trivial) ?_ ?_
    · intro i d ds h' hd hj
      rw [hJ] at hj
      obtain ⟨r, b, c, rfl, rfl⟩ := hj
      obtain ⟨u, hu, rfl⟩ := tDs_get hd
      have mu := List.mem_of_getElem? hu
      have du := depth_mem mu
      have ku := knots_mem mu
      have ih := blanks_of_ok n (h ++ (.lst ((blanksL [] (ps.take i)).map D.int) :: r)) u (by omega) (by omega)
      have e1 : ps.take (i + 1) = ps.take i ++ [u] := by rw [List.take_add_one, hu]; rfl
      have e2 : blanksL [] (ps.take (i + 1)) = addNew (blanksL [] (ps.take i)) u.blanks := by rw [e1, blanksL_snoc]
      have al : (blanksL [] (ps.take i)).length ≤ 1000000 := by
        have a1 := blanks_len (.bk s (ps.take i))
        rw [Tr.blanks, Tr.knots] at a1
        have a2 : knotsL (ps.take i) ≤ knotsL ps := by
          rw [knotsL_sum, knotsL_sum]
          have : (ps.map Tr.knots).sum = ((ps.take i).map Tr.knots).sum + ((ps.drop i).map Tr.knots).sum := by
            rw [← List.sum_append, ← List.map_append, List.take_append_drop]
          omega
        omega
      have bl := blanks_len u
      generalize blanksL [] (ps.take i) = acc at ih e2 al ⊢
      have gi : ∀ (x : AO), (h ++ (x :: (r ++ [AO.lst (u.blanks.map D.int)])))[h.length + (r.length + 1)]? = some (.lst (u.blanks.map D.int)) := fun x => by simp
      have ii := its_lst (gi (.lst (acc.map D.int)))
      simp at ih
      simp [wp_v, ih, ii]
      obtain ⟨G, hG⟩ : ∃ G : Nat → Sl → Hs → Prop, G = fun k ds h' => ∃ c, h' = h ++ (.lst ((addNew acc (u.blanks.take k)).map D.int) :: (r ++ [AO.lst (u.blanks.map D.int)])) ∧ ds = [some (tD (.bk s ps)), some (.loc h.length), some (tD u), c] := ⟨_, rfl⟩
      have startG : G 0 [some (tD (.bk s ps)), some (.loc h.length), some (tD u), c] (h ++ (.lst (acc.map D.int) :: (r ++ [AO.lst (u.blanks.map D.int)]))) := by rw [hG]; exact ⟨_, rfl, rfl⟩
      refine ws_loop _ G startG (fun k ds h' j => by rw [hG] at j; obtain ⟨_, rfl, _⟩ := j; exact gi _) ?_ ?_
      · intro k d ds h' hd hj
        rw [hG] at hj
        obtain ⟨c, rfl, rfl⟩ := hj
        rw [List.getElem?_map] at hd
        cases q : u.blanks[k]? with
        | none => rw [q] at hd; cases hd
        | some x =>
          rw [q] at hd
          cases hd
          have e3 : u.blanks.take (k + 1) = u.blanks.take k ++ [x] := by rw [List.take_add_one, q]; rfl
          have e4 : addNew acc (u.blanks.take (k + 1)) = if x ∈ addNew acc (u.blanks.take k) then addNew acc (u.blanks.take k) else addNew acc (u.blanks.take k) ++ [x] := by rw [e3, addNew_app]; rfl
          have ln := addNew_len (u.blanks.take k) acc
          rw [List.length_take] at ln
          generalize addNew acc (u.blanks.take k) = A at e4 ln ⊢
          have gA : (h ++ (AO.lst (A.map D.int) :: (r ++ [AO.lst (u.blanks.map D.int)])))[h.length]? = some (.lst (A.map D.int)) := by simp
          have ck := ck_lst gA
          have app := append_lst (v := .int x) gA (by simp; omega)
          simp at app
          by_cases z : x ∈ A
          · have fin : G (k + 1) [some (tD (.bk s ps)), some (.loc h.length), some (tD u), some (.int x)] (h ++ (.lst (A.map D.int) :: (r ++ [AO.lst (u.blanks.map D.int)]))) := by
              rw [hG]; exact ⟨_, by rw [e4, if_pos z], rfl⟩
            simp [wp_v, nin_ints gA, z]
            exact fin
          · have fin : G (k + 1) [some (tD (.bk s ps)), some (.loc h.length), some (tD u), some (.int x)] (h ++ (.lst (A.map D.int ++ [.int x]) :: (r ++ [AO.lst (u.blanks.map D.int)]))) := by
              rw [hG]; exact ⟨_, by rw [e4, if_neg z, List.map_append]; rfl, rfl⟩
            simp [wp_v, nin_ints gA, z, ck, app]
            exact fin
      · intro ds h' hj
        rw [hG] at hj
        obtain ⟨c, rfl, rfl⟩ := hj
        rw [List.length_map, List.take_length, ← e2]
        rw [hJ]
        exact ⟨_, _, _, rfl, rfl⟩
    · intro ds h' hj
      rw [hJ] at hj
      obtain ⟨r, b, c, rfl, rfl⟩ := hj
      rw [tDs_len, List.take_length]
      simp [wp_v, nolocO, noloc_ints, Tr.blanks]
theorem dep_ints (xs : List Int) : depL (xs.map D.int) = 0 := by
  induction xs with
  | nil => rfl
  | cons x xs ih => simp [depL, depD, ih]
end DV
namespace DV
open PySem PySem.Spec PyProof.Rows L2
section
variable {α : Type}
def mD (f : α → D) (fs : List (Int × α)) : List (Key × D) := fs.map fun p => (.inl p.1, f p.2)
def mAt (fs : List (Int × α)) (k : Int) : Option α := (fs.find? fun p => decide (p.1 = k)).map (·.2)
def mPut (fs : List (Int × α)) (k : Int) (t : α) : List (Int × α) := if (fs.any fun p => decide (p.1 = k)) = true then fs.map (fun p => if p.1 = k then (p.1, t) else p) else fs ++ [(k, t)]
@[simp] theorem mD_len (f : α → D) (fs : List (Int × α)) : (mD f fs).length = fs.length := List.length_map _
theorem val_mD (f : α → D) (k : Int) : ∀ fs : List (Int × α), valD (mD f fs) (.inl k : Key) = (mAt fs k).map f
  | [] => rfl
  | (j, a) :: fs => by
    have ih := val_mD f k fs
    unfold valD mAt mD at ih ⊢
    rw [List.map_cons, List.find?_cons, List.find?_cons]
    by_cases c : j = k
    · subst c; simp
    · simp only [c, Sum.inl.injEq, decide_false]
      exact ih
theorem put_mD (f : α → D) (fs : List (Int × α)) (k : Int) (t : α) : putD (mD f fs) (.inl k : Key) (f t) = mD f (mPut fs k t) := by
  have e : ((mD f fs).any fun p => decide (p.1 = (.inl k : Key))) = fs.any fun p => decide (p.1 = k) := by
    unfold mD
    rw [List.any_map]
    congr 1
    funext p
    simp
  unfold putD mPut
  rw [e]
  split
  · unfold mD
    rw [List.map_map, List.map_map]
    congr 1
    funext p
    simp only [Function.comp_apply, Sum.inl.injEq]
    split <;> rfl
  · unfold mD
    rw [List.map_append]; rfl
theorem mAt_cons (j k : Int) (a : α) (fs : List (Int × α)) : mAt ((j, a) :: fs) k = if j = k then some a else mAt fs k := by
  unfold mAt
  rw [List.find?_cons]
  by_cases c : j = k
  · simp [c]
  · simp [c]
theorem mAt_app (xs ys : List (Int × α)) (k : Int) : mAt (xs ++ ys) k = (mAt xs k).or (mAt ys k) := by
  induction xs with
  | nil => simp [mAt]
  | cons p xs ih =>
    obtain ⟨j, a⟩ := p
    rw [List.cons_append, mAt_cons, mAt_cons, ih]
    split <;> rfl
theorem mAt_none {fs : List (Int × α)} {k : Int} : mAt fs k = none ↔ k ∉ fs.map (·.1) := by
  induction fs with
  | nil => simp [mAt]
  | cons p fs ih =>
    obtain ⟨j, a⟩ := p
    rw [mAt_cons]
    by_cases c : j = k
    · simp [c]
    · have : ¬ k = j := fun e => c e.symm
      simp [c, ih, this]
theorem mAt_mem {fs : List (Int × α)} {k : Int} {a : α} (h : mAt fs k = some a) : (k, a) ∈ fs := by
  induction fs with
  | nil => simp [mAt] at h
  | cons p fs ih =>
    obtain ⟨j, b⟩ := p
    rw [mAt_cons] at h
    split at h
    · rename_i c
      cases h
      rw [c]; exact List.mem_cons_self
    · exact List.mem_cons_of_mem _ (ih h)
theorem any_key {fs : List (Int × α)} {k : Int} : (fs.any fun p => decide (p.1 = k)) = decide (k ∈ fs.map (·.1)) := by
  induction fs with
  | nil => rfl
  | cons p fs ih =>
    rw [List.any_cons, ih]
    by_cases c : p.1 = k
    · simp [c]
    · have : ¬ k = p.1 := fun e => c e.symm
      simp [c, this]
theorem mPut_new {fs : List (Int × α)} {k : Int} {a : α} (h : k ∉ fs.map (·.1)) : mPut fs k a = fs ++ [(k, a)] := by
  unfold mPut
  rw [any_key, decide_eq_false h]; rfl
theorem mPut_keys (fs : List (Int × α)) (k : Int) (a : α) : (mPut fs k a).map (·.1) = if k ∈ fs.map (·.1) then fs.map (·.1) else fs.map (·.1) ++ [k] := by
  unfold mPut
  rw [any_key]
  by_cases c : k ∈ fs.map (·.1)
  · rw [decide_eq_true c, if_pos rfl, if_pos c, List.map_map]
    congr 1
    funext p
    simp only [Function.comp_apply]
    split <;> rfl
  · rw [decide_eq_false c, if_neg (by simp), if_neg c, List.map_append]; rfl
theorem mPut_nodup {fs : List (Int × α)} (k : Int) (a : α) (nd : (fs.map (·.1)).Nodup) : ((mPut fs k a).map (·.1)).Nodup := by
  rw [mPut_keys]
  split
  · exact nd
  · rename_i c
    refine List.nodup_append.mpr ⟨nd, by simp, fun x hx y hy e => c ?_⟩
    have : y = k := by simpa using hy
    rw [← this, ← e]; exact hx
end
mutual
def Tr.fill (f : Int → Option Tr) : Tr → Tr
  | .bl k => (f k).getD (.bl k)
  | .bk s ps => .bk s (fillL f ps)
def fillL (f : Int → Option Tr) : List Tr → List Tr
  | [] => []
  | t :: ts => t.fill f :: fillL f ts
end
theorem fillL_map (f : Int → Option Tr) : ∀ ts : List Tr, fillL f ts = ts.map (Tr.fill f)
  | [] => rfl
  | t :: ts => by rw [fillL, fillL_map f ts]; rfl
@[simp] theorem fillL_len (f : Int → Option Tr) (ts : List Tr) : (fillL f ts).length = ts.length := by rw [fillL_map, List.length_map]
theorem tDs_mapF (f : Int → Option Tr) (ts : List Tr) : tDs (fillL f ts) = ts.map fun t => tD (t.fill f) := by
  rw [fillL_map, tDs_map, List.map_map]; rfl
theorem exchanged_ok : ∀ (n : Nat) (h : Hs) (l : Nat) (fs : List (Int × Tr)) (t : Tr), h[l]? = some (.dct (mD tD fs)) → t.depth ≤ n → t.knots ≤ 1000000 → F_exchanged n [tD t, .loc l] h = .ok (tD (t.fill (mAt fs))) h
  | 0, h, l, fs, t, _, hn, _ => by rw [depth_parts] at hn; omega
  | n + 1, h, l, fs, .bl k, e, _, _ => by
    rw [S_exchanged]
    refine R.wp_eq.mp ?_
    have g := get_dct (x := tD (.bl k)) (k := .int k) (kk := .inl k) e rfl
    rw [val_mD] at g
    have e2 : ((mAt fs k).map tD).getD (tD (.bl k)) = tD ((Tr.bl k).fill (mAt fs)) := by
      rw [Tr.fill]
      cases mAt fs k <;> rfl
    rw [e2] at g
    have nl := noloc_tD ((Tr.bl k).fill (mAt fs))
    generalize tD ((Tr.bl k).fill (mAt fs)) = d at g nl ⊢
    simp [tD] at g
    simp [wp_pure, wp_run, m_exchanged, startD, wp_v, tD, ck_dct e, g, nl]
  | n + 1, h, l, fs, .bk s ps, e, hn, hk => by
    have hl := len_knotsL ps
    rw [Tr.depth] at hn
    rw [Tr.knots] at hk
    have lc := lc_map1 (h0 := h) (gd := fun _ => True) (i := 2) (ds := [some (tD (.bk s ps)), some (.loc l), none]) (A := callM (F_exchanged n) (consA (vM 2) (consA (vM 1) nilA))) (tDs ps) (ps.map fun t => tD (t.fill (mAt fs))) (by simp) (by simp; omega) (fun _ => trivial) (fun k d y acc e1 e2 => by
      obtain ⟨p, hp, rfl⟩ := tDs_get e1
      rw [List.getElem?_map, hp] at e2
      cases e2
      have hm := List.mem_of_getElem? hp
      have := depth_mem hm
      have := knots_mem hm
      have ih := exchanged_ok n (h ++ [.lst acc]) l fs p (get_app e) (by omega) (by omega)
      refine R.wp_eq.mp ?_
      simp [wp_v, ih])
    rw [← tDs_mapF] at lc
    rw [S_exchanged]
    refine R.wp_eq.mp ?_
    rw [Tr.fill]
    have nl := noloc_tDs (fillL (mAt fs) ps)
    have tl : ∀ x, tupT [.loc h.length] (h ++ [AO.lst x]) = some (.tup x, h ++ [AO.lst x]) := fun x => tup_loc (by simp)
    simp [tD] at lc
    simp [wp_pure, wp_run, m_exchanged, startD, wp_v, tD, lc, tl, noloc, nolocL, nl]
def numF (i : Nat) : List Int → List (Int × Tr)
  | [] => []
  | b :: bs => (b, .bl ((i : Int) + 1)) :: numF (i + 1) bs
@[simp] theorem numF_len : ∀ (bs : List Int) (i : Nat), (numF i bs).length = bs.length
  | [], _ => rfl
  | b :: bs, i => by rw [numF, List.length_cons, numF_len bs]; rfl
end DV
namespace DV
open PySem PySem.Spec PyProof.Rows L2
end DV
namespace DV
open PySem PySem.Spec PyProof.Rows L2
def Tr.size (t : Tr) : Nat × Nat := (t.knots, t.depth)
theorem knotsL_snoc (u : Tr) : ∀ ts : List Tr, knotsL (ts ++ [u]) = knotsL ts + u.knots
  | [] => by simp [knotsL]
  | t :: ts => by rw [List.cons_append, knotsL, knotsL, knotsL_snoc u ts]; omega
theorem depthL_snoc (u : Tr) : ∀ ts : List Tr, depthL (ts ++ [u]) = max (depthL ts) u.depth
  | [] => by simp [depthL]
  | t :: ts => by rw [List.cons_append, depthL, depthL, depthL_snoc u ts]; omega
def Tr.great (t : Tr) : Prop := 400 < t.knots ∨ 60 < t.depth
instance (t : Tr) : Decidable t.great := inferInstanceAs (Decidable (_ ∨ _))
end DV
namespace DV
open PySem PySem.Spec PyProof.Rows L2
end DV
namespace DV
open PySem PySem.Spec PyProof.Rows L2
end DV
namespace DV
open PySem PySem.Spec PyProof.Rows L2
def Tr.setPart : Tr → Nat → Tr → Tr
  | .bl k, _, _ => .bl k
  | .bk s ps, k, w => .bk s (ps.set k w)
def Tr.put : Tr → List Int → Tr → Option Tr
  | _, [], u => some u
  | t, k :: p, u => if 0 ≤ k ∧ k < t.parts.length then (t.parts[k.toNat]?).bind fun v => (v.put p u).map fun w => t.setPart k.toNat w else none
@[simp] theorem plZ_len (p : List Int) : (plZ p).length = p.length := by simp [plZ]
theorem tDs_at {ts : List Tr} {k : Int} {v : Tr} (h0 : 0 ≤ k) (hv : ts[k.toNat]? = some v) : atI (tDs ts) k = some (tD v) := by
  obtain ⟨m, rfl⟩ := Int.eq_ofNat_of_zero_le h0
  have hv : ts[m]? = some v := hv
  rw [atI_nat (by rw [tDs_len]; exact (List.getElem?_eq_some_iff.mp hv).1), tDs_map, List.getElem?_map, hv]; rfl
theorem tDs_set (ts : List Tr) (k : Nat) (w : Tr) : (tDs ts).set k (tD w) = tDs (ts.set k w) := by rw [tDs_map, tDs_map, List.map_set]
end DV
namespace DV
open PySem PySem.Spec PyProof.Rows L2
@[simp] theorem xn_FormError_NoPlace : (("FormError" : Str) = "NoPlace") = False := eq_false (by decide +kernel)
@[simp] theorem xn_FormError_BadText : (("FormError" : Str) = "BadText") = False := eq_false (by decide +kernel)
@[simp] theorem xn_FormError_TooLong : (("FormError" : Str) = "TooLong") = False := eq_false (by decide +kernel)
@[simp] theorem xn_FormError_BadPaper : (("FormError" : Str) = "BadPaper") = False := eq_false (by decide +kernel)
@[simp] theorem xn_FormError_BadName : (("FormError" : Str) = "BadName") = False := eq_false (by decide +kernel)
@[simp] theorem xn_FormError_Twice : (("FormError" : Str) = "Twice") = False := eq_false (by decide +kernel)
@[simp] theorem xn_FormError_NoForm : (("FormError" : Str) = "NoForm") = False := eq_false (by decide +kernel)
@[simp] theorem xn_NoPlace_FormError : (("NoPlace" : Str) = "FormError") = False := eq_false (by decide +kernel)
@[simp] theorem xn_NoPlace_BadText : (("NoPlace" : Str) = "BadText") = False := eq_false (by decide +kernel)
@[simp] theorem xn_NoPlace_TooLong : (("NoPlace" : Str) = "TooLong") = False := eq_false (by decide +kernel)
@[simp] theorem xn_NoPlace_BadPaper : (("NoPlace" : Str) = "BadPaper") = False := eq_false (by decide +kernel)
@[simp] theorem xn_NoPlace_BadName : (("NoPlace" : Str) = "BadName") = False := eq_false (by decide +kernel)
@[simp] theorem xn_NoPlace_Twice : (("NoPlace" : Str) = "Twice") = False := eq_false (by decide +kernel)
@[simp] theorem xn_NoPlace_NoForm : (("NoPlace" : Str) = "NoForm") = False := eq_false (by decide +kernel)
@[simp] theorem xn_BadText_FormError : (("BadText" : Str) = "FormError") = False := eq_false (by decide +kernel)
@[simp] theorem xn_BadText_NoPlace : (("BadText" : Str) = "NoPlace") = False := eq_false (by decide +kernel)
@[simp] theorem xn_BadText_TooLong : (("BadText" : Str) = "TooLong") = False := eq_false (by decide +kernel)
@[simp] theorem xn_BadText_BadPaper : (("BadText" : Str) = "BadPaper") = False := eq_false (by decide +kernel)
@[simp] theorem xn_BadText_BadName : (("BadText" : Str) = "BadName") = False := eq_false (by decide +kernel)
@[simp] theorem xn_BadText_Twice : (("BadText" : Str) = "Twice") = False := eq_false (by decide +kernel)
@[simp] theorem xn_BadText_NoForm : (("BadText" : Str) = "NoForm") = False := eq_false (by decide +kernel)
@[simp] theorem xn_TooLong_FormError : (("TooLong" : Str) = "FormError") = False := eq_false (by decide +kernel)
@[simp] theorem xn_TooLong_NoPlace : (("TooLong" : Str) = "NoPlace") = False := eq_false (by decide +kernel)
@[simp] theorem xn_TooLong_BadText : (("TooLong" : Str) = "BadText") = False := eq_false (by decide +kernel)
@[simp] theorem xn_TooLong_BadPaper : (("TooLong" : Str) = "BadPaper") = False := eq_false (by decide +kernel)
@[simp] theorem xn_TooLong_BadName : (("TooLong" : Str) = "BadName") = False := eq_false (by decide +kernel)
@[simp] theorem xn_TooLong_Twice : (("TooLong" : Str) = "Twice") = False := eq_false (by decide +kernel)
@[simp] theorem xn_TooLong_NoForm : (("TooLong" : Str) = "NoForm") = False := eq_false (by decide +kernel)
@[simp] theorem xn_BadPaper_FormError : (("BadPaper" : Str) = "FormError") = False := eq_false (by decide +kernel)
@[simp] theorem xn_BadPaper_NoPlace : (("BadPaper" : Str) = "NoPlace") = False := eq_false (by decide +kernel)
@[simp] theorem xn_BadPaper_BadText : (("BadPaper" : Str) = "BadText") = False := eq_false (by decide +kernel)
@[simp] theorem xn_BadPaper_TooLong : (("BadPaper" : Str) = "TooLong") = False := eq_false (by decide +kernel)
@[simp] theorem xn_BadPaper_BadName : (("BadPaper" : Str) = "BadName") = False := eq_false (by decide +kernel)
@[simp] theorem xn_BadPaper_Twice : (("BadPaper" : Str) = "Twice") = False := eq_false (by decide +kernel)
@[simp] theorem xn_BadPaper_NoForm : (("BadPaper" : Str) = "NoForm") = False := eq_false (by decide +kernel)
@[simp] theorem xn_BadName_FormError : (("BadName" : Str) = "FormError") = False := eq_false (by decide +kernel)
@[simp] theorem xn_BadName_NoPlace : (("BadName" : Str) = "NoPlace") = False := eq_false (by decide +kernel)
@[simp] theorem xn_BadName_BadText : (("BadName" : Str) = "BadText") = False := eq_false (by decide +kernel)
@[simp] theorem xn_BadName_TooLong : (("BadName" : Str) = "TooLong") = False := eq_false (by decide +kernel)
@[simp] theorem xn_BadName_BadPaper : (("BadName" : Str) = "BadPaper") = False := eq_false (by decide +kernel)
@[simp] theorem xn_BadName_Twice : (("BadName" : Str) = "Twice") = False := eq_false (by decide +kernel)
@[simp] theorem xn_BadName_NoForm : (("BadName" : Str) = "NoForm") = False := eq_false (by decide +kernel)
@[simp] theorem xn_Twice_FormError : (("Twice" : Str) = "FormError") = False := eq_false (by decide +kernel)
@[simp] theorem xn_Twice_NoPlace : (("Twice" : Str) = "NoPlace") = False := eq_false (by decide +kernel)
@[simp] theorem xn_Twice_BadText : (("Twice" : Str) = "BadText") = False := eq_false (by decide +kernel)
@[simp] theorem xn_Twice_TooLong : (("Twice" : Str) = "TooLong") = False := eq_false (by decide +kernel)
@[simp] theorem xn_Twice_BadPaper : (("Twice" : Str) = "BadPaper") = False := eq_false (by decide +kernel)
@[simp] theorem xn_Twice_BadName : (("Twice" : Str) = "BadName") = False := eq_false (by decide +kernel)
@[simp] theorem xn_Twice_NoForm : (("Twice" : Str) = "NoForm") = False := eq_false (by decide +kernel)
@[simp] theorem xn_NoForm_FormError : (("NoForm" : Str) = "FormError") = False := eq_false (by decide +kernel)
@[simp] theorem xn_NoForm_NoPlace : (("NoForm" : Str) = "NoPlace") = False := eq_false (by decide +kernel)
@[simp] theorem xn_NoForm_BadText : (("NoForm" : Str) = "BadText") = False := eq_false (by decide +kernel)
@[simp] theorem xn_NoForm_TooLong : (("NoForm" : Str) = "TooLong") = False := eq_false (by decide +kernel)
@[simp] theorem xn_NoForm_BadPaper : (("NoForm" : Str) = "BadPaper") = False := eq_false (by decide +kernel)
@[simp] theorem xn_NoForm_BadName : (("NoForm" : Str) = "BadName") = False := eq_false (by decide +kernel)
@[simp] theorem xn_NoForm_Twice : (("NoForm" : Str) = "Twice") = False := eq_false (by decide +kernel)
@[simp] theorem tabF_nil {c : Str} : tabF [] c = none := rfl
@[simp] theorem tabF_cons {x c : Str} {b : Bool} {r : List (Str × Bool)} : tabF ((x, b) :: r) c = if x = c then some b else tabF r c := by
  unfold tabF
  rw [List.find?_cons]
  by_cases e : x = c
  · rw [if_pos e]; simp [e]
  · rw [if_neg e]; simp [e]
@[simp] theorem isX_exn {tb : List (Str × Bool)} {c : Str} {h : Hs} : isXF tb (.exn c) h = (tabF tb c).map fun b => (.bl b, h) := rfl
end DV
namespace DV
open PySem PySem.Spec PyProof.Rows L2
theorem depthL_set {ts : List Tr} {k : Nat} {w : Tr} {n : Nat} (h1 : depthL ts ≤ n) (h2 : w.depth ≤ n) : depthL (ts.set k w) ≤ n := by
  rw [depthL_le] at h1 ⊢
  intro t ht
  rcases List.mem_or_eq_of_mem_set ht with ht | rfl
  · exact h1 t ht
  · exact h2
theorem knotsL_set : ∀ (ts : List Tr) (k : Nat) (w v : Tr), ts[k]? = some v → knotsL (ts.set k w) + v.knots = knotsL ts + w.knots
  | [], k, w, v, h => by simp at h
  | t :: ts, 0, w, v, h => by simp at h; subst h; rw [List.set_cons_zero, knotsL, knotsL]; omega
  | t :: ts, k + 1, w, v, h => by
    have := knotsL_set ts k w v (by simpa using h)
    rw [List.set_cons_succ, knotsL, knotsL]; omega
end DV
namespace DV
open PySem PySem.Spec PyProof.Rows L2
end DV
namespace DV
open PySem PySem.Spec PyProof.Rows L2
mutual
theorem tD_inj : ∀ {t u : Tr}, tD t = tD u → t = u
  | .bl k, .bl j, h => by simp [tD] at h; rw [h]
  | .bl _, .bk _ _, h => by simp [tD] at h
  | .bk _ _, .bl _, h => by simp [tD] at h
  | .bk s ps, .bk s' ps', h => by
    simp [tD] at h
    rw [h.1, tDs_inj h.2]
theorem tDs_inj : ∀ {ts us : List Tr}, tDs ts = tDs us → ts = us
  | [], [], _ => rfl
  | [], _ :: _, h => by simp [tDs] at h
  | _ :: _, [], h => by simp [tDs] at h
  | t :: ts, u :: us, h => by
    simp [tDs] at h
    rw [tD_inj h.1, tDs_inj h.2]
end
/-- what the law's filling is -/
structure FilOk (fs : List (Int × Tr)) : Prop where
  nd : (fs.map (·.1)).Nodup
  len : fs.length ≤ 6
  ok : ∀ p ∈ fs, p.2.good ∧ p.2.knots ≤ 190 ∧ p.2.depth ≤ 28
theorem FilOk.at_ {fs : List (Int × Tr)} (F : FilOk fs) {k : Int} {u : Tr} (e : mAt fs k = some u) : u.good ∧ u.knots ≤ 190 ∧ u.depth ≤ 28 := F.ok _ (mAt_mem e)
theorem noloc_mD {α : Type} {f : α → D} (hf : ∀ a, noloc (f a) = true) : ∀ fs : List (Int × α), nolocL ((mD f fs).map (·.2)) = true
  | [] => rfl
  | p :: fs => by
    have := noloc_mD hf fs
    simp only [mD, List.map_cons, nolocL, hf, Bool.true_and] at this ⊢
    exact this
end DV
namespace DV
open PySem PySem.Spec PyProof.Rows L2
end DV
namespace DV
open PySem PySem.Spec PyProof.Rows L2
end DV
namespace DV
open PySem PySem.Spec PyProof.Rows L2
end DV
namespace DV
open PySem PySem.Spec PyProof.Rows L2
end DV
namespace DV
open PySem PySem.Spec PyProof.Rows L2
mutual
def Tr.nam : Tr → Prop
  | .bl _ => True
  | .bk s ps => nameB s = true ∧ ps.length ≤ 9 ∧ namL ps
def namL : List Tr → Prop
  | [] => True
  | t :: ts => t.nam ∧ namL ts
end
noncomputable instance : DecidableEq Tr := fun _ _ => Classical.propDecidable _
theorem st_for {N : Sl → Hs → Prop} {Q : D → Hs → Prop} {X : QX} {ds : Sl} {h : Hs} {I : IM} {T : GM} {B S : SM} (its : List D) (gd : Hs → Prop) (h1 : Hs) (J : Nat → Sl → Hs → Prop) (e : (I ds h).wp (fun p h' => p = (its, gd) ∧ h' = h1) xF) (start : J 0 ds h1) (guard : ∀ i ds h, J i ds h → gd h)
    (turn : ∀ i d ds h, its[i]? = some d → J i ds h → (T d ds h).wp (fun ds h => (B ds h).wp (J (i + 1)) Q X) (fun _ _ => False) xF) (done : ∀ ds h, J its.length ds h → (S ds h).wp N Q X) : (seqM (forM I T B) S ds h).wp N Q X := by
  rw [ws_seq, ws_for, R.wp_eq.mp e]
  exact ws_loop its J start guard turn done
end DV
namespace DV
open PySem PySem.Spec PyProof.Rows L2
theorem setd_new {h : Hs} {l : Nat} {fs : List (Int × Tr)} {k : Int} {u : Tr} (e : h[l]? = some (.dct (mD tD fs))) (nk : k ∉ fs.map (·.1)) (z : fs.length < 16777216) : setAF (.loc l) (.int k) (tD u) h = some (h.set l (.dct (mD tD (fs ++ [(k, u)])))) := by
  rw [set_dct (kk := .inl k) e rfl (by rw [mD_len]; exact z), put_mD, mPut_new nk]
end DV
namespace DV
open PySem PySem.Spec PyProof.Rows L2
mutual
def Tr.sok : Tr → Prop
  | .bl _ => True
  | .bk s ps => PyData.strOk s = true ∧ sokL ps
def sokL : List Tr → Prop
  | [] => True
  | t :: ts => t.sok ∧ sokL ts
end
theorem sokL_iff : ∀ {ts : List Tr}, sokL ts ↔ ∀ t ∈ ts, t.sok
  | [] => by simp [sokL]
  | t :: ts => by rw [sokL, sokL_iff]; simp
mutual
theorem pyOk_sok : ∀ {t : Tr}, t.sok → pyOk (tD t) = true
  | .bl k, _ => by simp only [tD, pyOk, pyOkL, Bool.and_true]; decide +kernel
  | .bk s ps, g => by
    obtain ⟨g1, g3⟩ := g
    have e : PyData.strOk "block" = true := by decide +kernel
    simp only [tD, pyOk, pyOkL, Bool.and_true, e, g1, pyOk_sokL g3]
theorem pyOk_sokL : ∀ {ts : List Tr}, sokL ts → pyOkL (tDs ts) = true
  | [], _ => rfl
  | t :: ts, g => by simp [tDs, pyOkL, pyOk_sok g.1, pyOk_sokL g.2]
end
mutual
theorem fill_sok {f : Int → Option Tr} : ∀ t : Tr, t.sok → (∀ k u, f k = some u → u.sok) → (t.fill f).sok
  | .bl k, g, h => by
    rw [Tr.fill]
    cases e : f k with
    | none => exact g
    | some u => exact h k u e
  | .bk s ps, g, h => by
    rw [Tr.fill]
    exact ⟨g.1, fillL_sok ps g.2 h⟩
theorem fillL_sok {f : Int → Option Tr} : ∀ ts : List Tr, sokL ts → (∀ k u, f k = some u → u.sok) → sokL (fillL f ts)
  | [], _, _ => trivial
  | t :: ts, g, h => by
    rw [fillL]
    exact ⟨fill_sok t g.1 h, fillL_sok ts g.2 h⟩
end
/-- a tree that can be compared -/
def Tr.eqk (t : Tr) : Prop := t.sok ∧ t.depth ≤ 95
theorem eq_treeS {h : Hs} {t u : Tr} (g : t.eqk) (g' : u.eqk) : eqF (tD t) (tD u) h = some (.bl (decide (t = u)), h) := by
  classical
  have := dep_tD t
  have := g.2
  rw [eq_of (pyOk_sok g.1) (pyOk_sok g'.1) (by omega)]
  congr 3
  by_cases c : t = u
  · rw [decide_eq_true c, decide_eq_true (congrArg tD c)]
  · rw [decide_eq_false c, decide_eq_false fun e => c (tD_inj e)]
theorem ne_treeS {h : Hs} {t u : Tr} (g : t.eqk) (g' : u.eqk) : neF (tD t) (tD u) h = some (.bl (!decide (t = u)), h) := by
  classical
  have := dep_tD t
  have := g.2
  rw [ne_of' (pyOk_sok g.1) (pyOk_sok g'.1) (by omega)]
  congr 4
  by_cases c : t = u
  · rw [decide_eq_true c, decide_eq_true (congrArg tD c)]
  · rw [decide_eq_false c, decide_eq_false fun e => c (tD_inj e)]
theorem eqk_mem {s : Str} {ps : List Tr} {t : Tr} (g : (Tr.bk s ps).eqk) (m : t ∈ ps) : t.eqk := by
  obtain ⟨⟨_, g1⟩, g2⟩ := g
  rw [Tr.depth] at g2
  have := depth_mem m
  exact ⟨sokL_iff.mp g1 t m, by omega⟩
noncomputable def sameB : Tr → Tr → Bool
  | .bk s ps, .bk s' qs => open Classical in decide (s = s' ∧ ps.length = qs.length)
  | _, _ => false
mutual
noncomputable def fitU : Tr → Tr → List (Int × Tr) → Bool × List (Int × Tr)
  | .bl k, t, fs => match mAt fs k with
    | some u => (decide (u = t), fs)
    | none => (true, fs ++ [(k, t)])
  | .bk s ps, t, fs => if sameB (.bk s ps) t = true then fitL ps t.parts fs else (false, fs)
noncomputable def fitL : List Tr → List Tr → List (Int × Tr) → Bool × List (Int × Tr)
  | [], _, fs => (true, fs)
  | _ :: _, [], fs => (false, fs)
  | p :: ps, q :: qs, fs => if (fitU p q fs).1 = true then fitL ps qs (fitU p q fs).2 else fitU p q fs
end
theorem fitL_app : ∀ (a b c d : List Tr) (fs : List (Int × Tr)), a.length = b.length → fitL (a ++ c) (b ++ d) fs = if (fitL a b fs).1 = true then fitL c d (fitL a b fs).2 else fitL a b fs
  | [], [], c, d, fs, _ => by simp [fitL]
  | [], _ :: _, _, _, _, h => by cases h
  | _ :: _, [], _, _, _, h => by cases h
  | p :: a, q :: b, c, d, fs, h => by
    rw [List.cons_append, List.cons_append, fitL, fitL]
    by_cases z : (fitU p q fs).1 = true
    · rw [if_pos z, if_pos z, fitL_app a b c d _ (by simpa using h)]
    · rw [if_neg z, if_neg z, if_neg z]
theorem fitL_one (p q : Tr) (fs : List (Int × Tr)) : fitL [p] [q] fs = fitU p q fs := by
  rw [fitL, fitL]
  by_cases z : (fitU p q fs).1 = true
  · rw [if_pos z]; exact Prod.ext z.symm rfl
  · rw [if_neg z]
mutual
theorem fitU_ok (P : Tr → Prop) (hP : ∀ s ps, P (.bk s ps) → ∀ t ∈ ps, P t) : ∀ (f t : Tr) (fs : List (Int × Tr)), (∀ p ∈ fs, P p.2) → P t → (∀ p ∈ (fitU f t fs).2, P p.2) ∧ (fitU f t fs).2.length ≤ fs.length + f.knots ∧ ((fs.map (·.1)).Nodup → ((fitU f t fs).2.map (·.1)).Nodup)
  | .bl k, t, fs, h, ht => by
    rw [fitU]
    cases e : mAt fs k with
    | some u => exact ⟨h, by simp, id⟩
    | none =>
      refine ⟨fun p hp => ?_, by simp [Tr.knots], fun nd => ?_⟩
      · rcases List.mem_append.mp hp with hp | hp
        · exact h p hp
        · have : p = (k, t) := by simpa using hp
          rw [this]; exact ht
      · have := mPut_nodup k t nd
        rw [mPut_new (mAt_none.mp e)] at this
        exact this
  | .bk s ps, t, fs, h, ht => by
    rw [fitU, Tr.knots]
    by_cases c : sameB (.bk s ps) t = true
    · rw [if_pos c]
      have hq : ∀ q ∈ t.parts, P q := by
        cases t with
        | bl k => exact fun q hq => by simp [Tr.parts] at hq
        | bk s' qs => exact hP s' qs ht
      obtain ⟨h1, h2, h3⟩ := fitL_ok P hP ps t.parts fs h hq
      exact ⟨h1, by omega, h3⟩
    · rw [if_neg c]; exact ⟨h, by simp, id⟩
theorem fitL_ok (P : Tr → Prop) (hP : ∀ s ps, P (.bk s ps) → ∀ t ∈ ps, P t) : ∀ (a b : List Tr) (fs : List (Int × Tr)), (∀ p ∈ fs, P p.2) → (∀ q ∈ b, P q) → (∀ p ∈ (fitL a b fs).2, P p.2) ∧ (fitL a b fs).2.length ≤ fs.length + knotsL a ∧ ((fs.map (·.1)).Nodup → ((fitL a b fs).2.map (·.1)).Nodup)
  | [], b, fs, h, _ => by rw [fitL]; exact ⟨h, by simp, id⟩
  | _ :: _, [], fs, h, _ => by rw [fitL]; exact ⟨h, by simp, id⟩
  | p :: a, q :: b, fs, h, hb => by
    obtain ⟨h1, h2, h3⟩ := fitU_ok P hP p q fs h (hb q List.mem_cons_self)
    rw [fitL, knotsL]
    by_cases z : (fitU p q fs).1 = true
    · rw [if_pos z]
      obtain ⟨h4, h5, h6⟩ := fitL_ok P hP a b _ h1 fun x hx => hb x (List.mem_cons_of_mem _ hx)
      exact ⟨h4, by omega, fun nd => h6 (h3 nd)⟩
    · rw [if_neg z]; exact ⟨h1, by omega, h3⟩
end
theorem same_blocks_ok (n : Nat) (h : Hs) (f t : Tr) (gf : f.sok) (gt : t.sok) (kf : f.knots ≤ 1000000) : F_same_blocks (n + 1) [tD f, tD t] h = .ok (.bl (sameB f t)) h := by
  rw [S_same_blocks]
  refine R.wp_eq.mp ?_
  cases f with
  | bl k =>
    cases t with
    | bl j => simp [wp_pure, wp_run, m_same_blocks, startD, wp_v, tD, sameB, noloc]
    | bk s qs => simp [wp_pure, wp_run, m_same_blocks, startD, wp_v, tD, sameB, noloc]
  | bk s ps =>
    cases t with
    | bl j => simp [wp_pure, wp_run, m_same_blocks, startD, wp_v, tD, sameB, noloc]
    | bk s' qs =>
      classical
      have e := eq_strs (h := h) gf.1 gt.1
      by_cases c : s = s'
      · subst c
        simp [wp_pure, wp_run, m_same_blocks, startD, wp_v, tD, sameB, noloc, e]
        omega
      · simp [wp_pure, wp_run, m_same_blocks, startD, wp_v, tD, sameB, noloc, e, c]
end DV
namespace DV
open PySem PySem.Spec PyProof.Rows L2
theorem noloc_mDt (fs : List (Int × Tr)) : nolocO (.dct (mD tD fs)) = true := noloc_mD noloc_tD fs
theorem eqk_parts : ∀ s ps, (Tr.bk s ps).eqk → ∀ t ∈ ps, t.eqk := fun s ps g t m => eqk_mem g m
theorem set_same_keep {h : Hs} {l : Nat} {fs : List (Int × Tr)} : ∀ (i : Nat) (o : AO), i < h.length → (h.set l (.dct (mD tD fs)))[i]? = some o → h[i]? = some o ∨ nolocO o = true := by
  intro i o hi e
  by_cases c : i = l
  · subst c
    rw [List.getElem?_set_self hi] at e
    cases e
    exact .inr (noloc_mDt fs)
  · rw [List.getElem?_set_ne (Ne.symm c)] at e
    exact .inl e
theorem fit_under_ok : ∀ (n : Nat) (h : Hs) (l : Nat) (fs : List (Int × Tr)) (f t : Tr), h[l]? = some (.dct (mD tD fs)) → (∀ p ∈ fs, p.2.eqk) → t.eqk → f.sok → f.depth + 1 ≤ n → fs.length + f.knots ≤ 1000000 →
    F_fit_under n [tD f, tD t, .loc l] h = .ok (.bl (fitU f t fs).1) (h.set l (.dct (mD tD (fitU f t fs).2)))
  | 0, h, l, fs, f, t, _, _, _, _, hn, _ => by omega
  | n + 1, h, l, fs, .bl k, t, e, hf, ht, sf, hn, hk => by
    rw [S_fit_under]
    refine R.wp_eq.mp (wp_eff ?_)
    have lt : l < h.length := (List.getElem?_eq_some_iff.mp e).1
    have sd := setd_dct (x := tD t) (k := .int k) (kk := .inl k) e rfl (by rw [mD_len]; omega)
    rw [val_mD] at sd
    rw [fitU]
    cases z : mAt fs k with
    | some u =>
      rw [z] at sd
      have eu := hf _ (mAt_mem z)
      have eq := eq_treeS (h := h) eu ht
      have hs : h.set l (.dct (mD tD fs)) = h := by
        obtain ⟨q, e⟩ := List.getElem?_eq_some_iff.mp e
        rw [← e]; exact List.set_getElem_self q
      simp at sd
      simp [wp_run, m_fit_under, startD, wp_v, tD, ck_dct e, sd, eq, noloc, hs]
      exact fun i o _ e => .inl e
    | none =>
      rw [z] at sd
      have pm := put_mD tD fs k t
      rw [mPut_new (mAt_none.mp z)] at pm
      have eq := fun h => eq_treeS (h := h) ht ht
      simp [pm] at sd
      simp [wp_run, m_fit_under, startD, wp_v, tD, ck_dct e, sd, eq, noloc]
      exact ⟨fun i o hi e => set_same_keep i o hi e, List.take_of_length_le (by simp)⟩
  | n + 1, h, l, fs, .bk s ps, t, e, hf, ht, sf, hn, hk => by
    obtain ⟨n, rfl⟩ : ∃ m, n = m + 1 := ⟨n - 1, by rw [Tr.depth] at hn; omega⟩
    rw [S_fit_under]
    refine R.wp_eq.mp (wp_eff ?_)
    have lt : l < h.length := (List.getElem?_eq_some_iff.mp e).1
    have sb := fun h => same_blocks_ok n h (.bk s ps) t sf ht.1 (by omega)
    rw [fitU]
    by_cases c : sameB (.bk s ps) t = true
    · rw [if_pos c]
      rw [c] at sb
      cases t with
      | bl j => cases c
      | bk s' qs =>
        have cl : ps.length = qs.length := by
          unfold sameB at c
          exact (of_decide_eq_true c).2
        rw [Tr.depth] at hn
        rw [Tr.knots] at hk
        simp only [Tr.parts]
        simp [wp_run, m_fit_under, startD, wp_v]
        simp [tD] at sb
        simp [tD, wp_v, sb, enumF, truD]
        have hs : h.set l (.dct (mD tD fs)) = h := by
          obtain ⟨q, e⟩ := List.getElem?_eq_some_iff.mp e
          rw [← e]; exact List.set_getElem_self q
        obtain ⟨J, hJ⟩ : ∃ J : Nat → Sl → Hs → Prop, J = fun i ds h' => (fitL (ps.take i) (qs.take i) fs).1 = true ∧ h' = h.set l (.dct (mD tD (fitL (ps.take i) (qs.take i) fs).2)) ∧ ∃ a b, ds = [some (tD (.bk s ps)), some (tD (.bk s' qs)), some (.loc l), a, b] := ⟨_, rfl⟩
        refine ws_loop _ J (by rw [hJ]; exact ⟨by simp [fitL], by simp [fitL, hs], _, _, rfl⟩) (fun _ _ _ _ => trivial) ?_ ?_
        · intro i d ds h' hd hj
          rw [hJ] at hj
          obtain ⟨tr, rfl, a, b, rfl⟩ := hj
          obtain ⟨x, hx, rfl⟩ := numD_get hd
          obtain ⟨p, hp, rfl⟩ := tDs_get hx
          have mp := List.mem_of_getElem? hp
          have ip : i < ps.length := (List.getElem?_eq_some_iff.mp hp).1
          obtain ⟨q, hq⟩ : ∃ q, qs[i]? = some q := ⟨_, List.getElem?_eq_getElem (by omega)⟩
          have mq := List.mem_of_getElem? hq
          have dp := depth_mem mp
          have kp := knots_mem mp
          have e1 : ps.take (i + 1) = ps.take i ++ [p] := by rw [List.take_add_one, hp]; rfl
          have e2 : qs.take (i + 1) = qs.take i ++ [q] := by rw [List.take_add_one, hq]; rfl
          have tl : (ps.take i).length = (qs.take i).length := by rw [List.length_take, List.length_take, cl]
          have e3 : fitL (ps.take (i + 1)) (qs.take (i + 1)) fs = fitU p q (fitL (ps.take i) (qs.take i) fs).2 := by
            rw [e1, e2, fitL_app _ _ _ _ _ tl, if_pos tr, fitL_one]
          obtain ⟨o1, o2, _⟩ := fitL_ok Tr.eqk eqk_parts (ps.take i) (qs.take i) fs hf fun q hq => eqk_mem ht (List.mem_of_mem_take hq)
          have ks : knotsL (ps.take i) + p.knots ≤ knotsL ps := by
            have : knotsL (ps.take (i + 1)) ≤ knotsL ps := by
              rw [knotsL_sum, knotsL_sum]
              have : (ps.map Tr.knots).sum = ((ps.take (i + 1)).map Tr.knots).sum + ((ps.drop (i + 1)).map Tr.knots).sum := by
                rw [← List.sum_append, ← List.map_append, List.take_append_drop]
              omega
            rw [e1, knotsL_snoc] at this
            exact this
          have ih := fit_under_ok (n + 1) (h.set l (.dct (mD tD (fitL (ps.take i) (qs.take i) fs).2))) l (fitL (ps.take i) (qs.take i) fs).2 p q (by simp [lt]) o1 (eqk_mem ht mq) (sokL_iff.mp sf.2 p mp) (by omega) (by omega)
          rw [← e3, List.set_set] at ih
          have ia : atI (tDs qs) (i : Int) = some (tD q) := by
            rw [atI_nat (by rw [tDs_len]; omega), tDs_map, List.getElem?_map, hq]; rfl
          generalize hA : fitL (ps.take (i + 1)) (qs.take (i + 1)) fs = A at ih e3
          by_cases z : A.1 = true
          · have fin : J (i + 1) [some (tD (.bk s ps)), some (tD (.bk s' qs)), some (.loc l), some (.int (i : Int)), some (tD p)] (h.set l (.dct (mD tD A.2))) := by
              rw [hJ]
              refine ⟨by rw [hA]; exact z, by rw [hA], _, _, rfl⟩
            rw [z] at ih
            simp [tD] at fin
            simp [wp_v, tD, ia, ih, truD, fin]
          · have z : A.1 = false := by simpa using z
            have fL : fitL ps qs fs = A := by
              have h1 : ps = ps.take (i + 1) ++ ps.drop (i + 1) := (List.take_append_drop _ _).symm
              have h2 : qs = qs.take (i + 1) ++ qs.drop (i + 1) := (List.take_append_drop _ _).symm
              rw [h1, h2, fitL_app _ _ _ _ _ (by rw [List.length_take, List.length_take, cl]), hA, if_neg (by rw [z]; exact Bool.false_ne_true)]
            rw [z] at ih
            rw [fL, z]
            simp [wp_v, tD, ia, ih, truD, noloc]
            exact ⟨fun i o hi e => set_same_keep i o hi e, List.take_of_length_le (by simp)⟩
        · intro ds h' hj
          rw [hJ] at hj
          obtain ⟨tr, rfl, a, b, rfl⟩ := hj
          have t1 : ps.take (numD (tDs ps)).length = ps := by rw [numD_len, tDs_len, List.take_length]
          have t2 : qs.take (numD (tDs ps)).length = qs := by rw [numD_len, tDs_len, cl, List.take_length]
          rw [t1, t2] at tr ⊢
          simp [wp_v, noloc, tr]
          exact ⟨fun i o hi e => set_same_keep i o hi e, List.take_of_length_le (by simp)⟩
    · rw [if_neg c]
      have c : sameB (.bk s ps) t = false := by simpa using c
      rw [c] at sb
      have hs : h.set l (.dct (mD tD fs)) = h := by
        obtain ⟨q, e⟩ := List.getElem?_eq_some_iff.mp e
        rw [← e]; exact List.set_getElem_self q
      simp [wp_run, m_fit_under, startD, wp_v]
      simp [tD] at sb
      simp [tD, wp_v, sb, truD, noloc, hs]
      exact fun i o _ e => .inl e
/-- fitting -/
def fitR (r : Bool × List (Int × Tr)) (h : Hs) : R D := .ok (if r.1 = true then .loc h.length else .non) (h ++ [.dct (mD tD r.2)])
theorem fitting_ok (n : Nat) (h : Hs) (f t : Tr) (ht : t.eqk) (sf : f.sok) (hn : f.depth + 1 ≤ n) (hk : f.knots ≤ 1000000) : F_fitting (n + 1) [tD f, tD t] h = fitR (fitU f t []) h := by
  rw [S_fitting]
  refine R.wp_eq.mp ?_
  show (runM 2 3 (m_fitting (F_fit_under n)) [tD f, tD t] h).wp _ _
  have fu := fit_under_ok n (h ++ [.dct []]) h.length [] f t (by simp; rfl) (by simp) ht sf hn (by simpa using hk)
  simp at fu
  generalize fitU f t [] = r at fu
  cases z : r.1 with
  | true =>
    rw [z] at fu
    simp [wp_run, m_fitting, startD, wp_v, fu, truD]
  | false =>
    rw [z] at fu
    simp [wp_run, m_fitting, startD, wp_v, fu, truD]
end DV
namespace DV
open PySem PySem.Spec PyProof.Rows L2
structure Okt (s : Str) (n : Nat) : Prop where
  len : s.length ≤ n
  sg : ∀ c ∈ s.cps.toList, c < 0x110000
theorem Okt.strOk {s : Str} {n : Nat} (h : Okt s n) : PyData.strOk s = true := by
  unfold PyData.strOk
  rw [Array.all_eq_true]
  intro i hi
  exact decide_eq_true (h.sg _ (by simp))
theorem Okt.app {a b : Str} {n m : Nat} (h : Okt a n) (g : Okt b m) : Okt (a ++ b) (n + m) := by
  refine ⟨by rw [app_len]; have := h.len; have := g.len; omega, fun c hc => ?_⟩
  have e : (a ++ b).cps.toList = a.cps.toList ++ b.cps.toList := Array.toList_append
  rw [e] at hc
  rcases List.mem_append.mp hc with hc | hc
  · exact h.sg c hc
  · exact g.sg c hc
theorem Okt.cut {a : Str} {n : Nat} (lo hi : Option Int) (h : Okt a n) : Okt (cutS a lo hi) n := by
  refine ⟨Nat.le_trans (cut_len a lo hi) h.len, fun c hc => h.sg c ?_⟩
  have e : (cutS a lo hi).cps.toList = cutL a.cps.toList lo hi := by
    unfold cutL
    simp [cutS]
    rfl
  rw [e] at hc
  exact List.mem_of_mem_drop (List.mem_of_mem_take hc)
theorem Okt.rep {a : Str} {n : Nat} (k : Nat) (h : Okt a n) : Okt (repS a k) (n * k) := by
  refine ⟨by rw [rep_size]; exact Nat.mul_le_mul_right _ h.len, fun c hc => h.sg c ?_⟩
  have e : (repS a k).cps.toList = (List.replicate k a.cps.toList).flatten := by simp [repS]
  rw [e] at hc
  obtain ⟨l, hl, hc⟩ := List.mem_flatten.mp hc
  rw [List.eq_of_mem_replicate hl] at hc
  exact hc
theorem Okt.mono {a : Str} {n m : Nat} (h : Okt a n) (l : n ≤ m) : Okt a m := ⟨Nat.le_trans h.len l, h.sg⟩
theorem S36_sg : ∀ c ∈ S36.cps.toList, c < 0x110000 := by decide +kernel
theorem sign36 {i : Int} (h0 : 0 ≤ i) (h1 : i < 36) : ∃ c, atI S36.cps.toList i = some c ∧ Okt ⟨#[c]⟩ 1 := by
  obtain ⟨c, hc, hc2⟩ := atI_of (zs := S36.cps.toList) h0 (by rw [S36_len]; exact h1)
  refine ⟨c, hc, Nat.le_refl _, fun d hd => ?_⟩
  have : d = c := by simpa using hd
  rw [this]
  exact S36_sg c (List.mem_of_getElem? hc2)
theorem cutL_len {α : Type} (xs : List α) (lo hi : Option Int) : (cutL xs lo hi).length ≤ xs.length := by
  unfold cutL
  rw [List.length_take, List.length_drop]; omega
def mixI (c : Int) : Int := (c + 1) * 1357913579135791357 % 2305843009213693951
theorem mixI_lt (c : Int) : 0 ≤ mixI c ∧ mixI c < 2305843009213693951 := ⟨Int.emod_nonneg _ (by decide), Int.emod_lt_of_pos _ (by decide)⟩
theorem mixed_ok (n : Nat) (h : Hs) (c : Int) : F__law_mixed (n + 1) [.int c] h = .ok (.int (mixI c)) h := by
  rw [S__law_mixed]
  refine R.wp_eq.mp ?_
  have m1 : cMul (c + 1) 1357913579135791357 = true := cMul_r (by decide) (by decide)
  have m2 : ∀ i, cMod i 2305843009213693951 = true := fun _ => cMod_of (by decide)
  simp [wp_pure, wp_run, m__law_mixed, startD, wp_v, m1, m2, noloc, mixI]
theorem numbers_okB (n : Nat) (h : Hs) (ns : List Int) (start most : Int) (hl : ns.length ≤ 63) :
    ∃ ms : List Int, F__law_numbers (n + 2) [.ro ns, .int start, .int most] h = .ok (.loc h.length) (h ++ [.lst (ms.map D.int)]) ∧ ms.length ≤ 63 ∧ (∀ b : Nat, 17 ≤ b → (cutL ns (some start) (some (start + most))).length ≤ b → ms.length ≤ b) ∧ ∀ m ∈ ms, 0 ≤ m ∧ m < 2305843009213693951 := by
  have main : (kNew.f (runM 3 8 (m__law_numbers (F__law_mixed (n + 1)) (F__law_cell_at (n + 1)))) [.ro ns, .int start, .int most] h).wp (fun d h' => ∃ ms : List Int, d = .loc h.length ∧ h' = h ++ [.lst (ms.map D.int)] ∧ ms.length ≤ 63 ∧ (∀ b : Nat, 17 ≤ b → (cutL ns (some start) (some (start + most))).length ≤ b → ms.length ≤ b) ∧ ∀ m ∈ ms, 0 ≤ m ∧ m < 2305843009213693951) xF := by
    refine wp_new ?_
    rw [wp_run]
    refine ⟨rfl, ?_⟩
    unfold m__law_numbers
    simp only [startD, List.map_cons, List.map_nil, List.length_cons, List.length_nil]
    obtain ⟨C, hC⟩ : ∃ C, C = cutL ns (some start) (some (start + most)) := ⟨_, rfl⟩
    have Cl : C.length ≤ 63 := by rw [hC]; exact Nat.le_trans (cutL_len _ _ _) hl
    refine st_set (.loc h.length) (h ++ [.lst (C.map D.int)]) (by rw [hC]; simp [wp_v, slF_ro]) ?_
    rw [← hC]
    clear hC
    have c0 := fun h => cell0_ok n h ns
    generalize cellI ns 0 = first at c0
    refine st_set (.int first) (h ++ [.lst (C.map D.int)]) (by simp [wp_v, c0]) ?_
    have mx := fun h c => mixed_ok n h c
    have le := len_lst (h := h ++ [.lst (C.map D.int)]) (l := h.length) (xs := C.map D.int) (by simp)
    rw [List.length_map] at le
    have m17 : ∀ i, cMod i 17 = true := fun _ => cMod_of (by decide)
    have r17 : 0 ≤ mixI first % 17 ∧ mixI first % 17 < 17 := ⟨Int.emod_nonneg _ (by decide), Int.emod_lt_of_pos _ (by decide)⟩
    obtain ⟨many, em, hm, hmb⟩ : ∃ many : Nat, (if mixI first % 17 > (C.length : Int) then mixI first % 17 else (C.length : Int)) = (many : Int) ∧ many ≤ 63 ∧ ∀ b : Nat, 17 ≤ b → C.length ≤ b → many ≤ b := by
      by_cases c : mixI first % 17 > (C.length : Int)
      · exact ⟨(mixI first % 17).toNat, by rw [if_pos c]; omega, by omega, fun b _ _ => by omega⟩
      · exact ⟨C.length, by rw [if_neg c], by omega, fun b _ h => h⟩
    refine st_set (.int many) (h ++ [.lst (C.map D.int)]) ?_ ?_
    · simp at em
      simp [wp_v, le, mx, m17, em]
    refine st_set (.loc (h.length + 1)) (h ++ [.lst (C.map D.int), .lst []]) (by simp) ?_
    simp only [List.set_cons_succ, List.set_cons_zero, List.replicate]
    have ir : inR (many : Int) = true := inR_of (by omega) (by omega)
    obtain ⟨J, hJ⟩ : ∃ J : Nat → Sl → Hs → Prop, J = fun i ds h' => ∃ ms : List Int, ms.length ≤ i ∧ (∀ m ∈ ms, 0 ≤ m ∧ m < 2305843009213693951) ∧ h' = h ++ [.lst (C.map D.int), .lst (ms.map D.int)] ∧ ∃ x, ds = [some (.ro ns), some (.int start), some (.int most), some (.loc h.length), some (.int first), some (.int many), some (.loc (h.length + 1)), x] := ⟨_, rfl⟩
    refine st_for ((List.range many).map fun (i : Nat) => .int (i : Int)) (fun _ => True) (h ++ [.lst (C.map D.int), .lst []]) J (by simp [wp_v, ir]) (by rw [hJ]; exact ⟨[], by simp, by simp, rfl, _, rfl⟩) (fun _ _ _ _ => trivial) ?_ ?_
    · intro i d ds h' hd hj
      rw [hJ] at hj
      obtain ⟨ms, ml, mr, rfl, x, rfl⟩ := hj
      have im : i < many := by
        have := (List.getElem?_eq_some_iff.mp hd).1
        simpa using this
      obtain ⟨k, rfl, hk⟩ : ∃ k : Nat, d = .int k ∧ k < many := by
        have := List.mem_of_getElem? hd
        obtain ⟨x, hx, rfl⟩ := List.mem_map.mp this
        exact ⟨x, rfl, by simpa using hx⟩
      have le := len_lst (h := h ++ [.lst (C.map D.int), .lst (ms.map D.int)]) (l := h.length) (xs := C.map D.int) (by simp)
      rw [List.length_map] at le
      have ck : ckList (.loc (h.length + 1)) (h ++ [.lst (C.map D.int), .lst (ms.map D.int)]) = true := ck_lst (xs := ms.map D.int) (by simp)
      have app := fun (v : Int) => append_lst (h := h ++ [.lst (C.map D.int), .lst (ms.map D.int)]) (l := h.length + 1) (v := .int v) (xs := ms.map D.int) (by simp) (by simp; omega)
      have fin : ∀ c x, J (i + 1) [some (.ro ns), some (.int start), some (.int most), some (.loc h.length), some (.int first), some (.int many), some (.loc (h.length + 1)), x] (h ++ [.lst (C.map D.int), .lst (ms.map D.int ++ [.int (mixI c)])]) := fun c x => by
        rw [hJ]
        refine ⟨ms ++ [mixI c], by simp; omega, fun m hm => ?_, by simp, _, rfl⟩
        rcases List.mem_append.mp hm with hm | hm
        · exact mr m hm
        · have : m = mixI c := by simpa using hm
          rw [this]; exact mixI_lt c
      by_cases c : (k : Int) < (C.length : Int)
      · obtain ⟨v, hv⟩ : ∃ v, C[k]? = some v := ⟨_, List.getElem?_eq_getElem (by omega)⟩
        have ix := ix_lst (h := h ++ [.lst (C.map D.int), .lst (ms.map D.int)]) (l := h.length) (xs := C.map D.int) (i := (k : Int)) (by simp)
        rw [atI_nat (by rw [List.length_map]; omega), List.getElem?_map, hv] at ix
        simp at ix app le
        simp [wp_v, le, c, ck, ix, mx, app, fin]
      · have kk : cMul (k : Int) (k : Int) = true := cMul_l (by omega) (by omega)
        have m1 : ∀ i, cMod i 1000003 = true := fun _ => cMod_of (by decide)
        have f0 := Int.emod_nonneg first (show (1000003 : Int) ≠ 0 by decide)
        have f1 := Int.emod_lt_of_pos first (show (0 : Int) < 1000003 by decide)
        have m2 : ∀ j, cMul (first % 1000003) j = true := fun _ => cMul_l (by omega) (by omega)
        simp at app le
        simp [wp_v, le, c, ck, kk, m1, m2, mx, app, fin]
    · intro ds h' hj
      rw [hJ] at hj
      obtain ⟨ms, ml, mr, rfl, x, rfl⟩ := hj
      simp [wp_v, nolocO, noloc_ints]
      exact ⟨ms, rfl, by simp at ml; omega, fun b h1 h2 => by simp at ml; have := hmb b h1 h2; omega, mr⟩
  rw [S__law_numbers]
  obtain ⟨d, h', e, ms, rfl, rfl, r⟩ := R.wp_ex main
  exact ⟨ms, e, r⟩
theorem numbers_ok (n : Nat) (h : Hs) (ns : List Int) (start most : Int) (hl : ns.length ≤ 63) :
    ∃ ms : List Int, F__law_numbers (n + 2) [.ro ns, .int start, .int most] h = .ok (.loc h.length) (h ++ [.lst (ms.map D.int)]) ∧ ms.length ≤ 63 ∧ ∀ m ∈ ms, 0 ≤ m ∧ m < 2305843009213693951 :=
  let ⟨ms, a, b, _, c⟩ := numbers_okB n h ns start most hl
  ⟨ms, a, b, c⟩
theorem noloc_strs (xs : List Str) : nolocL (xs.map D.str) = true := by
  induction xs with
  | nil => rfl
  | cons x xs ih => simp [nolocL, noloc, ih]
theorem names2_ok (n : Nat) (h : Hs) (c : Int) :
    ∃ ns : List Str, F__law_names_v2 (n + 2) [.int c] h = .ok (.loc h.length) (h ++ [.lst (ns.map D.str)]) ∧ ns.length = 9 ∧ ∀ s ∈ ns, Okt s 30 := by
  have main : (kNew.f (runM 1 7 (m__law_names_v2 (F__law_mixed (n + 1)))) [.int c] h).wp (fun d h' => ∃ ns : List Str, d = .loc h.length ∧ h' = h ++ [.lst (ns.map D.str)] ∧ ns.length = 9 ∧ ∀ s ∈ ns, Okt s 30) xF := by
    refine wp_new ?_
    rw [wp_run]
    refine ⟨rfl, ?_⟩
    unfold m__law_names_v2
    simp only [startD, List.map_cons, List.map_nil, List.length_cons, List.length_nil]
    have mx := fun h c => mixed_ok n h c
    obtain ⟨m0, m1⟩ := mixI_lt c
    generalize hN : mixI c = N at m0 m1
    have d2 : ∀ i, cDiv i 2 = true := fun _ => cDiv_of (by decide) (by decide)
    have d24 : ∀ i, cDiv i 24 = true := fun _ => cDiv_of (by decide) (by decide)
    have d288 : ∀ i, cDiv i 288 = true := fun _ => cDiv_of (by decide) (by decide)
    have d9 : ∀ i, cDiv i 9 = true := fun _ => cDiv_of (by decide) (by decide)
    have d7 : ∀ i, cDiv i 7488 = true := fun _ => cDiv_of (by decide) (by decide)
    have m12 : ∀ i, cMod i 12 = true := fun _ => cMod_of (by decide)
    have m26 : ∀ i, cMod i 26 = true := fun _ => cMod_of (by decide)
    have m36 : ∀ i, cMod i 36 = true := fun _ => cMod_of (by decide)
    have m2 : ∀ i, cMod i 2 = true := fun _ => cMod_of (by decide)
    have r9 : inR 9 = true := inR_of (by decide) (by decide)
    have l36 : S36.length ≤ 16777216 := by decide +kernel
    obtain ⟨sz, hsz, s1, s12⟩ : ∃ sz : Int, sz = 1 + N / 2 % 12 ∧ 1 ≤ sz ∧ sz ≤ 12 := by
      have := Int.emod_nonneg (N / 2) (show (12 : Int) ≠ 0 by decide)
      have := Int.emod_lt_of_pos (N / 2) (show (0 : Int) < 12 by decide)
      exact ⟨_, rfl, by omega, by omega⟩
    obtain ⟨at_, hat, a0, a12⟩ : ∃ at_ : Int, at_ = N / 24 % sz ∧ 0 ≤ at_ ∧ at_ < 12 := by
      have := Int.emod_nonneg (N / 24) (show sz ≠ 0 by omega)
      have := Int.emod_lt_of_pos (N / 24) (show (0 : Int) < sz by omega)
      exact ⟨_, rfl, by omega, by omega⟩
    have msz : ∀ i, cMod i sz = true := fun _ => cMod_of (by omega)
    obtain ⟨g0, hg0, og0⟩ := sign36 (i := N / 288 % 26) (Int.emod_nonneg _ (by decide)) (by have := Int.emod_lt_of_pos (N / 288) (show (0 : Int) < 26 by decide); omega)
    refine st_set (.str S36) h ⟨rfl, rfl⟩ ?_
    refine st_set (.int N) h (by simp [wp_v, mx, hN]) ?_
    refine st_set (.int sz) h (by rw [hsz]; simp [wp_v, d2, m12]) ?_
    refine st_set (.int at_) h (by rw [hat]; simp [wp_v, d24, msz]) ?_
    refine st_set (.str ⟨#[g0]⟩) h (by simp [wp_v, d288, m26, l36, hg0]) ?_
    simp only [List.set_cons_succ, List.set_cons_zero, List.replicate]
    by_cases c2 : N % 2 = 0
    · rw [ws_seq]
      have lc := lc_map1 (h0 := h) (gd := fun _ => True) (i := 6) (ds := [some (.int c), some (.str S36), some (.int N), some (.int sz), some (.int at_), some (.str ⟨#[g0]⟩), none])
        (A := binM mulXF (vM 5) (binM addF (vM 6) (cM (.int 1)))) ((List.range 9).map fun (i : Nat) => .int (i : Int)) (((List.range 9).map fun (i : Nat) => repS ⟨#[g0]⟩ (i + 1)).map D.str) (by simp) (by simp) (fun _ => trivial) (fun k d z acc e1 e2 => by
          rw [List.getElem?_map] at e1 e2
          rw [List.getElem?_map] at e2
          cases q : (List.range 9)[k]? with
          | none => rw [q] at e1; cases e1
          | some j =>
            rw [q] at e1 e2
            cases e1
            cases e2
            have jl : j < 9 := List.mem_range.mp (List.mem_of_getElem? q)
            have cb : cB (-1000000 ≤ (j : Int) + 1 ∧ (j : Int) + 1 ≤ 1000000 ∧ (⟨#[g0]⟩ : Str).length ≤ 1000000 ∧ (⟨#[g0]⟩ : Str).length * ((j : Int) + 1).toNat ≤ LIM) = true := by
              refine cB_of ⟨by omega, by omega, by show 1 ≤ 1000000; omega, ?_⟩
              show 1 * ((j : Int) + 1).toNat ≤ 16777216
              omega
            have tn : ((j : Int) + 1).toNat = j + 1 := by omega
            refine R.wp_eq.mp ?_
            simp only [le_LIM] at cb
            rw [tn] at cb
            simp [wp_v, cb, tn])
      generalize hY : (List.range 9).map (fun (i : Nat) => repS ⟨#[g0]⟩ (i + 1)) = Y at lc
      simp [wp_v, m2, c2, r9, lc, nolocO, noloc_strs]
      refine ⟨Y, rfl, by rw [← hY]; simp, fun s hs => ?_⟩
      rw [← hY] at hs
      obtain ⟨j, hj, rfl⟩ := List.mem_map.mp hs
      have := List.mem_range.mp hj
      exact (og0.rep (j + 1)).mono (by omega)
    · refine st_guard h (by simp [wp_v, m2, c2]) ?_
      have ir : inR (sz - 1) = true := inR_of (by omega) (by omega)
      obtain ⟨J, hJ⟩ : ∃ J : Nat → Sl → Hs → Prop, J = fun i ds h' => h' = h ∧ ∃ (s : Str) (x : Option D), Okt s (i + 1) ∧ ds = [some (.int c), some (.str S36), some (.int N), some (.int sz), some (.int at_), some (.str s), x] := ⟨_, rfl⟩
      refine st_for ((List.range (sz - 1).toNat).map fun (i : Nat) => .int (i : Int)) (fun _ => True) h J (by simp [wp_v, ir]) (by rw [hJ]; exact ⟨rfl, _, _, og0, rfl⟩) (fun _ _ _ _ => trivial) ?_ ?_
      · intro i d ds h' hd hj
        rw [hJ] at hj
        obtain ⟨rfl, s, x, os, rfl⟩ := hj
        have i12 : i < 12 := by
          have := (List.getElem?_eq_some_iff.mp hd).1
          simp at this
          omega
        obtain ⟨k, rfl, hk⟩ : ∃ k : Nat, d = .int k ∧ k < 12 := by
          have := List.mem_of_getElem? hd
          obtain ⟨x, hx, rfl⟩ := List.mem_map.mp this
          exact ⟨x, rfl, by simp at hx; omega⟩
        have kk : cMul (k : Int) (k : Int) = true := cMul_l (by omega) (by omega)
        have k3 : cMul 3 (k : Int) = true := cMul_l (by decide) (by decide)
        have n9 : ∀ j, cMul (N / 9) j = true := fun _ => cMul_l (by omega) (by omega)
        obtain ⟨g, hg, og⟩ := sign36 (i := mixI (N / 9 * ((k : Int) * (k : Int) + 3 * (k : Int) + 3)) % 36) (Int.emod_nonneg _ (by decide)) (Int.emod_lt_of_pos _ (by decide))
        have fin : ∀ x, J (i + 1) [some (.int c), some (.str S36), some (.int N), some (.int sz), some (.int at_), some (.str (s ++ ⟨#[g]⟩)), x] h' := fun x => by
          rw [hJ]; exact ⟨rfl, _, _, (os.app og).mono (by omega), rfl⟩
        have ln : s.length + (⟨#[g]⟩ : Str).length ≤ 16777216 := by
          have := os.len
          show s.length + 1 ≤ _
          omega
        have mx' := fun c => mx h' c
        simp [wp_v, d9, kk, k3, n9, mx', m36, l36, hg, ln, fin]
      · intro ds h' hj
        rw [hJ] at hj
        obtain ⟨rfl, s, x, os, rfl⟩ := hj
        rw [List.length_map, List.length_range] at os
        have os : Okt s 12 := os.mono (by omega)
        clear hJ J
        obtain ⟨sg, hsg⟩ : ∃ sg : Nat → Nat, ∀ j : Nat, atI S36.cps.toList ((N / 7488 + 7 * (j : Int)) % 26) = some (sg j) ∧ Okt ⟨#[sg j]⟩ 1 := by
          have : ∀ j : Nat, ∃ g, atI S36.cps.toList ((N / 7488 + 7 * (j : Int)) % 26) = some g ∧ Okt ⟨#[g]⟩ 1 := fun j => by
            have := Int.emod_lt_of_pos (N / 7488 + 7 * (j : Int)) (show (0 : Int) < 26 by decide)
            exact sign36 (Int.emod_nonneg _ (by decide)) (by omega)
          exact ⟨fun j => Classical.choose (this j), fun j => Classical.choose_spec (this j)⟩
        have oj : ∀ j, Okt (cutS s none (some at_) ++ ⟨#[sg j]⟩ ++ cutS s (some (at_ + 1)) none) 30 := fun j => (((os.cut _ _).app (hsg j).2).app (os.cut _ _)).mono (by omega)
        have l12 : s.length ≤ 16777216 := by have := os.len; omega
        have lc := lc_map1 (h0 := h') (gd := fun _ => True) (i := 6) (ds := [some (.int c), some (.str S36), some (.int N), some (.int sz), some (.int at_), some (.str s), none])
          (A := binM addF (binM addF (slM (vM 5) (noP) (someP (vM 4))) (binM ixF (vM 1) (binM modF (binM addF (binM fdivF (vM 2) (cM (.int 7488))) (binM mulXF (cM (.int 7)) (vM 6))) (cM (.int 26))))) (slM (vM 5) (someP (binM addF (vM 4) (cM (.int 1)))) (noP)))
          ((List.range 9).map fun (i : Nat) => .int (i : Int)) (((List.range 9).map fun (j : Nat) => cutS s none (some at_) ++ ⟨#[sg j]⟩ ++ cutS s (some (at_ + 1)) none).map D.str) (by simp) (by simp) (fun _ => trivial) (fun k d z acc e1 e2 => by
            rw [List.getElem?_map] at e1 e2
            rw [List.getElem?_map] at e2
            cases q : (List.range 9)[k]? with
            | none => rw [q] at e1; cases e1
            | some j =>
              rw [q] at e1 e2
              cases e1
              cases e2
              have k7 : cMul 7 (j : Int) = true := cMul_l (by decide) (by decide)
              have z1 := ((os.cut none (some at_)).app (hsg j).2).len
              have z2 := (os.cut (some (at_ + 1)) none).len
              have q1 : (cutS s none (some at_)).length + (⟨#[sg j]⟩ : Str).length ≤ 16777216 := by rw [app_len] at z1; omega
              have q2 : (cutS s none (some at_) ++ ⟨#[sg j]⟩).length + (cutS s (some (at_ + 1)) none).length ≤ 16777216 := by omega
              have ej := (hsg j).1
              have sl : ∀ lo hi h, slF (.str s) lo hi h = some (.str (cutS s lo hi), h) := fun lo hi h => by
                unfold slF
                simp [l12]
              refine R.wp_eq.mp ?_
              simp [wp_v, sl, d7, k7, m26, l36, ej, q1, q2])
        have r9 : inR 9 = true := inR_of (by decide) (by decide)
        generalize hY : (List.range 9).map (fun (j : Nat) => cutS s none (some at_) ++ ⟨#[sg j]⟩ ++ cutS s (some (at_ + 1)) none) = Y at lc
        simp [wp_v, r9, lc, nolocO, noloc_strs]
        refine ⟨Y, rfl, by rw [← hY]; simp, fun s hs => ?_⟩
        rw [← hY] at hs
        obtain ⟨j, hj, rfl⟩ := List.mem_map.mp hs
        exact oj j
  rw [S__law_names_v2]
  obtain ⟨d, h', e, ms, rfl, rfl, r⟩ := R.wp_ex main
  exact ⟨ms, e, r⟩
end DV
namespace DV
open PySem PySem.Spec PyProof.Rows L2
theorem lblank_ok (n : Nat) (h : Hs) (m : Int) : ∃ k : Int, F__law_blank (n + 1) [.int m] h = .ok (tD (.bl k)) h := by
  have d5 : ∀ i, cDiv i 5 = true := fun _ => cDiv_of (by decide) (by decide)
  have m4 : ∀ i, cMod i 4 = true := fun _ => cMod_of (by decide)
  have m3 : ∀ i, cMod i 3 = true := fun _ => cMod_of (by decide)
  have m5 : ∀ i, cMod i 5 = true := fun _ => cMod_of (by decide)
  have m9 : ∀ i, cMod i 1000000000 = true := fun _ => cMod_of (by decide)
  have w9 : cPow 10 9 = true := cPow_of (by decide) (by decide) (by decide)
  obtain ⟨z, hz, hz2⟩ := atI_of (zs := [D.int (1 + m / 5 % 4), .int (1 + m / 5 % 3), .int 1, .int (1000000000 - m / 5 % 3), .int (1 + m / 5 % 1000000000)]) (Int.emod_nonneg m (by decide : (5 : Int) ≠ 0)) (Int.emod_lt_of_pos m (by decide : (0 : Int) < 5))
  obtain ⟨k, rfl⟩ : ∃ k : Int, z = .int k := by
    have := List.mem_of_getElem? hz2
    simp only [List.mem_cons, List.not_mem_nil, or_false] at this
    rcases this with rfl | rfl | rfl | rfl | rfl <;> exact ⟨_, rfl⟩
  refine ⟨k, R.wp_eq.mp ?_⟩
  rw [S__law_blank]
  have ixl : ∀ xs i, ixF (.loc h.length) (.int i) (h ++ [AO.lst xs]) = (atI xs i).map fun d => (d, h ++ [AO.lst xs]) := fun xs i => ix_lst (by simp)
  simp [wp_pure, wp_run, m__law_blank, startD, wp_v, d5, m4, m3, m5, m9, w9, ixl, hz, tD, noloc, nolocL]
theorem strs_at {ns : List Str} {i : Int} {m : Nat} (hl : ns.length = m) (h0 : 0 ≤ i) (h1 : i < m) : ∃ s, s ∈ ns ∧ atI (ns.map D.str) i = some (.str s) := by
  obtain ⟨z, hz, hz2⟩ := atI_of (zs := ns.map D.str) h0 (by rw [List.length_map, hl]; exact h1)
  obtain ⟨s, hs, rfl⟩ := List.mem_map.mp (List.mem_of_getElem? hz2)
  exact ⟨s, hs, hz⟩
theorem allBL_snoc (u : Tr) : ∀ ts : List Tr, allBL (ts ++ [u]) = allBL ts ++ u.allB
  | [] => by simp [allBL]
  | t :: ts => by rw [List.cons_append, allBL, allBL, allBL_snoc u ts, List.append_assoc]
/-- what is built from the numbers on -/
structure BuiltB (len at_ at' : Nat) (t : Tr) : Prop where
  sok : t.sok
  le : at_ ≤ at'
  top : at' ≤ max len at_
  kn : t.knots ≤ 4 * (at' - at_) + 1
  ab : t.allB.length ≤ at' - at_
theorem build_ok (ms : List Int) (ns : List Str) (hn : ns.length = 9) (os : ∀ s ∈ ns, Okt s 30) (hms : ms.length ≤ 63) : ∀ (n : Nat) (h : Hs) (lm ln at_ deep : Nat), h[lm]? = some (.lst (ms.map D.int)) → h[ln]? = some (.lst (ns.map D.str)) → at_ ≤ 1000 → 1 ≤ deep → deep ≤ 11 → 13 ≤ n + deep →
    ∃ (t : Tr) (at' : Nat), F__law_build n [.loc lm, .int at_, .int deep, .loc ln] h = .ok (.tup [tD t, .int at']) h ∧ BuiltB ms.length at_ at' t ∧ t.depth + deep ≤ 12
  | 0, h, lm, ln, at_, deep, _, _, _, _, _, hd => by omega
  | n + 1, h, lm, ln, at_, deep, em, en, ha, h1, h11, hd => by
    obtain ⟨n, rfl⟩ : ∃ m, n = m + 1 := ⟨n - 1, by omega⟩
    have le := len_lst em
    rw [List.length_map] at le
    have main : (kPure.f (runM 4 9 (m__law_build (F__law_build (n + 1)) (F__law_blank (n + 1)))) [.loc lm, .int at_, .int deep, .loc ln] h).wp (fun d h' => ∃ (t : Tr) (at' : Nat), d = .tup [tD t, .int at'] ∧ h' = h ∧ BuiltB ms.length at_ at' t ∧ t.depth + deep ≤ 12) xF := by
      rw [wp_pure, wp_run]
      refine ⟨rfl, ?_⟩
      unfold m__law_build
      simp only [startD, List.map_cons, List.map_nil, List.length_cons, List.length_nil]
      by_cases c0 : (ms.length : Int) ≤ (at_ : Int)
      · simp [wp_v, le, c0, noloc, nolocL]
        refine ⟨.bk "z" [], at_, ⟨by simp [tD, tDs], rfl⟩, ⟨⟨by decide +kernel, trivial⟩, Nat.le_refl _, by omega, by simp [Tr.knots, knotsL], by simp [Tr.allB, allBL]⟩, by simp [Tr.depth, depthL]; omega⟩
      · refine st_guard h (by simp [wp_v, le, c0]) ?_
        obtain ⟨v, hv⟩ : ∃ v, ms[at_]? = some v := ⟨_, List.getElem?_eq_getElem (by omega)⟩
        have ix := ix_lst (i := (at_ : Int)) em
        rw [atI_nat (by rw [List.length_map]; omega), List.getElem?_map, hv] at ix
        simp at ix
        refine st_set (.int v) h (by simp [wp_v, ix]) ?_
        have m4 : ∀ i, cMod i 4 = true := fun _ => cMod_of (by decide)
        have d4 : ∀ i, cDiv i 4 = true := fun _ => cDiv_of (by decide) (by decide)
        have d24 : ∀ i, cDiv i 24 = true := fun _ => cDiv_of (by decide) (by decide)
        have m6 : ∀ i, cMod i 6 = true := fun _ => cMod_of (by decide)
        have m9 : ∀ i, cMod i 9 = true := fun _ => cMod_of (by decide)
        by_cases c1 : v % 4 = 1
        · obtain ⟨k, hk⟩ := lblank_ok n h (v / 4)
          simp [wp_v, m4, c1, d4, hk, noloc, nolocL, noloc_tD]
          exact ⟨.bl k, at_ + 1, ⟨rfl, by omega⟩, ⟨trivial, by omega, by omega, by simp [Tr.knots], by simp [Tr.allB]⟩, by simp [Tr.depth]; omega⟩
        · refine st_guard h (by simp [wp_v, m4, c1]) ?_
          obtain ⟨z, hz, hz2⟩ := atI_of (zs := [D.int 0, .int 0, .int 1, .int 2, .int 2, .int 3]) (Int.emod_nonneg (v / 4) (by decide : (6 : Int) ≠ 0)) (Int.emod_lt_of_pos (v / 4) (by decide : (0 : Int) < 6))
          obtain ⟨m0, rfl, hm0⟩ : ∃ m0 : Nat, z = .int m0 ∧ m0 ≤ 3 := by
            have := List.mem_of_getElem? hz2
            simp only [List.mem_cons, List.not_mem_nil, or_false] at this
            rcases this with rfl | rfl | rfl | rfl | rfl | rfl
            · exact ⟨0, rfl, by omega⟩
            · exact ⟨0, rfl, by omega⟩
            · exact ⟨1, rfl, by omega⟩
            · exact ⟨2, rfl, by omega⟩
            · exact ⟨2, rfl, by omega⟩
            · exact ⟨3, rfl, by omega⟩
          obtain ⟨L, hL⟩ : ∃ L, L = AO.lst [D.int 0, .int 0, .int 1, .int 2, .int 2, .int 3] := ⟨_, rfl⟩
          have ixl : ixF (.loc h.length) (.int (v / 4 % 6)) (h ++ [L]) = some (.int m0, h ++ [L]) := by
            rw [hL, ix_lst (xs := [D.int 0, .int 0, .int 1, .int 2, .int 2, .int 3]) (by simp), hz]; rfl
          refine st_set (.int m0) (h ++ [L]) (by rw [hL] at ixl ⊢; simp [wp_v, d4, m6, ixl]) ?_
          obtain ⟨many, hmy, mb⟩ : ∃ many : Nat, (if 10 < (deep : Int) then (0 : Int) else (m0 : Int)) = (many : Int) ∧ many ≤ 3 ∧ (deep = 11 → many = 0) := by
            by_cases c : 10 < (deep : Int)
            · exact ⟨0, by rw [if_pos c]; rfl, by omega, fun _ => rfl⟩
            · exact ⟨m0, by rw [if_neg c], hm0, fun _ => by omega⟩
          obtain ⟨mb, m11⟩ := mb
          simp only [List.set_cons_succ, List.set_cons_zero, List.replicate]
          refine st_seq [some (.loc lm), some (.int at_), some (.int deep), some (.loc ln), some (.int v), some (.int many), none, none, none] (h ++ [L]) ?_ ?_
          · simp [wp_v]
            by_cases c : (10 : Int) < (deep : Int)
            · rw [if_pos c] at hmy; simp [c, ← hmy]
            · rw [if_neg c] at hmy; simp [c, hmy]
          refine st_set (.int ((at_ + 1 : Nat) : Int)) (h ++ [L]) (by simp [wp_v]) ?_
          refine st_set (.loc (h.length + 1)) (h ++ [L, .lst []]) (by simp) ?_
          simp only [List.set_cons_succ, List.set_cons_zero]
          have ir : inR (many : Int) = true := inR_of (by omega) (by omega)
          obtain ⟨J, hJ⟩ : ∃ J : Nat → Sl → Hs → Prop, J = fun i ds h' => ∃ (ts : List Tr) (a : Nat), ts.length = i ∧ sokL ts ∧ at_ + 1 ≤ a ∧ a ≤ ms.length ∧ knotsL ts ≤ 4 * (a - (at_ + 1)) + i ∧ (allBL ts).length ≤ a - (at_ + 1) ∧ depthL ts + deep + 1 ≤ 12 ∧ h' = h ++ [L, .lst (tDs ts)] ∧
            ∃ x y, ds = [some (.loc lm), some (.int a), some (.int deep), some (.loc ln), some (.int v), some (.int many), some (.loc (h.length + 1)), x, y] := ⟨_, rfl⟩
          refine st_for ((List.range many).map fun (i : Nat) => .int (i : Int)) (fun _ => True) (h ++ [L, .lst []]) J (by simp [wp_v, ir]) (by rw [hJ]; exact ⟨[], at_ + 1, rfl, trivial, Nat.le_refl _, by omega, by simp [knotsL], by simp [allBL], by simp [depthL]; omega, rfl, _, _, rfl⟩) (fun _ _ _ _ => trivial) ?_ ?_
          · intro i d ds h' hd' hj
            rw [hJ] at hj
            obtain ⟨ts, a, tl, tk, a1, a2, kn, ab, dp, rfl, x, y, rfl⟩ := hj
            have im : i < many := by
              have := (List.getElem?_eq_some_iff.mp hd').1
              simpa using this
            have d10 : deep ≤ 10 := by
              rcases Nat.lt_or_ge deep 11 with q | q
              · omega
              · have := m11 (by omega)
                omega
            obtain ⟨u, a', hu, B, ud⟩ := build_ok ms ns hn os hms (n + 1) (h ++ [L, .lst (tDs ts)]) lm ln a (deep + 1) (get_app em) (get_app en) (by omega) (by omega) (by omega) (by omega)
            have ck : ckList (.loc (h.length + 1)) (h ++ [L, .lst (tDs ts)]) = true := ck_lst (xs := tDs ts) (by simp)
            have app := append_lst (h := h ++ [L, .lst (tDs ts)]) (l := h.length + 1) (v := tD u) (xs := tDs ts) (by simp) (by rw [tDs_len]; omega)
            rw [tDs_app] at app
            obtain ⟨b1, b2, b3, b4, b5⟩ := B
            have fin : ∀ x y, J (i + 1) [some (.loc lm), some (.int a'), some (.int deep), some (.loc ln), some (.int v), some (.int many), some (.loc (h.length + 1)), x, y] (h ++ [L, .lst (tDs (ts ++ [u]))]) := fun x y => by
              rw [hJ]
              refine ⟨ts ++ [u], a', by simp [tl], sokL_iff.mpr fun q hq => ?_, by omega, by omega, by rw [knotsL_snoc]; omega, by rw [allBL_snoc, List.length_append]; omega, by rw [depthL_snoc]; omega, rfl, _, _, rfl⟩
              rcases List.mem_append.mp hq with hq | hq
              · exact sokL_iff.mp tk q hq
              · have : q = u := by simpa using hq
                rw [this]; exact b1
            simp at hu app
            simp [wp_v, hu, ck, app, fin]
          · intro ds h' hj
            rw [hJ] at hj
            obtain ⟨ts, a, tl, tk, a1, a2, kn, ab, dp, rfl, x, y, rfl⟩ := hj
            rw [List.length_map, List.length_range] at tl kn
            obtain ⟨s, hs, hs2⟩ := strs_at hn (i := v / 24 % 9) (Int.emod_nonneg _ (by decide)) (by have := Int.emod_lt_of_pos (v / 24) (show (0 : Int) < 9 by decide); omega)
            have ixn := ix_lst (h := h ++ [L, .lst (tDs ts)]) (i := v / 24 % 9) (get_app en)
            rw [hs2] at ixn
            have tl := tup_loc (h := h ++ [L, .lst (tDs ts)]) (l := h.length + 1) (xs := tDs ts) (by simp)
            simp at ixn
            simp [wp_v, d24, m9, ixn, tl, noloc, nolocL, noloc_tDs]
            refine ⟨.bk s ts, a, ⟨by simp [tD], rfl⟩, ⟨⟨(os s hs).strOk, tk⟩, by omega, by omega, by rw [Tr.knots]; omega, by rw [Tr.allB]; omega⟩, by rw [Tr.depth]; omega⟩
    rw [S__law_build]
    obtain ⟨d, h', e, t, at', rfl, rfl, r⟩ := R.wp_ex main
    exact ⟨t, at', e, r⟩
end DV
namespace DV
open PySem PySem.Spec PyProof.Rows L2
theorem tree2_okB (ms : List Int) (ns : List Str) (hn : ns.length = 9) (os : ∀ s ∈ ns, Okt s 30) (hms : ms.length ≤ 63) (n : Nat) (h : Hs) (lm ln : Nat) (em : h[lm]? = some (.lst (ms.map D.int))) (en : h[ln]? = some (.lst (ns.map D.str))) (h12 : 12 ≤ n) :
    ∃ t : Tr, F__law_tree_v2 (n + 1) [.loc lm, .loc ln] h = .ok (tD t) h ∧ t.sok ∧ t.knots ≤ 300 ∧ t.depth ≤ 12 ∧ t.allB.length ≤ ms.length := by
  have main : (kPure.f (runM 2 5 (m__law_tree_v2 (F__law_build n))) [.loc lm, .loc ln] h).wp (fun d h' => ∃ t : Tr, d = tD t ∧ h' = h ∧ t.sok ∧ t.knots ≤ 300 ∧ t.depth ≤ 12 ∧ t.allB.length ≤ ms.length) xF := by
    rw [wp_pure, wp_run]
    refine ⟨rfl, ?_⟩
    unfold m__law_tree_v2
    simp only [startD, List.map_cons, List.map_nil, List.length_cons, List.length_nil]
    refine st_set (.loc h.length) (h ++ [.lst []]) (by simp) ?_
    refine st_set (.int ((0 : Nat) : Int)) (h ++ [.lst []]) ⟨rfl, rfl⟩ ?_
    simp only [List.set_cons_succ, List.set_cons_zero, List.replicate]
    rw [ws_seq]
    obtain ⟨J, hJ⟩ : ∃ J : Nat → Sl → Hs → Prop, J = fun k ds h' => ∃ (ts : List Tr) (a : Nat), ts.length + k = 9 ∧ sokL ts ∧ a ≤ ms.length ∧ knotsL ts ≤ 4 * a + ts.length ∧ (allBL ts).length ≤ a ∧ depthL ts ≤ 11 ∧ h' = h ++ [.lst (tDs ts)] ∧
      ∃ x, ds = [some (.loc lm), some (.loc ln), some (.loc h.length), some (.int a), x] := ⟨_, rfl⟩
    refine ws_while J FUEL 9 (by decide) (by rw [hJ]; exact ⟨[], 0, rfl, trivial, by omega, by simp [knotsL], by simp [allBL], by simp [depthL], rfl, _, rfl⟩) ?_
    intro k ds h' hj
    rw [hJ] at hj
    obtain ⟨ts, a, tk, ts0, al, kn, ab, dp, rfl, x, rfl⟩ := hj
    have le1 := len_lst (h := h ++ [.lst (tDs ts)]) (get_app em)
    have le2 := len_lst (h := h ++ [.lst (tDs ts)]) (l := h.length) (xs := tDs ts) (by simp)
    rw [List.length_map] at le1
    rw [tDs_len] at le2
    by_cases c1 : (a : Int) < (ms.length : Int)
    · by_cases c2 : (ts.length : Int) < 9
      · obtain ⟨u, a', hu, B, ud⟩ := build_ok ms ns hn os hms n (h ++ [.lst (tDs ts)]) lm ln a 1 (get_app em) (get_app en) (by omega) (by omega) (by omega) (by omega)
        have ck : ckList (.loc h.length) (h ++ [.lst (tDs ts)]) = true := ck_lst (xs := tDs ts) (by simp)
        have app := append_lst (h := h ++ [.lst (tDs ts)]) (l := h.length) (v := tD u) (xs := tDs ts) (by simp) (by rw [tDs_len]; omega)
        rw [tDs_app] at app
        obtain ⟨b1, b2, b3, b4, b5⟩ := B
        have fin : ∀ x, ∃ j, j < k ∧ J j [some (.loc lm), some (.loc ln), some (.loc h.length), some (.int a'), x] (h ++ [.lst (tDs (ts ++ [u]))]) := fun x => by
          refine ⟨k - 1, by omega, ?_⟩
          rw [hJ]
          refine ⟨ts ++ [u], a', by simp; omega, sokL_iff.mpr fun q hq => ?_, by omega, by rw [knotsL_snoc]; simp; omega, by rw [allBL_snoc, List.length_append]; omega, by rw [depthL_snoc]; omega, rfl, _, rfl⟩
          rcases List.mem_append.mp hq with hq | hq
          · exact sokL_iff.mp ts0 q hq
          · have : q = u := by simpa using hq
            rw [this]; exact b1
        simp at hu app le1 le2
        simp [wp_v, le1, le2, c1, c2, hu, ck, app, fin]
      · have hz : ts.length = 9 := by omega
        have tl := tup_loc (h := h ++ [.lst (tDs ts)]) (l := h.length) (xs := tDs ts) (by simp)
        have n1 : ¬ ((ts.length : Int) = 1) := by omega
        simp [wp_v, le1, le2, c1, c2, n1, tl, noloc, nolocL, noloc_tDs]
        refine ⟨.bk "root" ts, by simp [tD], ⟨by decide +kernel, ts0⟩, by rw [Tr.knots]; omega, by rw [Tr.depth]; omega, by rw [Tr.allB]; omega⟩
    · by_cases n1 : (ts.length : Int) = 1
      · obtain ⟨u, rfl⟩ : ∃ u, ts = [u] := by
          cases ts with
          | nil => simp at n1
          | cons u r =>
            cases r with
            | nil => exact ⟨u, rfl⟩
            | cons v r => simp at n1; omega
        have ix : ixF (.loc h.length) (.int 0) (h ++ [.lst (tDs [u])]) = some (tD u, h ++ [.lst (tDs [u])]) := by
          rw [ix_lst (xs := tDs [u]) (by simp)]
          rfl
        simp [knotsL, depthL, allBL] at kn dp ab
        try simp at ix
        simp [wp_v, le1, le2, c1, ix, noloc_tD]
        exact ⟨u, rfl, ts0.1, by omega, by omega, by omega⟩
      · have tl := tup_loc (h := h ++ [.lst (tDs ts)]) (l := h.length) (xs := tDs ts) (by simp)
        simp [wp_v, le1, le2, c1, n1, tl, noloc, nolocL, noloc_tDs]
        refine ⟨.bk "root" ts, by simp [tD], ⟨by decide +kernel, ts0⟩, by rw [Tr.knots]; omega, by rw [Tr.depth]; omega, by rw [Tr.allB]; omega⟩
  rw [S__law_tree_v2]
  obtain ⟨d, h', e, t, rfl, rfl, r⟩ := R.wp_ex main
  exact ⟨t, e, r⟩
theorem tree2_ok (ms : List Int) (ns : List Str) (hn : ns.length = 9) (os : ∀ s ∈ ns, Okt s 30) (hms : ms.length ≤ 63) (n : Nat) (h : Hs) (lm ln : Nat) (em : h[lm]? = some (.lst (ms.map D.int))) (en : h[ln]? = some (.lst (ns.map D.str))) (h12 : 12 ≤ n) :
    ∃ t : Tr, F__law_tree_v2 (n + 1) [.loc lm, .loc ln] h = .ok (tD t) h ∧ t.sok ∧ t.knots ≤ 300 ∧ t.depth ≤ 12 :=
  let ⟨t, a, b, c, d, _⟩ := tree2_okB ms ns hn os hms n h lm ln em en h12
  ⟨t, a, b, c, d⟩
theorem small2_ok (ns : List Str) (hn : ns.length = 9) (os : ∀ s ∈ ns, Okt s 30) (n : Nat) (h : Hs) (ln : Nat) (m : Int) (en : h[ln]? = some (.lst (ns.map D.str))) :
    ∃ t : Tr, F__law_small_v2 (n + 2) [.int m, .loc ln] h = .ok (tD t) h ∧ t.sok ∧ t.knots ≤ 3 ∧ t.depth ≤ 2 := by
  have m6 : ∀ i, cMod i 6 = true := fun _ => cMod_of (by decide)
  have m9 : ∀ i, cMod i 9 = true := fun _ => cMod_of (by decide)
  have m2 : ∀ i, cMod i 2 = true := fun _ => cMod_of (by decide)
  have d6 : ∀ i, cDiv i 6 = true := fun _ => cDiv_of (by decide) (by decide)
  have d9 : ∀ i, cDiv i 9 = true := fun _ => cDiv_of (by decide) (by decide)
  have d81 : ∀ i, cDiv i 81 = true := fun _ => cDiv_of (by decide) (by decide)
  obtain ⟨k0, hk0⟩ := lblank_ok n h (m / 6)
  obtain ⟨k1, hk1⟩ := lblank_ok n h (m / 6 / 9)
  obtain ⟨s1, ms1, hs1⟩ := strs_at hn (i := m / 6 % 9) (Int.emod_nonneg _ (by decide)) (by have := Int.emod_lt_of_pos (m / 6) (show (0 : Int) < 9 by decide); omega)
  obtain ⟨s2, ms2, hs2⟩ := strs_at hn (i := m / 6 / 81 % 9) (Int.emod_nonneg _ (by decide)) (by have := Int.emod_lt_of_pos (m / 6 / 81) (show (0 : Int) < 9 by decide); omega)
  have i1 : ∀ r : Hs, ixF (.loc ln) (.int (m / 6 % 9)) (h ++ r) = some (.str s1, h ++ r) := fun r => by rw [ix_lst (get_app en), hs1]; rfl
  have i2 : ∀ r : Hs, ixF (.loc ln) (.int (m / 6 / 81 % 9)) (h ++ r) = some (.str s2, h ++ r) := fun r => by rw [ix_lst (get_app en), hs2]; rfl
  have i1n := i1 []
  have i2n := i2 []
  rw [List.append_nil] at i1n i2n
  rw [S__law_small_v2]
  by_cases c0 : m % 6 < 2
  · refine ⟨.bl k0, R.wp_eq.mp ?_, trivial, by simp [Tr.knots], by simp [Tr.depth]⟩
    simp [wp_pure, wp_run, m__law_small_v2, startD, wp_v, m6, d6, c0, hk0, noloc_tD]
  · by_cases c2 : m % 6 = 2
    · refine ⟨.bk s1 [], R.wp_eq.mp ?_, ⟨(os s1 ms1).strOk, trivial⟩, by simp [Tr.knots, knotsL], by simp [Tr.depth, depthL]⟩
      simp [wp_pure, wp_run, m__law_small_v2, startD, wp_v, m6, d6, m9, c0, c2, i1n, noloc, nolocL, tD, tDs]
    · by_cases c3 : m % 6 = 3
      · refine ⟨.bk s2 [.bl k1], R.wp_eq.mp ?_, ⟨(os s2 ms2).strOk, trivial, trivial⟩, by simp [Tr.knots, knotsL], by simp [Tr.depth, depthL]⟩
        have nl := noloc_tD (.bl k1)
        simp [wp_pure, wp_run, m__law_small_v2, startD, wp_v, m6, d6, m9, d9, d81, c0, c2, c3, i1n, i2n, hk1, noloc, nolocL, tD, tDs]
      · simp [tD] at hk1
        by_cases c4 : m % 6 % 2 = 0
        · refine ⟨.bk s2 [.bk s1 [], .bl k1], R.wp_eq.mp ?_, ⟨(os s2 ms2).strOk, ⟨(os s1 ms1).strOk, trivial⟩, trivial, trivial⟩, by simp [Tr.knots, knotsL], by simp [Tr.depth, depthL]⟩
          have ixl : ∀ xs i, ixF (.loc h.length) (.int i) (h ++ [AO.lst xs]) = (atI xs i).map fun d => (d, h ++ [AO.lst xs]) := fun xs i => ix_lst (by simp)
          simp [wp_pure, wp_run, m__law_small_v2, startD, wp_v, m6, d6, m9, d9, m2, d81, c0, c2, c3, c4, i1, i2, i1n, i2n, hk1, ixl, noloc, nolocL, tD, tDs]
        · have c4 : m % 6 % 2 = 1 := by omega
          refine ⟨.bk s2 [.bl k1, .bl k1], R.wp_eq.mp ?_, ⟨(os s2 ms2).strOk, trivial, trivial, trivial⟩, by simp [Tr.knots, knotsL], by simp [Tr.depth, depthL]⟩
          have ixl : ∀ xs i, ixF (.loc h.length) (.int i) (h ++ [AO.lst xs]) = (atI xs i).map fun d => (d, h ++ [AO.lst xs]) := fun xs i => ix_lst (by simp)
          simp [wp_pure, wp_run, m__law_small_v2, startD, wp_v, m6, d6, m9, d9, m2, d81, c0, c2, c3, c4, i1, i2, i1n, i2n, hk1, ixl, noloc, nolocL, tD, tDs]
theorem law_filled_eq : ∀ n, F__law_filled n = F_exchanged n
  | 0 => rfl
  | n + 1 => by
    rw [S__law_filled, S_exchanged, law_filled_eq n]; rfl
theorem law_blanks_eq : ∀ n, F__law_blanks n = F_blanks_of n
  | 0 => rfl
  | n + 1 => by
    rw [S__law_blanks, S_blanks_of, law_blanks_eq n]; rfl
end DV
namespace DV
open PySem PySem.Spec PyProof.Rows L2
theorem nth_not_mem {bs : List Int} (nd : bs.Nodup) {i : Nat} {x : Int} (q : bs[i]? = some x) : x ∉ bs.take i := by
  intro m
  have il := (List.getElem?_eq_some_iff.mp q).1
  have h2 := List.drop_eq_getElem_cons il
  rw [List.getElem?_eq_getElem il] at q
  have q2 : bs[i] = x := Option.some.inj q
  rw [q2] at h2
  have h1 : bs = bs.take i ++ x :: bs.drop (i + 1) := by rw [← h2, List.take_append_drop]
  rw [h1] at nd
  exact (List.nodup_append.mp nd).2.2 _ m _ List.mem_cons_self rfl
/-- small trees -/
def Tr.tiny (t : Tr) : Prop := t.sok ∧ t.knots ≤ 3 ∧ t.depth ≤ 2
theorem filling2_ok (ns : List Str) (hn : ns.length = 9) (os : ∀ s ∈ ns, Okt s 30) (n : Nat) (h : Hs) (ln : Nat) (t : Tr) (m : Int) (en : h[ln]? = some (.lst (ns.map D.str))) (hm : 0 ≤ m ∧ m < 2305843009213693951) (hd : t.depth ≤ n + 2) (hk : t.knots ≤ 1000000) :
    ∃ fs : List (Int × Tr), F__law_filling_v2 (n + 3) [tD t, .int m, .loc ln] h = .ok (.loc h.length) (h ++ [.dct (mD tD fs)]) ∧ fs.map (·.1) = t.blanks ∧ ∀ p ∈ fs, p.2.tiny := by
  have main : (kNew.f (runM 3 6 (m__law_filling_v2 (F__law_blanks (n + 2)) (F__law_mixed (n + 2)) (F__law_small_v2 (n + 2)))) [tD t, .int m, .loc ln] h).wp (fun d h' => ∃ fs : List (Int × Tr), d = .loc h.length ∧ h' = h ++ [.dct (mD tD fs)] ∧ fs.map (·.1) = t.blanks ∧ ∀ p ∈ fs, p.2.tiny) xF := by
    refine wp_new ?_
    rw [wp_run]
    refine ⟨rfl, ?_⟩
    unfold m__law_filling_v2
    simp only [startD, List.map_cons, List.map_nil, List.length_cons, List.length_nil]
    refine st_set (.loc h.length) (h ++ [.dct []]) ⟨rfl, rfl⟩ ?_
    have bo := blanks_of_ok (n + 2) (h ++ [.dct []]) t hd hk
    rw [← law_blanks_eq] at bo
    have bl := blanks_len t
    have nd := blanks_nodup t
    generalize t.blanks = bs at bo bl nd ⊢
    simp only [List.set_cons_succ, List.set_cons_zero, List.replicate]
    obtain ⟨J, hJ⟩ : ∃ J : Nat → Sl → Hs → Prop, J = fun i ds h' => ∃ fs : List (Int × Tr), fs.map (·.1) = bs.take i ∧ (∀ p ∈ fs, p.2.tiny) ∧ h' = h ++ [.dct (mD tD fs), .lst (bs.map D.int)] ∧ ∃ a b, ds = [some (tD t), some (.int m), some (.loc ln), some (.loc h.length), a, b] := ⟨_, rfl⟩
    refine st_for (numD (bs.map D.int)) (fun h' => h'[h.length + 1]? = some (.lst (bs.map D.int))) (h ++ [.dct [], .lst (bs.map D.int)]) J ?_ (by rw [hJ]; exact ⟨[], by simp, by simp, rfl, _, _, rfl⟩) (fun i ds h' j => by rw [hJ] at j; obtain ⟨fs, _, _, rfl, _⟩ := j; simp) ?_ ?_
    · simp at bo
      simp [wp_v, bo, enumF]
    · intro i d ds h' hd' hj
      rw [hJ] at hj
      obtain ⟨fs, fk, ft, rfl, a, b, rfl⟩ := hj
      obtain ⟨x, hx, rfl⟩ := numD_get hd'
      rw [List.getElem?_map] at hx
      cases q : bs[i]? with
      | none => rw [q] at hx; cases hx
      | some x' =>
        rw [q] at hx
        cases hx
        have il : i < bs.length := (List.getElem?_eq_some_iff.mp q).1
        have e1 : bs.take (i + 1) = bs.take i ++ [x'] := by rw [List.take_add_one, q]; rfl
        have nm := nth_not_mem nd q
        have fl : fs.length = i := by rw [← List.length_map (f := (·.1)), fk, List.length_take]; omega
        have ii : cMul (i : Int) (i : Int) = true := cMul_l (by omega) (by omega)
        have i3 : cMul 3 (i : Int) = true := cMul_l (by decide) (by decide)
        have mm : ∀ j, cMul m j = true := fun _ => cMul_l (by omega) (by omega)
        obtain ⟨u, hu, tu⟩ := small2_ok ns hn os n (h ++ [.dct (mD tD fs), .lst (bs.map D.int)]) ln (mixI (m * ((i : Int) * (i : Int) + 3 * (i : Int) + 3))) (get_app en)
        have mx := mixed_ok (n + 1) (h ++ [.dct (mD tD fs), .lst (bs.map D.int)]) (m * ((i : Int) * (i : Int) + 3 * (i : Int) + 3))
        have st := setd_new (fs := fs) (h := h ++ [.dct (mD tD fs), .lst (bs.map D.int)]) (l := h.length) (k := x') (u := u) (by simp) (by rw [fk]; exact nm) (by omega)
        have fin : ∀ a b, J (i + 1) [some (tD t), some (.int m), some (.loc ln), some (.loc h.length), a, b] (h ++ [.dct (mD tD (fs ++ [(x', u)])), .lst (bs.map D.int)]) := fun a b => by
          rw [hJ]
          refine ⟨fs ++ [(x', u)], by rw [List.map_append, fk, e1]; rfl, fun p hp => ?_, rfl, _, _, rfl⟩
          rcases List.mem_append.mp hp with hp | hp
          · exact ft p hp
          · have : p = (x', u) := by simpa using hp
            rw [this]; exact tu
        simp at st
        simp [wp_v, ii, i3, mm, mx, hu, st, fin]
    · intro ds h' hj
      rw [hJ] at hj
      obtain ⟨fs, fk, ft, rfl, a, b, rfl⟩ := hj
      rw [numD_len, List.length_map, List.take_length] at fk
      have nl := noloc_mDt fs
      simp [wp_v, nl]
      exact ⟨fs, rfl, fk, fun a b hp => ft _ hp⟩
  rw [S__law_filling_v2]
  obtain ⟨d, h', e, fs, rfl, rfl, r⟩ := R.wp_ex main
  exact ⟨fs, e, r⟩
end DV
namespace DV
open PySem PySem.Spec PyProof.Rows L2
inductive Cl where
  | twice (a b : List Int)
  | unlike (a : List Int)
def clD : Cl → D
  | .twice a b => .tup [.str "twice", .tup (plZ a), .tup (plZ b)]
  | .unlike a => .tup [.str "unlike", .tup (plZ a)]
def clO : Option Cl → D
  | none => .non
  | some c => clD c
abbrev FS := List (Int × (List Int × Tr))
def frsD (p : List Int × Tr) : D := .tup [.tup (plZ p.1), tD p.2]
mutual
noncomputable def clU : Tr → Tr → List Int → FS → Option Cl × FS
  | .bl k, t, pl, fs => match mAt fs k with
    | some p => (if p.2 = t then none else some (.twice p.1 pl), fs)
    | none => (none, fs ++ [(k, (pl, t))])
  | .bk s ps, t, pl, fs => if sameB (.bk s ps) t = true then clL ps t.parts pl 0 fs else (some (.unlike pl), fs)
noncomputable def clL : List Tr → List Tr → List Int → Nat → FS → Option Cl × FS
  | [], _, _, _, fs => (none, fs)
  | _ :: _, [], pl, _, fs => (some (.unlike pl), fs)
  | p :: ps, q :: qs, pl, j, fs => if (clU p q (pl ++ [(j : Int)]) fs).1.isNone = true then clL ps qs pl (j + 1) (clU p q (pl ++ [(j : Int)]) fs).2 else clU p q (pl ++ [(j : Int)]) fs
end
theorem clL_app : ∀ (a b c d : List Tr) (pl : List Int) (j : Nat) (fs : FS), a.length = b.length → clL (a ++ c) (b ++ d) pl j fs = if (clL a b pl j fs).1.isNone = true then clL c d pl (j + a.length) (clL a b pl j fs).2 else clL a b pl j fs
  | [], [], c, d, pl, j, fs, _ => by simp [clL]
  | [], _ :: _, _, _, _, _, _, h => by cases h
  | _ :: _, [], _, _, _, _, _, h => by cases h
  | p :: a, q :: b, c, d, pl, j, fs, h => by
    rw [List.cons_append, List.cons_append, clL, clL]
    by_cases z : (clU p q (pl ++ [(j : Int)]) fs).1.isNone = true
    · have e : j + (p :: a).length = j + 1 + a.length := by rw [List.length_cons]; omega
      rw [if_pos z, if_pos z, clL_app a b c d _ _ _ (by simpa using h), e]
    · rw [if_neg z, if_neg z, if_neg z]
theorem clL_one (p q : Tr) (pl : List Int) (j : Nat) (fs : FS) : clL [p] [q] pl j fs = clU p q (pl ++ [(j : Int)]) fs := by
  rw [clL, clL]
  by_cases z : (clU p q (pl ++ [(j : Int)]) fs).1.isNone = true
  · rw [if_pos z]
    exact Prod.ext (Option.isNone_iff_eq_none.mp z).symm rfl
  · rw [if_neg z]
def fsM (fs : FS) : List (Int × Tr) := fs.map fun p => (p.1, p.2.2)
theorem fsM_at (k : Int) : ∀ fs : FS, mAt (fsM fs) k = (mAt fs k).map fun p => p.2
  | [] => rfl
  | (j, p) :: fs => by
    have ih := fsM_at k fs
    unfold fsM at ih ⊢
    rw [List.map_cons, mAt_cons, mAt_cons, ih]
    split <;> rfl
mutual
/-- a clash is found where the form does not fit -/
theorem clU_fit : ∀ (f t : Tr) (pl : List Int) (fs : FS), (clU f t pl fs).1.isNone = (fitU f t (fsM fs)).1 ∧ fsM (clU f t pl fs).2 = (fitU f t (fsM fs)).2
  | .bl k, t, pl, fs => by
    rw [clU, fitU, fsM_at]
    cases e : mAt fs k with
    | some p =>
      simp only [Option.map_some]
      by_cases c : p.2 = t
      · simp [c]
      · simp [c]
    | none => simp [fsM]
  | .bk s ps, t, pl, fs => by
    rw [clU, fitU]
    by_cases c : sameB (.bk s ps) t = true
    · rw [if_pos c, if_pos c]; exact clL_fit ps t.parts pl 0 fs
    · rw [if_neg c, if_neg c]; exact ⟨rfl, rfl⟩
theorem clL_fit : ∀ (a b : List Tr) (pl : List Int) (j : Nat) (fs : FS), (clL a b pl j fs).1.isNone = (fitL a b (fsM fs)).1 ∧ fsM (clL a b pl j fs).2 = (fitL a b (fsM fs)).2
  | [], b, pl, j, fs => by rw [clL, fitL]; exact ⟨rfl, rfl⟩
  | _ :: _, [], pl, j, fs => by rw [clL, fitL]; exact ⟨rfl, rfl⟩
  | p :: a, q :: b, pl, j, fs => by
    obtain ⟨h1, h2⟩ := clU_fit p q (pl ++ [(j : Int)]) fs
    rw [clL, fitL]
    by_cases z : (clU p q (pl ++ [(j : Int)]) fs).1.isNone = true
    · rw [if_pos z, if_pos (by rw [← h1]; exact z), ← h2]
      exact clL_fit a b pl (j + 1) (clU p q (pl ++ [(j : Int)]) fs).2
    · rw [if_neg z, if_neg (by rw [← h1]; exact z)]
      exact ⟨h1, h2⟩
end
theorem noloc_plZ (p : List Int) : nolocL (plZ p) = true := noloc_ints p
theorem noloc_frs (p : List Int × Tr) : noloc (frsD p) = true := by simp [frsD, noloc, nolocL, noloc_plZ, noloc_tD]
theorem noloc_mDf (fs : FS) : nolocO (.dct (mD frsD fs)) = true := noloc_mD noloc_frs fs
theorem set_same_keepF {h : Hs} {l : Nat} {fs : FS} : ∀ (i : Nat) (o : AO), i < h.length → (h.set l (.dct (mD frsD fs)))[i]? = some o → h[i]? = some o ∨ nolocO o = true := by
  intro i o hi e
  by_cases c : i = l
  · subst c
    rw [List.getElem?_set_self hi] at e
    cases e
    exact .inr (noloc_mDf fs)
  · rw [List.getElem?_set_ne (Ne.symm c)] at e
    exact .inl e
theorem noloc_clO (c : Option Cl) : noloc (clO c) = true := by
  cases c with
  | none => rfl
  | some c => cases c <;> simp [clO, clD, noloc, nolocL, noloc_plZ]
theorem isNon_clO (c : Option Cl) (h : Hs) : isnNF (clO c) .non h = some (.bl (!c.isNone), h) ∧ isNF (clO c) .non h = some (.bl c.isNone, h) := by
  cases c with
  | none => exact ⟨rfl, rfl⟩
  | some c => cases c <;> exact ⟨rfl, rfl⟩
theorem clU_ok : ∀ (n : Nat) (h : Hs) (l : Nat) (fs : FS) (f t : Tr) (pl : List Int), h[l]? = some (.dct (mD frsD fs)) → (∀ p ∈ fsM fs, p.2.eqk) → t.eqk → f.sok → f.depth + 1 ≤ n → fs.length + f.knots ≤ 1000000 → pl.length + f.depth ≤ 1000000 →
    F_clash_under n [tD f, tD t, .tup (plZ pl), .loc l] h = .ok (clO (clU f t pl fs).1) (h.set l (.dct (mD frsD (clU f t pl fs).2)))
  | 0, h, l, fs, f, t, pl, _, _, _, _, hn, _, _ => by omega
  | n + 1, h, l, fs, .bl k, t, pl, e, hf, ht, sf, hn, hk, hp => by
    rw [S_clash_under]
    refine R.wp_eq.mp (wp_eff ?_)
    have lt : l < h.length := (List.getElem?_eq_some_iff.mp e).1
    have sd := setd_dct (x := frsD (pl, t)) (k := .int k) (kk := .inl k) e rfl (by rw [mD_len]; omega)
    rw [val_mD] at sd
    rw [clU]
    cases z : mAt fs k with
    | some p =>
      rw [z] at sd
      have eu := hf (k, p.2) (List.mem_map.mpr ⟨(k, p), mAt_mem z, rfl⟩)
      have ne := ne_treeS (h := h) eu ht
      have hs : h.set l (.dct (mD frsD fs)) = h := by
        obtain ⟨q, e⟩ := List.getElem?_eq_some_iff.mp e
        rw [← e]; exact List.set_getElem_self q
      have np := noloc_plZ p.1
      have nq := noloc_plZ pl
      simp only [hs]
      simp [frsD] at sd
      by_cases c : p.2 = t
      · rw [c, decide_eq_true rfl] at ne
        simp [wp_run, m_clash_under, startD, wp_v, tD, ck_dct e, sd, ne, noloc, c, clO]
        exact fun i o _ e => .inl e
      · rw [decide_eq_false c] at ne
        simp [wp_run, m_clash_under, startD, wp_v, tD, ck_dct e, sd, ne, noloc, nolocL, np, nq, c, clO, clD]
        exact fun i o _ e => .inl e
    | none =>
      rw [z] at sd
      have pm := put_mD frsD fs k (pl, t)
      rw [mPut_new (mAt_none.mp z)] at pm
      have ne := fun h => ne_treeS (h := h) ht ht
      simp [pm] at sd
      simp [frsD] at sd
      simp [wp_run, m_clash_under, startD, wp_v, tD, ck_dct e, sd, ne, noloc, clO]
      exact ⟨fun i o hi e => set_same_keepF i o hi e, List.take_of_length_le (by simp)⟩
  | n + 1, h, l, fs, .bk s ps, t, pl, e, hf, ht, sf, hn, hk, hp => by
    obtain ⟨n, rfl⟩ : ∃ m, n = m + 1 := ⟨n - 1, by rw [Tr.depth] at hn; omega⟩
    rw [S_clash_under]
    refine R.wp_eq.mp (wp_eff ?_)
    have lt : l < h.length := (List.getElem?_eq_some_iff.mp e).1
    have sb := fun h => same_blocks_ok n h (.bk s ps) t sf ht.1 (by omega)
    have hs : h.set l (.dct (mD frsD fs)) = h := by
      obtain ⟨q, e⟩ := List.getElem?_eq_some_iff.mp e
      rw [← e]; exact List.set_getElem_self q
    rw [clU]
    by_cases c : sameB (.bk s ps) t = true
    · rw [if_pos c]
      rw [c] at sb
      cases t with
      | bl j => cases c
      | bk s' qs =>
        have cl : ps.length = qs.length := by
          unfold sameB at c
          exact (of_decide_eq_true c).2
        rw [Tr.depth] at hn hp
        rw [Tr.knots] at hk
        simp only [Tr.parts]
        simp [wp_run, m_clash_under, startD, wp_v]
        simp [tD] at sb
        simp [tD, wp_v, sb, enumF, truD]
        obtain ⟨J, hJ⟩ : ∃ J : Nat → Sl → Hs → Prop, J = fun i ds h' => (clL (ps.take i) (qs.take i) pl 0 fs).1.isNone = true ∧ h' = h.set l (.dct (mD frsD (clL (ps.take i) (qs.take i) pl 0 fs).2)) ∧ ∃ a b c d e, ds = [some (tD (.bk s ps)), some (tD (.bk s' qs)), some (.tup (plZ pl)), some (.loc l), a, b, c, d, e] := ⟨_, rfl⟩
        refine ws_loop _ J (by rw [hJ]; exact ⟨by simp [clL], by simp [clL, hs], _, _, _, _, _, rfl⟩) (fun _ _ _ _ => trivial) ?_ ?_
        · intro i d ds h' hd hj
          rw [hJ] at hj
          obtain ⟨tr, rfl, a, b, c', d', e', rfl⟩ := hj
          obtain ⟨x, hx, rfl⟩ := numD_get hd
          obtain ⟨p, hp', rfl⟩ := tDs_get hx
          have mp := List.mem_of_getElem? hp'
          have ip : i < ps.length := (List.getElem?_eq_some_iff.mp hp').1
          obtain ⟨q, hq⟩ : ∃ q, qs[i]? = some q := ⟨_, List.getElem?_eq_getElem (by omega)⟩
          have mq := List.mem_of_getElem? hq
          have dp := depth_mem mp
          have e1 : ps.take (i + 1) = ps.take i ++ [p] := by rw [List.take_add_one, hp']; rfl
          have e2 : qs.take (i + 1) = qs.take i ++ [q] := by rw [List.take_add_one, hq]; rfl
          have tl : (ps.take i).length = (qs.take i).length := by rw [List.length_take, List.length_take, cl]
          have tli : (ps.take i).length = i := by rw [List.length_take]; omega
          have e3 : clL (ps.take (i + 1)) (qs.take (i + 1)) pl 0 fs = clU p q (pl ++ [(i : Int)]) (clL (ps.take i) (qs.take i) pl 0 fs).2 := by
            rw [e1, e2, clL_app _ _ _ _ _ _ _ tl, if_pos tr, clL_one, tli, Nat.zero_add]
          obtain ⟨o1, o2, _⟩ := fitL_ok Tr.eqk eqk_parts (ps.take i) (qs.take i) (fsM fs) hf fun q hq => eqk_mem ht (List.mem_of_mem_take hq)
          obtain ⟨_, fm⟩ := clL_fit (ps.take i) (qs.take i) pl 0 fs
          rw [← fm] at o1 o2
          have l1 : ∀ fs : FS, (fsM fs).length = fs.length := fun fs => List.length_map _
          rw [l1, l1] at o2
          have ks : knotsL (ps.take i) + p.knots ≤ knotsL ps := by
            have : knotsL (ps.take (i + 1)) ≤ knotsL ps := by
              rw [knotsL_sum, knotsL_sum]
              have : (ps.map Tr.knots).sum = ((ps.take (i + 1)).map Tr.knots).sum + ((ps.drop (i + 1)).map Tr.knots).sum := by
                rw [← List.sum_append, ← List.map_append, List.take_append_drop]
              omega
            rw [e1, knotsL_snoc] at this
            exact this
          have ih := clU_ok (n + 1) (h.set l (.dct (mD frsD (clL (ps.take i) (qs.take i) pl 0 fs).2))) l (clL (ps.take i) (qs.take i) pl 0 fs).2 p q (pl ++ [(i : Int)]) (by simp [lt]) o1 (eqk_mem ht mq) (sokL_iff.mp sf.2 p mp) (by omega) (by omega) (by simp; omega)
          rw [← e3, List.set_set] at ih
          have ia : atI (tDs qs) (i : Int) = some (tD q) := by
            rw [atI_nat (by rw [tDs_len]; omega), tDs_map, List.getElem?_map, hq]; rfl
          have zp : (plZ pl).length + 1 ≤ 16777216 := by rw [plZ_len]; omega
          have ep : plZ pl ++ [.int (i : Int)] = plZ (pl ++ [(i : Int)]) := by simp [plZ]
          generalize hA : clL (ps.take (i + 1)) (qs.take (i + 1)) pl 0 fs = A at ih e3
          obtain ⟨in1, in2⟩ := isNon_clO A.1 (h.set l (.dct (mD frsD A.2)))
          by_cases z : A.1.isNone = true
          · have fin : ∀ a b c d e, J (i + 1) [some (tD (.bk s ps)), some (tD (.bk s' qs)), some (.tup (plZ pl)), some (.loc l), a, b, c, d, e] (h.set l (.dct (mD frsD A.2))) := fun a b c d e => by
              rw [hJ]
              refine ⟨by rw [hA]; exact z, by rw [hA], _, _, _, _, _, rfl⟩
            rw [z] at in1
            simp [tD] at fin
            simp at zp
            simp [wp_v, tD, ia, zp, ep, ih, in1, fin]
          · have z : A.1.isNone = false := by cases q : A.1.isNone with | true => exact absurd q z | false => rfl
            have fL : clL ps qs pl 0 fs = A := by
              have h1 : ps = ps.take (i + 1) ++ ps.drop (i + 1) := (List.take_append_drop _ _).symm
              have h2 : qs = qs.take (i + 1) ++ qs.drop (i + 1) := (List.take_append_drop _ _).symm
              rw [h1, h2, clL_app _ _ _ _ _ _ _ (by rw [List.length_take, List.length_take, cl]), hA, if_neg (by rw [z]; exact Bool.false_ne_true)]
            rw [z] at in1
            rw [fL]
            have nl := noloc_clO A.1
            simp at zp
            simp [wp_v, tD, ia, zp, ep, ih, in1, nl]
            exact ⟨fun i o hi e => set_same_keepF i o hi e, List.take_of_length_le (by simp)⟩
        · intro ds h' hj
          rw [hJ] at hj
          obtain ⟨tr, rfl, a, b, c', d', e', rfl⟩ := hj
          have t1 : ps.take (numD (tDs ps)).length = ps := by rw [numD_len, tDs_len, List.take_length]
          have t2 : qs.take (numD (tDs ps)).length = qs := by rw [numD_len, tDs_len, cl, List.take_length]
          rw [t1, t2] at tr ⊢
          have tn : (clL ps qs pl 0 fs).1 = none := Option.isNone_iff_eq_none.mp tr
          simp [wp_v, noloc, tn, clO]
          exact ⟨fun i o hi e => set_same_keepF i o hi e, List.take_of_length_le (by simp)⟩
    · rw [if_neg c]
      have c : sameB (.bk s ps) t = false := by simpa using c
      rw [c] at sb
      have nq := noloc_plZ pl
      simp [wp_run, m_clash_under, startD, wp_v]
      simp [tD] at sb
      simp [tD, wp_v, sb, truD, noloc, nolocL, nq, hs, clO, clD]
      exact fun i o _ e => .inl e
theorem first_clash_ok (n : Nat) (h : Hs) (f t : Tr) (ht : t.eqk) (sf : f.sok) (hn : f.depth + 1 ≤ n) (hk : f.knots ≤ 1000000) : F_first_clash (n + 1) [tD f, tD t] h = .ok (clO (clU f t [] []).1) h := by
  rw [S_first_clash]
  refine R.wp_eq.mp ?_
  have dk := depth_knots f
  have cu := clU_ok n (h ++ [.dct []]) h.length [] f t [] (by simp; rfl) (by simp [fsM]) ht sf hn (by simpa using hk) (by simp; omega)
  have nl := noloc_clO (clU f t [] []).1
  simp [plZ] at cu
  simp [wp_pure, wp_run, m_first_clash, startD, wp_v, cu, nl]
end DV
namespace DV
open PySem PySem.Spec PyProof.Rows L2
mutual
theorem fill_depth {f : Int → Option Tr} {d : Nat} (b : ∀ k u, f k = some u → u.depth ≤ d + 1) : ∀ t : Tr, (t.fill f).depth ≤ t.depth + d
  | .bl k => by
    rw [Tr.fill, Tr.depth]
    cases e : f k with
    | none => simp [Tr.depth]
    | some u => have := b k u e; show u.depth ≤ _; omega
  | .bk s ps => by
    rw [Tr.fill, Tr.depth, Tr.depth]
    have := fillL_depth b ps
    by_cases c : ps = []
    · rw [c]; simp [fillL, depthL]
    · rw [if_neg c] at this; omega
theorem fillL_depth {f : Int → Option Tr} {d : Nat} (b : ∀ k u, f k = some u → u.depth ≤ d + 1) : ∀ ts : List Tr, depthL (fillL f ts) ≤ if ts = [] then 0 else depthL ts + d
  | [] => by simp [fillL, depthL]
  | t :: ts => by
    rw [fillL, depthL, depthL, if_neg (by simp)]
    have h1 := fill_depth b t
    have h2 := fillL_depth b ts
    split at h2 <;> omega
end
mutual
theorem fill_knots_le {f : Int → Option Tr} {c : Nat} (hc : 1 ≤ c) (b : ∀ k u, f k = some u → u.knots ≤ c) : ∀ t : Tr, (t.fill f).knots ≤ c * t.knots
  | .bl k => by
    rw [Tr.fill, Tr.knots]
    cases e : f k with
    | none => simp [Tr.knots]; omega
    | some u => have := b k u e; show u.knots ≤ _; omega
  | .bk s ps => by
    rw [Tr.fill, Tr.knots, Tr.knots, Nat.mul_add]
    have := fillL_knots_le hc b ps
    omega
theorem fillL_knots_le {f : Int → Option Tr} {c : Nat} (hc : 1 ≤ c) (b : ∀ k u, f k = some u → u.knots ≤ c) : ∀ ts : List Tr, knotsL (fillL f ts) ≤ c * knotsL ts
  | [] => by simp [fillL, knotsL]
  | t :: ts => by
    rw [fillL, knotsL, knotsL, Nat.mul_add]
    have h1 := fill_knots_le hc b t
    have h2 := fillL_knots_le hc b ts
    omega
end
theorem tiny_at {fs : List (Int × Tr)} (ft : ∀ p ∈ fs, p.2.tiny) {k : Int} {u : Tr} (e : mAt fs k = some u) : u.tiny := ft _ (mAt_mem e)
theorem fill_tiny {t : Tr} {fs : List (Int × Tr)} (g : t.sok) (d : t.depth ≤ 40) (ft : ∀ p ∈ fs, p.2.tiny) : (t.fill (mAt fs)).eqk ∧ (t.fill (mAt fs)).depth ≤ t.depth + 1 ∧ (t.fill (mAt fs)).knots ≤ 3 * t.knots := by
  have h1 := fill_depth (f := mAt fs) (d := 1) (fun k u e => (tiny_at ft e).2.2) t
  exact ⟨⟨fill_sok t g fun k u e => (tiny_at ft e).1, by omega⟩, h1, fill_knots_le (by decide) (fun k u e => (tiny_at ft e).2.1) t⟩
end DV
namespace DV
open PySem PySem.Spec PyProof.Rows L2
end DV
namespace DV
open PySem PySem.Spec PyProof.Rows L2
theorem pyOk_ints (xs : List Int) : pyOkL (xs.map D.int) = true := by
  induction xs with
  | nil => rfl
  | cons x xs ih => simp [pyOkL, pyOk, ih]
end DV
namespace DV
open PySem PySem.Spec PyProof.Rows L2
theorem places2_ok : ∀ (n : Nat) (h : Hs) (t : Tr), t.sok → t.depth + 1 ≤ n → t.knots ≤ 1000000 → F__law_places_v2 n [tD t] h = .ok (.loc h.length) (h ++ [.lst (t.places.map plD)])
  | 0, h, t, _, hn, _ => by omega
  | n + 1, h, .bl k, _, hn, hk => by
    rw [S__law_places_v2]
    refine R.wp_eq.mp (wp_new ?_)
    simp [wp_run, m__law_places_v2, startD, wp_v, tD, nolocO, nolocL, noloc, Tr.places, plD, plInts]
  | n + 1, h, .bk s ps, sk, hn, hk => by
    have dp := depth_parts (.bk s ps)
    have kp := knots_parts (.bk s ps)
    simp only [Tr.parts] at dp kp
    obtain ⟨n, rfl⟩ : ∃ m, n = m + 1 := ⟨n - 1, by omega⟩
    rw [S__law_places_v2]
    refine R.wp_eq.mp (wp_new ?_)
    obtain ⟨t, ht⟩ : ∃ t, t = Tr.bk s ps := ⟨_, rfl⟩
    have tdt : tD (.bk s ps) = tD t := by rw [ht]
    have x0 : ∀ h, ixF (tD t) (.int 0) h = some (.str "block", h) := fun h => by rw [ht]; simp [tD]
    have x2 : ∀ h, ixF (tD t) (.int 2) h = some (.tup (tDs ps), h) := fun h => by rw [ht]; simp [tD]
    have pp : (Tr.bk s ps).places = ([], t) :: placesL 0 ps := by rw [places_parts, ht]; rfl
    rw [tdt, pp]
    simp [wp_run, m__law_places_v2, startD, wp_v, x0, x2, enumF]
    obtain ⟨J, hJ⟩ : ∃ J : Nat → Sl → Hs → Prop, J = fun i ds h' => ∃ l a b c d, h.length ≤ l ∧ h'.take h.length = h ∧ h'[l]? = some (.lst ((([], t) :: placesL 0 (ps.take i)).map plD)) ∧ ds = [some (tD t), some (.loc l), a, b, c, d] := ⟨_, rfl⟩
    refine ws_loop _ J (by rw [hJ]; exact ⟨h.length, _, _, _, _, Nat.le_refl _, by simp, by simp [plD, plInts, placesL], rfl⟩) (fun _ _ _ _ => trivial) ?_ ?_
    · intro i d ds h' hd hj
      rw [hJ] at hj
      obtain ⟨l, a, b, c, d', hl, hp, hf, rfl⟩ := hj
      obtain ⟨x, hx, rfl⟩ := numD_get hd
      obtain ⟨u, hu, rfl⟩ := tDs_get hx
      have mu := List.mem_of_getElem? hu
      have du := depth_mem mu
      have ku := knots_mem mu
      have lt : h.length ≤ h'.length := by rw [← hp, List.length_take]; omega
      have ih := places2_ok (n + 1) h' u (sokL_iff.mp sk.2 u mu) (by omega) (by omega)
      have pls := place_len u
      have dk := depth_knots u
      have lc := lc_map (h0 := h' ++ [AO.lst (u.places.map plD)]) (gd := fun h => h[h'.length]? = some (.lst (u.places.map plD))) (T := tupG 2 (consG (nameG 4) (consG (nameG 5) nilG))) (C := yesM) (ds := [some (tD t), some (.loc l), some (.int (i : Nat)), some (tD u), none, none])
        (A := argM tupF (consA (binM addF (argM tupF (consA (vM 2) nilA)) (vM 4)) (consA (vM 5) nilA))) (u.places.map plD) (u.places.map fun q => plD (i :: q.1, q.2)) (by simp) (by rw [List.length_map, places_len]; omega) (fun acc => by simp) (fun k d y acc e1 e2 => by
          rw [List.getElem?_map] at e1 e2
          cases q : u.places[k]? with
          | none => rw [q] at e1; cases e1
          | some q' =>
            rw [q] at e1 e2
            cases e1
            cases e2
            have := pls q' (List.mem_of_getElem? q)
            have z : 1 + q'.1.length ≤ 16777216 := by omega
            unfold LcTurn
            simp [wp_v, plD, z]
            simp [plInts])
      have e1 : ps.take (i + 1) = ps.take i ++ [u] := by rw [List.take_add_one, hu]; rfl
      have hi : i < ps.length := (List.getElem?_eq_some_iff.mp hu).1
      have tl : (ps.take i).length = i := by rw [List.length_take]; omega
      have e2 : (([], t) :: placesL 0 (ps.take (i + 1))).map plD = (([], t) :: placesL 0 (ps.take i)).map plD ++ (u.places.map fun q => plD (i :: q.1, q.2)) := by
        rw [e1, placesL_app, tl]
        simp [placesL, Function.comp_def]
      have len : ((([], t) :: placesL 0 (ps.take i)).map plD).length + (u.places.map fun q => plD (i :: q.1, q.2)).length ≤ 16777216 := by
        have q1 : (placesL 0 (ps.take i)).length ≤ knotsL ps := by
          rw [placesL_len, knotsL_sum, knotsL_sum]
          have : (ps.map Tr.knots).sum = ((ps.take i).map Tr.knots).sum + ((ps.drop i).map Tr.knots).sum := by
            rw [← List.sum_append, ← List.map_append, List.take_append_drop]
          omega
        simp only [List.length_map, List.length_cons, places_len]
        omega
      generalize (([], t) :: placesL 0 (ps.take i)).map plD = F0 at hf e2 len
      generalize (u.places.map fun q => plD (i :: q.1, q.2)) = F1 at lc e2 len
      have adl : addF (.loc l) (.loc (h'.length + 1)) (h' ++ [AO.lst (u.places.map plD), AO.lst F1]) = some (.loc (h'.length + 2), h' ++ [AO.lst (u.places.map plD), AO.lst F1, AO.lst (F0 ++ F1)]) := by
        have g1 : (h' ++ [AO.lst (u.places.map plD), AO.lst F1])[l]? = some (.lst F0) := get_app hf
        have g2 : (h' ++ [AO.lst (u.places.map plD), AO.lst F1])[h'.length + 1]? = some (.lst F1) := by simp
        simp only [addF, g1, g2]
        rw [if_pos (show F0.length + F1.length ≤ 16777216 from len)]
        simp [Nat.add_assoc]
      have eI := its_lst (h := h' ++ [AO.lst (u.places.map plD)]) (l := h'.length) (xs := u.places.map plD) (by simp)
      simp at lc eI
      simp [wp_v, ih, eI, wipeD, lc, adl]
      rw [hJ]
      refine ⟨h'.length + 2, _, _, _, _, by omega, ?_, ?_, rfl⟩
      · rw [List.take_append_of_le_length lt]; exact hp
      · rw [e2]; simp
    · intro ds h' hj
      rw [hJ] at hj
      obtain ⟨l, a, b, c, d', hl, hp, hf, rfl⟩ := hj
      rw [numD_len, tDs_len, List.take_length] at hf
      have nl := noloc_pls (([], t) :: placesL 0 ps)
      simp at hf nl
      simp [wp_v, hf, hl, hp, nolocO, nl]
/-- the part at a place -/
theorem law_part_ok (n : Nat) (h : Hs) (t u : Tr) (p : List Int) (e : t.at_ p = some u) : F__law_part (n + 1) [tD t, .tup (plZ p)] h = .ok (tD u) h := by
  rw [S__law_part]
  refine R.wp_eq.mp ?_
  simp [wp_pure, wp_run, m__law_part, startD, wp_v]
  obtain ⟨J, hJ⟩ : ∃ J : Nat → Sl → Hs → Prop, J = fun i ds h' => h' = h ∧ ∃ v x, t.at_ (p.take i) = some v ∧ ds = [some (tD v), some (.tup (plZ p)), x] := ⟨_, rfl⟩
  refine ws_loop _ J (by rw [hJ]; exact ⟨rfl, t, _, by simp [at_nil], rfl⟩) (fun _ _ _ _ => trivial) ?_ ?_
  · intro i d ds h' hd hj
    rw [hJ] at hj
    obtain ⟨rfl, v, x, hv, rfl⟩ := hj
    unfold plZ at hd
    rw [List.getElem?_map] at hd
    cases q : p[i]? with
    | none => rw [q] at hd; cases hd
    | some k =>
      rw [q] at hd
      cases hd
      have e1 : p.take (i + 1) = p.take i ++ [k] := by rw [List.take_add_one, q]; rfl
      have step : t.at_ (p.take (i + 1)) = v.at_ [k] := by rw [e1, at_snoc, hv]; rfl
      have rest : t.at_ p = (t.at_ (p.take (i + 1))).bind fun u => u.at_ (p.drop (i + 1)) := by
        rw [← at_app, List.take_append_drop]
      rw [e, step] at rest
      rw [at_cons] at rest step
      by_cases c : 0 ≤ k ∧ k < v.parts.length
      · rw [if_pos c] at step rest
        cases hw : v.parts[k.toNat]? with
        | none => rw [hw] at rest; cases rest
        | some w =>
          rw [hw] at step
          have fin : ∀ x, J (i + 1) [some (tD w), some (.tup (plZ p)), x] h' := fun x => by
            rw [hJ]; exact ⟨rfl, w, _, step, rfl⟩
          cases v with
          | bl b => simp [Tr.parts] at hw
          | bk s ps =>
            have ia := tDs_at c.1 hw
            simp only [Tr.parts] at ia
            simp [wp_v, tD, ia]
            exact fin _
      · rw [if_neg c] at rest
        cases rest
  · intro ds h' hj
    rw [hJ] at hj
    obtain ⟨rfl, v, x, hv, rfl⟩ := hj
    have el : (plZ p).length = p.length := by simp [plZ]
    rw [el, List.take_length, e] at hv
    cases hv
    simp [wp_v, noloc_tD]
def nz (p : List Nat) : List Int := p.map fun (k : Nat) => (k : Int)
theorem nz_snoc (p : List Nat) (k : Nat) : nz (p ++ [k]) = nz p ++ [(k : Int)] := by simp [nz]
noncomputable def clP (t : Tr) : List (List Nat × Tr) → FS → Option (Option Cl × FS)
  | [], fs => some (none, fs)
  | (p, .bl k) :: r, fs => match t.at_ (nz p) with
    | none => none
    | some v => match mAt fs k with
      | some x => open Classical in if x.2 = v then clP t r fs else some (some (.twice x.1 (nz p)), fs)
      | none => clP t r (fs ++ [(k, (nz p, v))])
  | (p, .bk s ps) :: r, fs => match t.at_ (nz p) with
    | none => none
    | some v => if sameB (.bk s ps) v = true then clP t r fs else some (some (.unlike (nz p)), fs)
noncomputable def thenP (t : Tr) (r : List (List Nat × Tr)) (x : Option Cl × FS) : Option (Option Cl × FS) := if x.1.isNone = true then clP t r x.2 else some x
mutual
theorem clP_U (t : Tr) : ∀ (f v : Tr) (pl : List Nat) (r : List (List Nat × Tr)) (fs : FS), t.at_ (nz pl) = some v → clP t ((f.places.map fun q => (pl ++ q.1, q.2)) ++ r) fs = thenP t r (clU f v (nz pl) fs)
  | .bl k, v, pl, r, fs, e => by
    rw [Tr.places]
    simp only [List.map_cons, List.map_nil, List.append_nil, List.cons_append, List.nil_append]
    rw [clP, clU, e]
    cases z : mAt fs k with
    | some x =>
      by_cases c : x.2 = v
      · simp [c, thenP]
      · simp [c, thenP]
    | none => simp [thenP]
  | .bk s ps, v, pl, r, fs, e => by
    rw [Tr.places]
    simp only [List.map_cons, List.append_nil, List.cons_append]
    rw [clP, clU, e]
    simp only
    by_cases c : sameB (.bk s ps) v = true
    · rw [if_pos c, if_pos c]
      have pl2 : ps.length = v.parts.length := by
        cases v with
        | bl _ => cases c
        | bk s' qs => unfold sameB at c; exact (of_decide_eq_true c).2
      exact clP_L t ps v.parts pl 0 r fs pl2 fun i w hw => by
        rw [nz_snoc, at_snoc, e, Nat.zero_add]
        have hi := (List.getElem?_eq_some_iff.mp hw).1
        simp only [Option.bind_some]
        rw [at_cons, if_pos ⟨by omega, by omega⟩]
        have : (i : Int).toNat = i := by omega
        rw [this, hw]
        exact at_nil w
    · rw [if_neg c, if_neg c]
      simp [thenP]
theorem clP_L (t : Tr) : ∀ (ts vs : List Tr) (pl : List Nat) (j : Nat) (r : List (List Nat × Tr)) (fs : FS), ts.length = vs.length → (∀ i w, vs[i]? = some w → t.at_ (nz (pl ++ [j + i])) = some w) →
    clP t (((placesL j ts).map fun q => (pl ++ q.1, q.2)) ++ r) fs = thenP t r (clL ts vs (nz pl) j fs)
  | [], _, pl, j, r, fs, _, _ => by rw [placesL, clL]; simp [thenP]
  | _ :: _, [], _, _, _, _, h, _ => by cases h
  | u :: ts, v :: vs, pl, j, r, fs, hl, h => by
    rw [placesL, clL]
    have h0 := h 0 v rfl
    rw [Nat.add_zero] at h0
    have e1 : (((u.places.map fun p => (j :: p.1, p.2)) ++ placesL (j + 1) ts).map fun q => (pl ++ q.1, q.2)) ++ r = (u.places.map fun q => ((pl ++ [j]) ++ q.1, q.2)) ++ (((placesL (j + 1) ts).map fun q => (pl ++ q.1, q.2)) ++ r) := by
      rw [List.map_append, List.map_map, List.append_assoc]
      congr 1
      refine List.map_congr_left fun q _ => ?_
      simp
    rw [e1, clP_U t u v (pl ++ [j]) _ fs h0, nz_snoc]
    unfold thenP
    by_cases c : (clU u v (nz pl ++ [(j : Int)]) fs).1.isNone = true
    · rw [if_pos c, if_pos c]
      have ih := clP_L t ts vs pl (j + 1) r (clU u v (nz pl ++ [(j : Int)]) fs).2 (by simpa using hl) fun i w hw => by
        have := h (i + 1) w (by simpa using hw)
        rw [← this]
        congr 4; omega
      rw [ih]; rfl
    · rw [if_neg c, if_neg c, if_neg c]
end
theorem clP_all (f t : Tr) : clP t f.places [] = some (clU f t [] []) := by
  have := clP_U t f t [] [] [] (by simp [nz, at_nil])
  have e : (f.places.map fun q => (([] : List Nat) ++ q.1, q.2)) ++ [] = f.places := by simp
  rw [e] at this
  rw [this]
  unfold thenP
  show (if (clU f t [] []).1.isNone = true then _ else _) = _
  by_cases c : (clU f t [] []).1.isNone = true
  · rw [if_pos c, clP]
    have := Option.isNone_iff_eq_none.mp c
    rw [← this]; rfl
  · rw [if_neg c]; rfl
end DV
namespace DV
open PySem PySem.Spec PyProof.Rows L2
theorem at_eqk : ∀ (p : List Int) (t u : Tr), t.eqk → t.at_ p = some u → u.eqk
  | [], t, u, g, h => by rw [at_nil] at h; cases h; exact g
  | k :: p, t, u, g, h => by
    rw [at_cons] at h
    split at h
    · cases e : t.parts[k.toNat]? with
      | none => rw [e] at h; cases h
      | some v =>
        rw [e, Option.bind_some] at h
        cases t with
        | bl _ => simp [Tr.parts] at e
        | bk s ps => exact at_eqk p v u (eqk_mem g (List.mem_of_getElem? e)) h
    · cases h
mutual
theorem sok_place : ∀ (t : Tr), t.sok → ∀ q ∈ t.places, q.2.sok
  | .bl k, g, q, h => by
    rw [Tr.places] at h
    cases List.mem_singleton.mp h
    exact g
  | .bk s ps, g, q, h => by
    rw [Tr.places] at h
    rcases List.mem_cons.mp h with rfl | h
    · exact g
    · exact sok_placeL ps 0 g.2 q h
theorem sok_placeL : ∀ (ts : List Tr) (k : Nat), sokL ts → ∀ q ∈ placesL k ts, q.2.sok
  | [], k, g, q, h => by rw [placesL] at h; exact nomatch h
  | t :: ts, k, g, q, h => by
    rw [placesL] at h
    rcases List.mem_append.mp h with h | h
    · obtain ⟨r, hr, rfl⟩ := List.mem_map.mp h
      exact sok_place t g.1 r hr
    · exact sok_placeL ts (k + 1) g.2 q h
end
theorem eq_nz (p : List Nat) : plZ (nz p) = plInts p := by rw [plInts_Z]; rfl
theorem setd_fs {h : Hs} {l : Nat} {fs : FS} {k : Int} {x : List Int × Tr} (e : h[l]? = some (.dct (mD frsD fs))) (nk : mAt fs k = none) (z : fs.length < 16777216) : setAF (.loc l) (.int k) (frsD x) h = some (h.set l (.dct (mD frsD (fs ++ [(k, x)])))) := by
  rw [set_dct (kk := .inl k) e rfl (by rw [mD_len]; exact z), put_mD, mPut_new (mAt_none.mp nk)]
theorem law_clash_ok (n : Nat) (h : Hs) (f t : Tr) (ht : t.eqk) (sf : f.sok) (hd : f.depth ≤ n) (hk : f.knots ≤ 1000000) : F__law_clash (n + 2) [tD f, tD t] h = .ok (clO (clU f t [] []).1) h := by
  rw [S__law_clash]
  refine R.wp_eq.mp ?_
  rw [wp_pure, wp_run]
  refine ⟨rfl, ?_⟩
  unfold m__law_clash
  simp only [startD, List.map_cons, List.map_nil, List.length_cons, List.length_nil]
  refine st_set (.loc h.length) (h ++ [.dct []]) (by simp) ?_
  simp only [List.set_cons_succ, List.set_cons_zero, List.replicate, List.cons_append, List.nil_append]
  have pl := places2_ok (n + 1) (h ++ [.dct []]) f sf (by omega) hk
  have tl := places_len f
  have R := clP_all f t
  have spl := sok_place f sf
  generalize clU f t [] [] = R0 at R ⊢
  obtain ⟨qs, hqs⟩ : ∃ qs, qs = f.places := ⟨_, rfl⟩
  rw [← hqs] at pl tl R spl
  obtain ⟨P, hP⟩ : ∃ P, P = AO.lst (qs.map plD) := ⟨_, rfl⟩
  obtain ⟨J, hJ⟩ : ∃ J : Nat → Sl → Hs → Prop, J = fun i ds h' => ∃ fs : FS, clP t (qs.drop i) fs = some R0 ∧ (∀ p ∈ fs, p.2.2.eqk) ∧ fs.length ≤ i ∧ h' = h ++ [.dct (mD frsD fs), P] ∧ ∃ a b c, ds = [some (tD f), some (tD t), some (.loc h.length), a, b, c] := ⟨_, rfl⟩
  refine st_for (qs.map plD) (fun h' => h'[h.length + 1]? = some P) (h ++ [.dct [], P]) J ?_ (by rw [hJ]; exact ⟨[], R, by simp, by simp, rfl, _, _, _, rfl⟩) (fun i ds h' j => by rw [hJ] at j; obtain ⟨fs, _, _, _, rfl, _⟩ := j; simp) ?_ ?_
  · rw [hP]
    simp at pl
    simp [wp_v, pl, itsF]
  · intro i d ds h' hd' hj
    rw [hJ] at hj
    obtain ⟨fs, hr, he, hl, rfl, a, b, c, rfl⟩ := hj
    rw [List.getElem?_map] at hd'
    cases q : qs[i]? with
    | none => rw [q] at hd'; cases hd'
    | some q' =>
      obtain ⟨p, u⟩ := q'
      rw [q] at hd'
      cases hd'
      have il := (List.getElem?_eq_some_iff.mp q).1
      have su := spl _ (List.mem_of_getElem? q)
      simp only at su
      have ed : qs.drop i = (p, u) :: qs.drop (i + 1) := by
        rw [List.drop_eq_getElem_cons il]
        rw [List.getElem?_eq_getElem il] at q
        rw [Option.some.inj q]
      rw [ed] at hr
      obtain ⟨v, hv⟩ : ∃ v, t.at_ (nz p) = some v := by
        cases u with
        | bl k => rw [clP] at hr; cases e : t.at_ (nz p) with
          | none => rw [e] at hr; cases hr
          | some v => exact ⟨v, rfl⟩
        | bk s ps => rw [clP] at hr; cases e : t.at_ (nz p) with
          | none => rw [e] at hr; cases hr
          | some v => exact ⟨v, rfl⟩
      have gv := at_eqk _ _ _ ht hv
      have lp := fun h => law_part_ok n h t v (nz p) hv
      rw [eq_nz] at lp
      have npl := noloc_pl p
      have npz : nolocL (plZ (nz p)) = true := by rw [eq_nz]; exact npl
      have take0 : ∀ (x y : AO), (h ++ [x, y]).take h.length = h := fun x y => by simp
      cases u with
      | bl k =>
        rw [clP, hv] at hr
        simp only at hr
        cases z : mAt fs k with
        | some x =>
          rw [z] at hr
          simp only at hr
          have gx := he _ (mAt_mem z)
          simp only at gx
          have nin := nin_dct (h := h ++ [.dct (mD frsD fs), P]) (l := h.length) (k := .int k) (kk := .inl k) (kvs := mD frsD fs) (by simp) rfl
          have ix := ix_dct (h := h ++ [.dct (mD frsD fs), P]) (l := h.length) (k := .int k) (kk := .inl k) (kvs := mD frsD fs) (by simp) rfl
          rw [val_mD, z] at nin ix
          have ne := fun h => ne_treeS (h := h) gx gv
          simp [frsD] at ix
          simp at nin
          by_cases c : x.2 = v
          · rw [if_pos c] at hr
            have ne := ne (h ++ [.dct (mD frsD fs), P])
            rw [decide_eq_true c] at ne
            have fin : ∀ a b c, J (i + 1) [some (tD f), some (tD t), some (.loc h.length), a, b, c] (h ++ [.dct (mD frsD fs), P]) := fun a b c => by
              rw [hJ]; exact ⟨fs, hr, he, by omega, rfl, _, _, _, rfl⟩
            simp at ne
            try simp [tD] at fin
            simp [wp_v, plD, lp, tD, nin, ix, ne, fin]
          · rw [if_neg c] at hr
            have ne := ne (h ++ [.dct (mD frsD fs), P])
            rw [decide_eq_false c] at ne
            have eR := Option.some.inj hr
            have eR1 : R0.1 = some (.twice x.1 (nz p)) := by rw [← eR]
            have nx := noloc_plZ x.1
            simp at ne
            simp [wp_v, plD, lp, tD, nin, ix, ne, eR1, clO, clD, eq_nz, noloc, nolocL, npl, nx]
        | none =>
          rw [z] at hr
          simp only at hr
          have nin := nin_dct (h := h ++ [.dct (mD frsD fs), P]) (l := h.length) (k := .int k) (kk := .inl k) (kvs := mD frsD fs) (by simp) rfl
          rw [val_mD, z] at nin
          have st := setd_fs (x := (nz p, v)) (h := h ++ [.dct (mD frsD fs), P]) (l := h.length) (fs := fs) (k := k) (by simp) z (by omega)
          have ix := ix_dct (h := h ++ [.dct (mD frsD (fs ++ [(k, (nz p, v))])), P]) (l := h.length) (k := .int k) (kk := .inl k) (kvs := mD frsD (fs ++ [(k, (nz p, v))])) (by simp) rfl
          have zz : mAt (fs ++ [(k, (nz p, v))]) k = some (nz p, v) := by rw [mAt_app, z, mAt_cons]; simp
          rw [val_mD, zz] at ix
          have ne := ne_treeS (h := h ++ [.dct (mD frsD (fs ++ [(k, (nz p, v))])), P]) gv gv
          have fin : ∀ a b c, J (i + 1) [some (tD f), some (tD t), some (.loc h.length), a, b, c] (h ++ [.dct (mD frsD (fs ++ [(k, (nz p, v))])), P]) := fun a b c => by
            rw [hJ]
            refine ⟨_, hr, fun q hq => ?_, by simp; omega, rfl, _, _, _, rfl⟩
            rcases List.mem_append.mp hq with hq | hq
            · exact he q hq
            · have : q = (k, (nz p, v)) := by simpa using hq
              rw [this]; exact gv
          generalize mD frsD (fs ++ [(k, (nz p, v))]) = L1 at st ix ne fin
          generalize mD frsD fs = L0 at nin st ⊢
          simp [frsD, eq_nz] at ix st
          simp at nin ne
          try simp [tD] at fin
          simp [wp_v, plD, lp, tD, nin, st, ix, ne, fin]
      | bk s ps =>
        rw [clP, hv] at hr
        simp only at hr
        have fin : sameB (.bk s ps) v = true → ∀ a b c, J (i + 1) [some (tD f), some (tD t), some (.loc h.length), a, b, c] (h ++ [.dct (mD frsD fs), P]) := fun z a b c => by
          rw [if_pos z] at hr
          rw [hJ]; exact ⟨fs, hr, he, by omega, rfl, _, _, _, rfl⟩
        have fal : sameB (.bk s ps) v = false → R0.1 = some (.unlike (nz p)) := fun z => by
          rw [if_neg (by rw [z]; exact Bool.false_ne_true)] at hr
          rw [← Option.some.inj hr]
        have nbk : ∀ h : Hs, neF (.str "blank") (.str "block") h = some (.bl true, h) := fun h => by rw [ne_strs ok_blank ok_block, decide_eq_false bl_bk]; rfl
        have nbb : ∀ h : Hs, neF (.str "block") (.str "block") h = some (.bl false, h) := fun h => by rw [ne_strs ok_block ok_block]; simp
        cases v with
        | bl j =>
          have e1 := fal rfl
          simp [wp_v, plD, lp, tD, nbk, e1, clO, clD, eq_nz, noloc, nolocL, npl]
        | bk s' qs' =>
          classical
          have ne := fun h : Hs => ne_strs (h := h) gv.1.1 su.1
          by_cases c1 : s' = s
          · by_cases c2 : qs'.length = ps.length
            · have fin := fin (by unfold sameB; exact decide_eq_true ⟨c1.symm, c2.symm⟩)
              rw [decide_eq_true c1] at ne
              have c3 : (qs'.length : Int) = (ps.length : Int) := by omega
              try simp [tD] at fin
              simp [wp_v, plD, lp, tD, nbb, ne, c3, fin]
            · have e1 := fal (by unfold sameB; exact decide_eq_false fun z => c2 z.2.symm)
              rw [decide_eq_true c1] at ne
              have c3 : ¬ (qs'.length : Int) = (ps.length : Int) := by omega
              simp [wp_v, plD, lp, tD, nbb, ne, c3, e1, clO, clD, eq_nz, noloc, nolocL, npl]
          · have e1 := fal (by unfold sameB; exact decide_eq_false fun z => c1 z.1.symm)
            rw [decide_eq_false c1] at ne
            simp [wp_v, plD, lp, tD, nbb, ne, e1, clO, clD, eq_nz, noloc, nolocL, npl]
  · intro ds h' hj
    rw [hJ] at hj
    obtain ⟨fs, hr, he, hl, rfl, a, b, c, rfl⟩ := hj
    rw [List.length_map, List.drop_length, clP] at hr
    have eR : R0.1 = none := by rw [← Option.some.inj hr]
    simp [wp_v, eR, clO, noloc]
end DV
namespace DV
open PySem PySem.Spec PyProof.Rows L2
theorem sok_set {ts : List Tr} {k : Nat} {w : Tr} (g : sokL ts) (h : w.sok) : sokL (ts.set k w) := by
  rw [sokL_iff] at g ⊢
  intro t ht
  rcases List.mem_or_eq_of_mem_set ht with ht | rfl
  · exact g t ht
  · exact h
theorem set_cut {α : Type} (xs : List α) (k : Nat) (v : α) (h : k < xs.length) : xs.take k ++ v :: xs.drop (k + 1) = xs.set k v := by
  rw [List.set_eq_take_append_cons_drop, if_pos h]
theorem set_cut3 (ps : List Tr) (k : Nat) (v : Tr) (h : k < ps.length) : (tDs ps).take k ++ (tD v :: (tDs ps).drop (k + 1)) = tDs (ps.set k v) := by
  rw [set_cut _ _ _ (by rw [tDs_len]; exact h), tDs_set]
theorem ne_pl {h : Hs} (a b : List Nat) : neF (.tup (plInts a)) (.tup (plInts b)) h = some (.bl (!decide (a = b)), h) := by
  have e := eq_pl (h := h) a b
  unfold eqF at e
  unfold neF
  cases q : eqB (.tup (plInts a)) (.tup (plInts b)) h with
  | none => rw [q] at e; cases e
  | some z =>
    rw [q] at e
    simp at e
    rw [Option.map_some, e]
theorem knotsL_take (ps : List Tr) (k : Nat) : knotsL (ps.take k) ≤ knotsL ps := by
  rw [knotsL_sum, knotsL_sum]
  have : (ps.map Tr.knots).sum = ((ps.take k).map Tr.knots).sum + ((ps.drop k).map Tr.knots).sum := by
    rw [← List.sum_append, ← List.map_append, List.take_append_drop]
  omega
theorem depthL_take (ps : List Tr) (k : Nat) : depthL (ps.take k) ≤ depthL ps := by
  rw [depthL_le]
  exact fun t ht => depth_mem (List.mem_of_mem_take ht)
/-- what is bent at the root -/
theorem bent0_ok (ns : List Str) (hn : ns.length = 9) (os : ∀ s ∈ ns, Okt s 30) (n : Nat) (h : Hs) (ln : Nat) (t : Tr) (m : Int) (en : h[ln]? = some (.lst (ns.map D.str))) (sk : t.sok) (hk : t.knots ≤ 1000000) :
    ∃ u : Tr, F__law_bent_v2 (n + 3) [tD t, .tup [], .int m, .loc ln] h = .ok (tD u) h ∧ u.sok ∧ u.knots ≤ t.knots + 3 ∧ u.depth ≤ t.depth + 2 := by
  have m4 : ∀ i, cMod i 4 = true := fun _ => cMod_of (by decide)
  have m9 : ∀ i, cMod i 9 = true := fun _ => cMod_of (by decide)
  have d4 : ∀ i, cDiv i 4 = true := fun _ => cDiv_of (by decide) (by decide)
  obtain ⟨w, hw, ws, wk, wd⟩ := small2_ok ns hn os n h ln (m / 4) en
  obtain ⟨s1, ms1, hs1⟩ := strs_at hn (i := m / 4 % 9) (Int.emod_nonneg _ (by decide)) (by have := Int.emod_lt_of_pos (m / 4) (show (0 : Int) < 9 by decide); omega)
  have i1 : ixF (.loc ln) (.int (m / 4 % 9)) h = some (.str s1, h) := by rw [ix_lst en, hs1]; rfl
  have tp := depth_parts t
  have kp := knots_parts t
  have kpos := knots_pos t
  have np := ne_pl (h := h) [] []
  simp [plInts] at np
  have nw := noloc_tD w
  rw [S__law_bent_v2]
  cases t with
  | bl k =>
    refine ⟨w, R.wp_eq.mp ?_, ws, by omega, by rw [Tr.depth]; omega⟩
    simp [wp_pure, wp_run, m__law_bent_v2, startD, wp_v, np, m4, d4, tD, hw, nw]
  | bk s ps =>
    rw [Tr.knots] at hk
    have lk := len_knotsL ps
    have nps := noloc_tDs ps
    by_cases c0 : m % 4 = 0
    · refine ⟨w, R.wp_eq.mp ?_, ws, by omega, by rw [Tr.depth]; omega⟩
      simp [wp_pure, wp_run, m__law_bent_v2, startD, wp_v, np, m4, d4, tD, hw, nw, c0]
    · by_cases c1 : m % 4 = 1
      · refine ⟨.bk s1 ps, R.wp_eq.mp ?_, ⟨(os s1 ms1).strOk, sk.2⟩, by rw [Tr.knots, Tr.knots]; omega, by rw [Tr.depth, Tr.depth]; omega⟩
        simp [wp_pure, wp_run, m__law_bent_v2, startD, wp_v, np, m4, d4, m9, tD, c0, c1, i1, noloc, nolocL, nps]
      · by_cases c2 : m % 4 = 2
        · have cu : cutL (tDs ps) none (some (-1)) = tDs (ps.take (ps.length - 1)) := by
            unfold cutL
            have e1 : HT.sIx (tDs ps).length 0 none = 0 := rfl
            have e2 : HT.sIx (tDs ps).length (tDs ps).length (some (-1)) = (tDs ps).length - 1 := by
              unfold HT.sIx
              simp
              try omega
            rw [e1, e2, List.drop_zero, Nat.sub_zero, tDs_len, tDs_map, tDs_map, List.map_take]
          have k1 := knotsL_take ps (ps.length - 1)
          have k2 := depthL_take ps (ps.length - 1)
          have nt := noloc_tDs (ps.take (ps.length - 1))
          refine ⟨.bk s (ps.take (ps.length - 1)), R.wp_eq.mp ?_, ⟨sk.1, sokL_iff.mpr fun q hq => sokL_iff.mp sk.2 q (List.mem_of_mem_take hq)⟩, by rw [Tr.knots, Tr.knots]; omega, by rw [Tr.depth, Tr.depth]; omega⟩
          simp [wp_pure, wp_run, m__law_bent_v2, startD, wp_v, np, m4, d4, m9, tD, c0, c1, c2, slF_tup, cu, noloc, nolocL, nt]
        · by_cases c8 : (8 : Int) < (ps.length : Int)
          · refine ⟨.bk s ps, R.wp_eq.mp ?_, sk, by omega, by omega⟩
            simp [wp_pure, wp_run, m__law_bent_v2, startD, wp_v, np, m4, d4, tD, c0, c1, c2, c8, noloc, nolocL, nps]
          · have ea : tDs ps ++ [tD w] = tDs (ps ++ [w]) := by rw [tDs_app]
            have z : (tDs ps).length + 1 ≤ 16777216 := by rw [tDs_len]; omega
            have nt := noloc_tDs (ps ++ [w])
            refine ⟨.bk s (ps ++ [w]), R.wp_eq.mp ?_, ⟨sk.1, sokL_iff.mpr fun q hq => ?_⟩, by rw [Tr.knots, Tr.knots, knotsL_snoc]; omega, by rw [Tr.depth, Tr.depth, depthL_snoc]; omega⟩
            · simp at z
              simp [wp_pure, wp_run, m__law_bent_v2, startD, wp_v, np, m4, d4, tD, c0, c1, c2, c8, hw, ea, z, noloc, nolocL, nt]
            · rcases List.mem_append.mp hq with hq | hq
              · exact sokL_iff.mp sk.2 q hq
              · have : q = w := by simpa using hq
                rw [this]; exact ws
/-- what is bent at a place -/
theorem bent2_ok (ns : List Str) (hn : ns.length = 9) (os : ∀ s ∈ ns, Okt s 30) (ln : Nat) : ∀ (p : List Nat) (n : Nat) (h : Hs) (t e : Tr) (m : Int), h[ln]? = some (.lst (ns.map D.str)) → t.sok → t.knots ≤ 1000000 → p.length + 3 ≤ n → t.at_ (nz p) = some e →
    ∃ w : Tr, F__law_bent_v2 n [tD t, .tup (plInts p), .int m, .loc ln] h = .ok (tD w) h ∧ w.sok ∧ w.knots ≤ t.knots + e.knots + 3 ∧ w.depth ≤ max t.depth (p.length + e.depth + 2)
  | [], n, h, t, e, m, en, sk, hk, hp, ha => by
    obtain ⟨n, rfl⟩ : ∃ q, n = q + 3 := ⟨n - 3, by simp at hp; omega⟩
    obtain ⟨u, hu, us, uk, ud⟩ := bent0_ok ns hn os n h ln t m en sk hk
    have : t = e := by simp [nz, at_nil] at ha; exact ha
    subst this
    exact ⟨u, hu, us, by omega, by simp; omega⟩
  | k :: p, n, h, t, e, m, en, sk, hk, hp, ha => by
    obtain ⟨n, rfl⟩ : ∃ q, n = q + 1 := ⟨n - 1, by simp at hp; omega⟩
    have ec : nz (k :: p) = (k : Int) :: nz p := rfl
    rw [ec, at_cons] at ha
    split at ha
    · rename_i c
      cases e1 : t.parts[(k : Int).toNat]? with
      | none => rw [e1] at ha; cases ha
      | some v =>
        rw [e1, Option.bind_some] at ha
        cases t with
        | bl b => simp [Tr.parts] at e1
        | bk s ps =>
          simp only [Tr.parts] at e1 c
          have kl : k < ps.length := by omega
          have e1' : ps[k]? = some v := e1
          have mv := List.mem_of_getElem? e1'
          have kv := knots_mem mv
          have dv := depth_mem mv
          rw [Tr.knots] at hk
          have lk := len_knotsL ps
          obtain ⟨w, hw, ws, wk, wd⟩ := bent2_ok ns hn os ln p n h v e m en (sokL_iff.mp sk.2 v mv) (by omega) (by simp at hp; omega) ha
          have ks := knotsL_set ps k w v e1'
          have ds := depthL_set (k := k) (w := w) (n := max (depthL ps) (p.length + e.depth + 2)) (ts := ps) (by omega) (by omega)
          refine ⟨.bk s (ps.set k w), ?_, ⟨sk.1, sok_set sk.2 ws⟩, by rw [Tr.knots, Tr.knots]; omega, by rw [Tr.depth, Tr.depth, List.length_cons]; omega⟩
          rw [S__law_bent_v2]
          refine R.wp_eq.mp ?_
          have np := fun h => ne_pl (h := h) (k :: p) []
          have ia : ∀ h : Hs, ixF (.tup (tDs ps)) (.int (k : Int)) h = some (tD v, h) := fun h => by rw [ix_tup', atI_nat (by rw [tDs_len]; exact kl), tDs_map, List.getElem?_map, e1']; rfl
          have ia2 : ∀ h : Hs, ixF (.tup (plInts (k :: p))) (.int 0) h = some (.int (k : Int), h) := fun h => by simp [plInts]
          have s1 : cutL (plInts (k :: p)) (some 1) none = plInts p := by rw [show (1 : Int) = ((1 : Nat) : Int) from rfl, cut_from]; rfl
          have s2 : cutL (tDs ps) none (some (k : Int)) = (tDs ps).take k := cut_to _ _
          have s3 : cutL (tDs ps) (some ((k : Int) + 1)) none = (tDs ps).drop (k + 1) := by rw [show (k : Int) + 1 = ((k + 1 : Nat) : Int) from rfl, cut_from]
          have z1 : ((tDs ps).take k).length + 1 ≤ 16777216 := by rw [List.length_take, tDs_len]; omega
          have z2 : ((tDs ps).take k ++ [tD w]).length + ((tDs ps).drop (k + 1)).length ≤ 16777216 := by rw [List.length_append, List.length_take, List.length_drop, tDs_len]; simp; omega
          have nt := noloc_tDs (ps.set k w)
          have ec3 := set_cut3 ps k w kl
          obtain ⟨P, hP⟩ : ∃ P, P = plInts (k :: p) := ⟨_, rfl⟩
          obtain ⟨T, hT⟩ : ∃ T, T = tDs ps := ⟨_, rfl⟩
          have np2 := np h
          rw [← hP] at ia2 s1 np2 ⊢
          rw [← hT] at ia s2 s3 z1 z2 ec3
          have n0 : plInts [] = [] := rfl
          rw [n0, decide_eq_false (by simp)] at np2
          simp at np2 z1 z2
          simp only [wp_pure, wp_run, m__law_bent_v2, startD]
          refine ⟨rfl, ?_⟩
          simp [wp_v, np2, ia2, tD, ← hT, ia, slF_tup, s1, hw, s2, s3, z1, z2, ec3, noloc, nolocL, nt]
    · cases ha
theorem isPlace_ok (n : Nat) (h : Hs) (p : List Int) (hl : p.length ≤ 1000000) : F__law_is_place (n + 1) [.tup (plZ p)] h = .ok (.bl true) h := by
  rw [S__law_is_place]
  refine R.wp_eq.mp ?_
  have ty : isF "tuple" (.tup (plZ p)) h = some (.bl true, h) := rfl
  have lc := lc_map1 (h0 := h) (gd := fun _ => True) (i := 1) (ds := [some (.tup (plZ p)), none]) (A := andV (unM (isF "int") (vM 1)) (notV (unM (isF "bool") (vM 1)))) (plZ p) ((p.map fun _ => true).map D.bl) (by simp [plZ]) (by rw [plZ_len]; omega) (fun _ => trivial) (fun k d y acc e1 e2 => by
    unfold plZ at e1
    rw [List.getElem?_map] at e1
    rw [List.map_map, List.getElem?_map] at e2
    cases q : p[k]? with
    | none => rw [q] at e1; cases e1
    | some z =>
      rw [q] at e1 e2
      cases e1; cases e2
      have t1 : ∀ h, isF "int" (.int z) h = some (.bl true, h) := fun h => rfl
      have t2 : ∀ h, isF "bool" (.int z) h = some (.bl false, h) := fun h => rfl
      refine R.wp_eq.mp ?_
      simp [wp_v, t1, t2])
  obtain ⟨BS, hBS⟩ : ∃ BS, BS = p.map fun _ => true := ⟨_, rfl⟩
  rw [← hBS] at lc
  have al := all_lst (h := h ++ [.lst (BS.map D.bl)]) (l := h.length) (bs := BS) (by simp)
  have e1 : BS.all id = true := by rw [hBS]; simp
  rw [e1] at al
  try simp at lc al
  simp [wp_pure, wp_run, m__law_is_place, startD, wp_v, ty, truD, wipeD, lc, al, noloc]
end DV
namespace DV
open PySem PySem.Spec PyProof.Rows L2
def Cl.short (B : Nat) : Cl → Prop
  | .twice a b => a.length ≤ B ∧ b.length ≤ B
  | .unlike a => a.length ≤ B
theorem clP_short (t : Tr) (B : Nat) : ∀ (qs : List (List Nat × Tr)) (fs : FS) (R : Option Cl × FS), (∀ q ∈ qs, q.1.length ≤ B) → (∀ x ∈ fs, x.2.1.length ≤ B) → clP t qs fs = some R → ∀ c, R.1 = some c → c.short B
  | [], fs, R, _, _, e, c, ec => by rw [clP] at e; cases e; cases ec
  | (p, .bl k) :: r, fs, R, hq, hf, e, c, ec => by
    have hp : (nz p).length ≤ B := by have := hq _ List.mem_cons_self; simpa [nz] using this
    rw [clP] at e
    cases ev : t.at_ (nz p) with
    | none => rw [ev] at e; cases e
    | some v =>
      rw [ev] at e
      simp only at e
      cases em : mAt fs k with
      | some x =>
        rw [em] at e
        simp only at e
        split at e
        · exact clP_short t B r fs R (fun q m => hq q (List.mem_cons_of_mem _ m)) hf e c ec
        · cases e
          cases ec
          exact ⟨hf _ (mAt_mem em), hp⟩
      | none =>
        rw [em] at e
        refine clP_short t B r _ R (fun q m => hq q (List.mem_cons_of_mem _ m)) (fun x hx => ?_) e c ec
        rcases List.mem_append.mp hx with hx | hx
        · exact hf x hx
        · have : x = (k, (nz p, v)) := by simpa using hx
          rw [this]; exact hp
  | (p, .bk s ps) :: r, fs, R, hq, hf, e, c, ec => by
    have hp : (nz p).length ≤ B := by have := hq _ List.mem_cons_self; simpa [nz] using this
    rw [clP] at e
    cases ev : t.at_ (nz p) with
    | none => rw [ev] at e; cases e
    | some v =>
      rw [ev] at e
      simp only at e
      split at e
      · exact clP_short t B r fs R (fun q m => hq q (List.mem_cons_of_mem _ m)) hf e c ec
      · cases e
        cases ec
        exact hp
def Cl.word : Cl → Str
  | .twice _ _ => "twice"
  | .unlike _ => "unlike"
def Cl.pls : Cl → List (List Int)
  | .twice a b => [a, b]
  | .unlike a => [a]
theorem clD_pls (c : Cl) : clD c = .tup (.str c.word :: c.pls.map fun p => .tup (plZ p)) := by cases c <;> rfl
theorem pls_len (c : Cl) : 1 ≤ c.pls.length ∧ c.pls.length ≤ 2 := by cases c <;> simp [Cl.pls]
theorem clD_ok (c : Cl) : pyOk (clD c) = true ∧ depD (clD c) ≤ 190 := by
  have w1 : PyData.strOk "twice" = true := by decide +kernel
  have w2 : PyData.strOk "unlike" = true := by decide +kernel
  cases c with
  | twice a b =>
    have := dep_ints a
    have := dep_ints b
    simp [clD, pyOk, pyOkL, plZ, pyOk_ints, w1, depD, depL]
    omega
  | unlike a =>
    have := dep_ints a
    simp [clD, pyOk, pyOkL, plZ, pyOk_ints, w2, depD, depL]
    omega
theorem law_k25_ok (ns : List Int) (hl : ns.length ≤ 63) : ∃ h, F_law_k25 230 [.ro ns] [] = .ok (.bl true) h := by
  have w : (F_law_k25 (229 + 1) [.ro ns] []).wp (fun d _ => d = .bl true) xF := by
    rw [S_law_k25]
    have d5 : ∀ i, cDiv i 5 = true := fun _ => cDiv_of (by decide) (by decide)
    have d4 : ∀ i, cDiv i 4 = true := fun _ => cDiv_of (by decide) (by decide)
    have d1000 : ∀ i, cDiv i 1000 = true := fun _ => cDiv_of (by decide) (by decide)
    have m4 : ∀ i, cMod i 4 = true := fun _ => cMod_of (by decide)
    have c0 := fun h => cell0_ok 228 h ns
    generalize cellI ns 0 = first at c0
    obtain ⟨nm, en, nm9, no⟩ := names2_ok 227 [] (first / 5)
    obtain ⟨ms, em, ml, mr⟩ := numbers_ok 227 [.lst (nm.map D.str)] ns 1 40 hl
    obtain ⟨t, et, tk, kn, dp⟩ := tree2_ok ms nm nm9 no ml 228 [.lst (nm.map D.str), .lst (ms.map D.int)] 1 0 rfl rfl (by decide)
    obtain ⟨fs, ef, fk, ft⟩ := filling2_ok nm nm9 no 226 [.lst (nm.map D.str), .lst (ms.map D.int)] 0 t (mixI (first + 7)) rfl (mixI_lt _) (by omega) (by omega)
    have mx := fun h c => mixed_ok 228 h c
    have mxf := fun h => mx h (first + 7)
    obtain ⟨M0, M1⟩ := mixI_lt (first + 7)
    generalize mixI (first + 7) = M at mxf ef M0 M1
    rw [wp_pure, wp_run]
    refine ⟨rfl, ?_⟩
    unfold m_law_k25
    simp only [startD, List.map_cons, List.map_nil, List.length_cons, List.length_nil]
    refine st_set (.loc 0) [.lst (nm.map D.str)] ?_ ?_
    · simp at en
      simp [wp_v, c0, d5, en]
    refine st_set (tD t) [.lst (nm.map D.str), .lst (ms.map D.int)] ?_ ?_
    · simp at em et
      simp [wp_v, em, et]
    refine st_set (.int M) [.lst (nm.map D.str), .lst (ms.map D.int)] (by simp [wp_v, c0, mxf]) ?_
    obtain ⟨ek, ed, ekn⟩ := fill_tiny (t := t) (fs := fs) tk (by omega) ft
    have ex := exchanged_ok 229 [.lst (nm.map D.str), .lst (ms.map D.int), .dct (mD tD fs)] 2 fs t rfl (by omega) (by omega)
    rw [← law_filled_eq] at ex
    generalize t.fill (mAt fs) = t2 at ek ed ekn ex
    refine st_set (tD t2) [.lst (nm.map D.str), .lst (ms.map D.int), .dct (mD tD fs)] ?_ ?_
    · simp at ef
      simp [wp_v, ef, ex]
    simp only [List.set_cons_succ, List.set_cons_zero, List.replicate, List.cons_append, List.nil_append]
    clear ex et em en ef
    obtain ⟨J, hJ⟩ : ∃ J : Nat → Sl → Hs → Prop, J = fun i ds h' => ∃ (u : Tr) (r : Hs), u.sok ∧ u.knots + 3 ≤ 1000 * 2 ^ i ∧ u.depth ≤ 13 + 2 * i ∧ h' = AO.lst (nm.map D.str) :: r ∧ ∃ a b c, ds = [some (.ro ns), some (.loc 0), some (tD t), some (.int M), some (tD u), a, b, c, none, none, none, none] := ⟨_, rfl⟩
    have ir : inR (M % 4) = true := by
      have := Int.emod_nonneg M (show (4 : Int) ≠ 0 by decide)
      have := Int.emod_lt_of_pos M (show (0 : Int) < 4 by decide)
      exact inR_of (by omega) (by omega)
    refine st_for ((List.range (M % 4).toNat).map fun (i : Nat) => .int (i : Int)) (fun _ => True) [.lst (nm.map D.str), .lst (ms.map D.int), .dct (mD tD fs)] J (by simp [wp_v, m4, ir]) (by rw [hJ]; exact ⟨t2, _, ek.1, by omega, by omega, rfl, _, _, _, rfl⟩) (fun _ _ _ _ => trivial) ?_ ?_
    · intro i d ds h' hd' hj
      rw [hJ] at hj
      obtain ⟨u, r, us, uk, ud, rfl, a, b, c, rfl⟩ := hj
      have i4 : i < 4 := by
        have := (List.getElem?_eq_some_iff.mp hd').1
        rw [List.length_map, List.length_range] at this
        have := Int.emod_lt_of_pos M (show (0 : Int) < 4 by decide)
        omega
      have p8 : 2 ^ i ≤ 8 := by
        have : i = 0 ∨ i = 1 ∨ i = 2 ∨ i = 3 := by omega
        rcases this with rfl | rfl | rfl | rfl <;> decide
      obtain ⟨k, rfl, hk⟩ : ∃ k : Nat, d = .int k ∧ k < 4 := by
        have := List.mem_of_getElem? hd'
        obtain ⟨x, hx, rfl⟩ := List.mem_map.mp this
        have := List.mem_range.mp hx
        have := Int.emod_lt_of_pos M (show (0 : Int) < 4 by decide)
        exact ⟨x, rfl, by omega⟩
      have kk : cMul (k : Int) (k : Int) = true := cMul_l (by omega) (by omega)
      have k5 : cMul 5 (k : Int) = true := cMul_l (by decide) (by decide)
      have mM : ∀ j, cMul (M / 4) j = true := fun _ => cMul_l (by omega) (by omega)
      have mxi := fun h => mx h (M / 4 * ((k : Int) * (k : Int) + 5 * (k : Int) + 5))
      obtain ⟨q0, _⟩ := mixI_lt (M / 4 * ((k : Int) * (k : Int) + 5 * (k : Int) + 5))
      generalize mixI (M / 4 * ((k : Int) * (k : Int) + 5 * (k : Int) + 5)) = q at mxi q0
      obtain ⟨N, hN⟩ : ∃ N : Hs, N = AO.lst (nm.map D.str) :: r := ⟨_, rfl⟩
      have pl := places2_ok 229 N u us (by omega) (by omega)
      have tl := places_len u
      have up := knots_pos u
      obtain ⟨z, hz, hz2⟩ := atI_of (zs := u.places.map plD) (i := q % (u.knots : Int)) (Int.emod_nonneg _ (by omega)) (by rw [List.length_map, tl]; exact Int.emod_lt_of_pos _ (by omega))
      obtain ⟨⟨p, e⟩, mp, rfl⟩ := List.mem_map.mp (List.mem_of_getElem? hz2)
      have pa := places_at u _ mp
      have plen := place_len u _ mp
      simp only at pa plen
      have ke : e.knots ≤ u.knots := by
        have : ∀ (p : List Int) (a b : Tr), a.at_ p = some b → b.knots ≤ a.knots := by
          intro p
          induction p with
          | nil => intro a b h; rw [at_nil] at h; cases h; exact Nat.le_refl _
          | cons k p ih =>
            intro a b h
            rw [at_cons] at h
            split at h
            · cases e : a.parts[k.toNat]? with
              | none => rw [e] at h; cases h
              | some v =>
                rw [e, Option.bind_some] at h
                have := ih v b h
                have := knots_mem (List.mem_of_getElem? e)
                rw [knots_parts a]; omega
            · cases h
        exact this _ _ _ pa
      obtain ⟨L, hL⟩ : ∃ L, L = AO.lst (u.places.map plD) := ⟨_, rfl⟩
      rw [← hL] at pl
      obtain ⟨w, hw, ws, wk, wd⟩ := bent2_ok nm nm9 no 0 p 229 (N ++ [L]) u e (q / 1000) (by rw [hN]; rfl) us (by omega) (by omega) pa
      have le := len_lst (h := N ++ [L]) (l := N.length) (xs := u.places.map plD) (by rw [hL]; simp)
      rw [List.length_map, tl] at le
      have ix := ix_lst (h := N ++ [L]) (l := N.length) (xs := u.places.map plD) (i := q % (u.knots : Int)) (by rw [hL]; simp)
      rw [hz] at ix
      have mk : ∀ i, cMod i (u.knots : Int) = true := fun _ => cMod_of (by omega)
      have fin : ∀ a b c, J (i + 1) [some (.ro ns), some (.loc 0), some (tD t), some (.int M), some (tD w), a, b, c, none, none, none, none] (N ++ [L]) := fun a b c => by
        rw [hJ]
        refine ⟨w, r ++ [L], ws, ?_, by omega, by rw [hN]; rfl, _, _, _, rfl⟩
        rw [Nat.pow_succ]; omega
      rw [← hN]
      simp [plD] at ix
      simp [wp_v, kk, k5, mM, d4, mxi, pl, le, mk, ix, d1000, hw, fin]
    · intro ds h' hj
      rw [hJ] at hj
      obtain ⟨u, r, us, uk, ud, rfl, a, b, c_, rfl⟩ := hj
      rw [List.length_map, List.length_range] at uk ud
      have M3 : (M % 4).toNat ≤ 3 := by
        have := Int.emod_lt_of_pos M (show (0 : Int) < 4 by decide)
        omega
      have p8 : 2 ^ (M % 4).toNat ≤ 8 := by
        have : (M % 4).toNat = 0 ∨ (M % 4).toNat = 1 ∨ (M % 4).toNat = 2 ∨ (M % 4).toNat = 3 := by omega
        rcases this with e | e | e | e <;> rw [e] <;> decide
      have uq : u.eqk := ⟨us, by omega⟩
      obtain ⟨N, hN⟩ : ∃ N : Hs, N = AO.lst (nm.map D.str) :: r := ⟨_, rfl⟩
      rw [← hN]
      have lc := law_clash_ok 227 N t u uq tk (by omega) (by omega)
      have fc := first_clash_ok 228 N t u uq tk (by omega) (by omega)
      have fi := fitting_ok 228 N t u uq tk (by omega) (by omega)
      have cf := (clU_fit t u [] []).1
      have fm : fsM [] = [] := rfl
      rw [fm] at cf
      have sh := clP_short u 1000 t.places [] _ (fun q hq => by have := place_len t q hq; omega) (by simp) (clP_all t u)
      generalize clU t u [] [] = Rz at lc fc cf sh
      generalize fitU t u [] = F at fi cf
      refine st_set (clO Rz.1) N (by simp [wp_v, lc]) ?_
      refine st_set (clO Rz.1) N (by simp [wp_v, fc]) ?_
      simp only [fitR] at fi
      simp only [List.set_cons_succ, List.set_cons_zero]
      cases z : Rz.1 with
      | none =>
        have f1 : F.1 = true := by rw [← cf, z]; rfl
        rw [if_pos f1] at fi
        refine st_set (.loc N.length) (N ++ [.dct (mD tD F.2)]) (by simp [wp_v, fi]) ?_
        have ty : isF "dict" (.loc N.length) (N ++ [.dct (mD tD F.2)]) = some (.bl true, N ++ [.dct (mD tD F.2)]) := by simp [isF, tyD, isB]
        simp [wp_v, clO, isNF, isNon, ty, noloc]
      | some c =>
        have f1 : F.1 = false := by rw [← cf, z]; rfl
        rw [if_neg (by rw [f1]; exact Bool.false_ne_true)] at fi
        have sh := sh c z
        refine st_set .non (N ++ [.dct (mD tD F.2)]) (by simp [wp_v, fi]) ?_
        obtain ⟨G, hG⟩ : ∃ G : Hs, G = N ++ [AO.dct (mD tD F.2)] := ⟨_, rfl⟩
        rw [← hG]
        simp only [clO]
        obtain ⟨ok1, ok2⟩ := clD_ok c
        classical
        have eq := fun h => eq_of (h := h) ok1 ok1 ok2
        have n1 : ∀ h, isNF (clD c) .non h = some (.bl false, h) := fun h => by cases c <;> rfl
        refine st_guard G (by simp [wp_v, n1]) ?_
        have pl2 := pls_len c
        have t1 : ∀ h, isF "tuple" (clD c) h = some (.bl true, h) := fun h => by cases c <;> rfl
        have le : ∀ h, lenF [clD c] h = some (.int (c.pls.length + 1 : Nat), h) := fun h => by rw [clD_pls, len_tup]; simp
        have ix : ∀ h, ixF (clD c) (.int 0) h = some (.str c.word, h) := fun h => by rw [clD_pls]; simp
        have t2 : ∀ h, isF "str" (.str c.word) h = some (.bl true, h) := fun h => rfl
        have l2 : ¬ ((c.pls.length : Int) + 1 < 2) := by omega
        refine st_guard G (by simp [wp_v, t1, le, ix, t2, truD, l2]) ?_
        have sl : ∀ h, slF (clD c) (some 1) none h = some (.tup (c.pls.map fun p => .tup (plZ p)), h) := fun h => by
          rw [clD_pls, slF_tup, show (1 : Int) = ((1 : Nat) : Int) from rfl, cut_from]; rfl
        have lcm := lc_map1 (h0 := G) (gd := fun _ => True) (i := 11) (ds := [some (.ro ns), some (.loc 0), some (tD t), some (.int M), some (tD u), a, b, c_, some (clD c), some (clD c), some .non, none]) (A := callM (F__law_is_place 229) (consA (vM 11) nilA)) (c.pls.map fun p => .tup (plZ p)) ((c.pls.map fun _ => true).map D.bl) (by simp) (by rw [List.length_map]; omega) (fun _ => trivial) (fun k d y acc e1 e2 => by
          rw [List.getElem?_map] at e1
          rw [List.map_map, List.getElem?_map] at e2
          cases q : c.pls[k]? with
          | none => rw [q] at e1; cases e1
          | some z =>
            rw [q] at e1 e2
            cases e1; cases e2
            have mz := List.mem_of_getElem? q
            have zl : z.length ≤ 1000 := by
              cases c with
              | twice a b =>
                simp only [Cl.pls, List.mem_cons, List.not_mem_nil, or_false] at mz
                rcases mz with rfl | rfl
                · exact sh.1
                · exact sh.2
              | unlike a =>
                simp only [Cl.pls, List.mem_cons, List.not_mem_nil, or_false] at mz
                rw [mz]; exact sh
            have ip := fun h => isPlace_ok 228 h z (by omega)
            refine R.wp_eq.mp ?_
            simp [wp_v, ip])
        obtain ⟨BS, hBS⟩ : ∃ BS, BS = c.pls.map fun _ => true := ⟨_, rfl⟩
        rw [← hBS] at lcm
        have al := all_lst (h := G ++ [.lst (BS.map D.bl)]) (l := G.length) (bs := BS) (by simp)
        have e1 : BS.all id = true := by rw [hBS]; simp
        rw [e1] at al
        simp [wp_v, isNF, isNon, eq, sl, wipeD, lcm, al, noloc]
  obtain ⟨d, h, e, rfl⟩ := R.wp_ex w
  exact ⟨h, e⟩
end DV
namespace Hd
open PySem PySem.Spec PyProof.Rows L2 DV
def top (i : Nat) : Stmt := PySem.Challenge.pw_commonform_k25_first_clashes.main.body.getD i (.Pass ⟨0, 0, 0, 0⟩)
abbrev s_same_blocks : Stmt := top 1
def d_same_blocks : He.DefD := ⟨("same_blocks", none), "same_blocks", "same_blocks", defArgs s_same_blocks, defBody s_same_blocks, defScope s_same_blocks, [], []⟩
abbrev s_fit_under : Stmt := top 2
def d_fit_under : He.DefD := ⟨("fit_under", none), "fit_under", "fit_under", defArgs s_fit_under, defBody s_fit_under, defScope s_fit_under, [], []⟩
abbrev s_fitting : Stmt := top 3
def d_fitting : He.DefD := ⟨("fitting", none), "fitting", "fitting", defArgs s_fitting, defBody s_fitting, defScope s_fitting, [], []⟩
abbrev s_clash_under : Stmt := top 4
def d_clash_under : He.DefD := ⟨("clash_under", none), "clash_under", "clash_under", defArgs s_clash_under, defBody s_clash_under, defScope s_clash_under, [], []⟩
abbrev s_first_clash : Stmt := top 5
def d_first_clash : He.DefD := ⟨("first_clash", none), "first_clash", "first_clash", defArgs s_first_clash, defBody s_first_clash, defScope s_first_clash, [], []⟩
abbrev s__law_cell_at : Stmt := top 7
def d__law_cell_at : He.DefD := ⟨("_law_cell_at", none), "_law_cell_at", "_law_cell_at", defArgs s__law_cell_at, defBody s__law_cell_at, defScope s__law_cell_at, [], []⟩
abbrev s__law_mixed : Stmt := top 8
def d__law_mixed : He.DefD := ⟨("_law_mixed", none), "_law_mixed", "_law_mixed", defArgs s__law_mixed, defBody s__law_mixed, defScope s__law_mixed, [], []⟩
abbrev s__law_numbers : Stmt := top 9
def d__law_numbers : He.DefD := ⟨("_law_numbers", none), "_law_numbers", "_law_numbers", defArgs s__law_numbers, defBody s__law_numbers, defScope s__law_numbers, [], []⟩
abbrev s__law_names : Stmt := top 10
def d__law_names : He.DefD := ⟨("_law_names", none), "_law_names", "_law_names", defArgs s__law_names, defBody s__law_names, defScope s__law_names, [], []⟩
abbrev s__law_blank : Stmt := top 11
def d__law_blank : He.DefD := ⟨("_law_blank", none), "_law_blank", "_law_blank", defArgs s__law_blank, defBody s__law_blank, defScope s__law_blank, [], []⟩
abbrev s__law_build : Stmt := top 12
def d__law_build : He.DefD := ⟨("_law_build", none), "_law_build", "_law_build", defArgs s__law_build, defBody s__law_build, defScope s__law_build, [], []⟩
abbrev s__law_tree : Stmt := top 13
def d__law_tree : He.DefD := ⟨("_law_tree", none), "_law_tree", "_law_tree", defArgs s__law_tree, defBody s__law_tree, defScope s__law_tree, [], []⟩
abbrev s__law_small : Stmt := top 14
def d__law_small : He.DefD := ⟨("_law_small", none), "_law_small", "_law_small", defArgs s__law_small, defBody s__law_small, defScope s__law_small, [], []⟩
abbrev s__law_filled : Stmt := top 15
def d__law_filled : He.DefD := ⟨("_law_filled", none), "_law_filled", "_law_filled", defArgs s__law_filled, defBody s__law_filled, defScope s__law_filled, [], []⟩
abbrev s__law_blanks : Stmt := top 16
def d__law_blanks : He.DefD := ⟨("_law_blanks", none), "_law_blanks", "_law_blanks", defArgs s__law_blanks, defBody s__law_blanks, defScope s__law_blanks, [], []⟩
abbrev s__law_filling : Stmt := top 17
def d__law_filling : He.DefD := ⟨("_law_filling", none), "_law_filling", "_law_filling", defArgs s__law_filling, defBody s__law_filling, defScope s__law_filling, [], []⟩
abbrev s__law_places : Stmt := top 18
def d__law_places : He.DefD := ⟨("_law_places", none), "_law_places", "_law_places", defArgs s__law_places, defBody s__law_places, defScope s__law_places, [], []⟩
abbrev s__law_part : Stmt := top 19
def d__law_part : He.DefD := ⟨("_law_part", none), "_law_part", "_law_part", defArgs s__law_part, defBody s__law_part, defScope s__law_part, [], []⟩
abbrev s__law_clash : Stmt := top 20
def d__law_clash : He.DefD := ⟨("_law_clash", none), "_law_clash", "_law_clash", defArgs s__law_clash, defBody s__law_clash, defScope s__law_clash, [], []⟩
abbrev s__law_bent : Stmt := top 21
def d__law_bent : He.DefD := ⟨("_law_bent", none), "_law_bent", "_law_bent", defArgs s__law_bent, defBody s__law_bent, defScope s__law_bent, [], []⟩
abbrev s__law_is_place : Stmt := top 22
def d__law_is_place : He.DefD := ⟨("_law_is_place", none), "_law_is_place", "_law_is_place", defArgs s__law_is_place, defBody s__law_is_place, defScope s__law_is_place, [], []⟩
abbrev s_law : Stmt := top 23
def d_law : He.DefD := ⟨("law", none), "law", "law", defArgs s_law, defBody s_law, defScope s_law, [], []⟩
def fn : List He.DefD := [d_same_blocks, d_fit_under, d_fitting, d_clash_under, d_first_clash, d__law_cell_at, d__law_mixed, d__law_numbers, d__law_names, d__law_blank, d__law_build, d__law_tree, d__law_small, d__law_filled, d__law_blanks, d__law_filling, d__law_places, d__law_part, d__law_clash, d__law_bent, d__law_is_place, d_law]
def fa : List Fx := [.he (.glo "same_blocks"), .he (.glo "fit_under"), .he (.glo "fitting"), .he (.glo "clash_under"), .he (.glo "first_clash"), .he (.glo "_law_cell_at"), .he (.glo "_law_mixed"), .he (.glo "_law_numbers"), .he (.glo "_law_names"), .he (.glo "_law_blank"), .he (.glo "_law_build"), .he (.glo "_law_tree"), .he (.glo "_law_small"), .he (.glo "_law_filled"), .he (.glo "_law_blanks"), .he (.glo "_law_filling"), .he (.glo "_law_places"), .he (.glo "_law_part"), .he (.glo "_law_clash"), .he (.glo "_law_bent"), .he (.glo "_law_is_place"), .he (.glo "law"), .he (.free "len"), .he (.free "range"), .he (.free "int"), .he (.free "str"), .he (.free "sum"), .he (.free "max"), .he (.free "min"), .he (.free "enumerate"), .he (.free "isinstance"), .he (.free "tuple"), .he (.free "list"), .he (.free "dict"), .he (.free "sorted"), .he (.free "abs"), .he (.free "all"), .he (.free "set"), .he (.free "bool"), .he (.free "ValueError")]
abbrev R : PySem.W.OpenRow := PySem.W.OpenLaw.row PySem.Challenge.rw_commonform_k25_first_clashes
abbrev hk : PySem.W.Hook := hookX 5 fa fn
def ob (s : PySem.W.SharedT) : He.AlD := obsXG 5 fa fn (HandSHeadRun.getT s)
theorem ob_eq (s : PySem.W.SharedT) : ob s = hk.obs s.abs := obsXG_eq (HandSHeadRun.getT_eq s)
def ls0 : List PySem.Str := ["same_blocks", "fit_under", "fitting", "clash_under", "first_clash", "_law_cell_at", "_law_mixed", "_law_numbers", "_law_names", "_law_blank", "_law_build", "_law_tree", "_law_small", "_law_filled", "_law_blanks", "_law_filling", "_law_places", "_law_part", "_law_clash", "_law_bent", "_law_is_place"]
def ls : List PySem.Str := ls0
theorem run (w : World) : HandSHeadRun.RunEq R (PySem.W.view R.prog [23]) hk ob 5920 ls w := by
  intro os
  kernel_rfl
end Hd
namespace Wk
open PySem PySem.Spec PyProof.Rows L2 DV Hd
section
variable {P : Program} {w : World} {K : PySem.W.Frag} {mg : Str → Option Value} {base : Heap} {n : Nat} {f : Addr} {fd : FuncData}
theorem sc_same_blocks : FnScope ["form", "tree"] ["form", "tree"] (defScope s_same_blocks) := ⟨rfl, rfl, rfl, by decide +kernel, rfl, by decide +kernel, by decide +kernel⟩
theorem ok_same_blocks (F : FunD K "same_blocks" "same_blocks" (defArgs s_same_blocks) (defBody s_same_blocks) (defScope s_same_blocks) [] [] f fd) (B : Blt mg) :
    FnOk P w K mg base (L2.CX P w) (n + 1) f fd ["form", "tree"] (spM K 2 (kPure.f (runM 2 2 (m_same_blocks)))) :=
  def_ok (N := ["form", "tree"]) kPure F sc_same_blocks fun cdv A outer s H E W hr tk =>
    sms_one (sm_ret (em_and (em_chain (o_eq (hu195 hr)) (o_eq (hu195 hr)) (em_ix (o_ix (hu1 hr)) (em_v (pv 0)) (em_int) (fun _ _ => rfl)) (em_ix (o_ix (hu1 hr)) (em_v (pv 1)) (em_int) (fun _ _ => rfl)) (em_str)) (em_and (em_cmp (o_eq (hu195 hr)) (em_ix (o_ix (hu1 hr)) (em_v (pv 0)) (em_int) (fun _ _ => rfl)) (em_ix (o_ix (hu1 hr)) (em_v (pv 1)) (em_int) (fun _ _ => rfl)) (nomark _)) (em_one (em_cmp (o_eq (hu195 hr)) (em_callB c_len rfl B.z_len (by decide +kernel) (am_cons (em_ix (o_ix (hu1 hr)) (em_v (pv 0)) (em_int) (fun _ _ => rfl)) (am_nil))) (em_callB c_len rfl B.z_len (by decide +kernel) (am_cons (em_ix (o_ix (hu1 hr)) (em_v (pv 1)) (em_int) (fun _ _ => rfl)) (am_nil))) (nomark _))))))
theorem sc_fit_under : FnScope ["form", "tree", "filling", "k", "part"] ["form", "tree", "filling"] (defScope s_fit_under) := ⟨rfl, rfl, rfl, by decide +kernel, rfl, by decide +kernel, by decide +kernel⟩
theorem ok_fit_under (F : FunD K "fit_under" "fit_under" (defArgs s_fit_under) (defBody s_fit_under) (defScope s_fit_under) [] [] f fd) (B : Blt mg) {f_fit_under f_same_blocks : Fm} (A_fit_under : FnAt P w K mg base n "fit_under" ["form", "tree", "filling"] f_fit_under) (A_same_blocks : FnAt P w K mg base n "same_blocks" ["form", "tree"] f_same_blocks) :
    FnOk P w K mg base (L2.CX P w) (n + 1) f fd ["form", "tree", "filling"] (spM K 3 (kEff.f (runM 3 5 (m_fit_under f_fit_under f_same_blocks)))) :=
  def_ok (N := ["form", "tree", "filling", "k", "part"]) kEff F sc_fit_under fun cdv A outer s H E W hr tk =>
    sms_cons (sm_if (tm_cmp (o_eq (hu195 hr)) (em_ix (o_ix (hu1 hr)) (em_v (pv 0)) (em_int) (fun _ _ => rfl)) (em_str) (nomark _)) (sms_one (sm_ret (em_cmp (o_eq (hu195 hr)) (em_bm rfl PySem.F.plainAttrs_dict PySem.F.slot_dict_setdefault PySem.F.type_dict_setdefault k_setd (fun _ _ _ _ _ => ckDct_ty) (em_v (pv 2)) (am_cons (em_ix (o_ix (hu1 hr)) (em_v (pv 0)) (em_int) (fun _ _ => rfl)) (am_cons (em_v (pv 1)) (am_nil)))) (em_v (pv 1)) (nomark _)))) (sms_nil))
    (sms_cons (sm_if (tm_not (tm_tru (em_call A_same_blocks rfl hr tk rfl (am_cons (em_v (pv 0)) (am_cons (em_v (pv 1)) (am_nil)))) rfl)) (sms_one (sm_ret (em_bl))) (sms_nil))
    (sms_cons (sm_for (passes_of rfl) rfl (im_enum rfl rfl B.z_enumerate (em_ix (o_ix (hu1 hr)) (em_v (pv 0)) (em_int) (fun _ _ => rfl))) (gm_tup rfl (gms_cons (gm_name (i := 3) (pg_name (i := 3) sc_fit_under.nd rfl (by first | exact Or.inl rfl | exact Or.inr rfl))) (gms_cons (gm_name (i := 4) (pg_name (i := 4) sc_fit_under.nd rfl (by first | exact Or.inl rfl | exact Or.inr rfl))) (gms_nil))) rfl) (sms_one (sm_if (tm_not (tm_tru (em_call A_fit_under rfl hr tk rfl (am_cons (em_v (pv 4)) (am_cons (em_ix (o_ix (hu1 hr)) (em_ix (o_ix (hu1 hr)) (em_v (pv 1)) (em_int) (fun _ _ => rfl)) (em_v (pv 3)) (fun _ _ => rfl)) (am_cons (em_v (pv 2)) (am_nil))))) rfl)) (sms_one (sm_ret (em_bl))) (sms_nil))))
    (sms_one (sm_ret (em_bl)))))
theorem sc_fitting : FnScope ["form", "tree", "filling"] ["form", "tree"] (defScope s_fitting) := ⟨rfl, rfl, rfl, by decide +kernel, rfl, by decide +kernel, by decide +kernel⟩
theorem ok_fitting (F : FunD K "fitting" "fitting" (defArgs s_fitting) (defBody s_fitting) (defScope s_fitting) [] [] f fd) (B : Blt mg) {f_fit_under : Fm} (A_fit_under : FnAt P w K mg base n "fit_under" ["form", "tree", "filling"] f_fit_under) :
    FnOk P w K mg base (L2.CX P w) (n + 1) f fd ["form", "tree"] (spM K 2 (kRaw.f (runM 2 3 (m_fitting f_fit_under)))) :=
  def_ok (N := ["form", "tree", "filling"]) kRaw F sc_fitting fun cdv A outer s H E W hr tk =>
    sms_cons (sm_set (i := 2) sc_fitting.nd rfl (by first | exact Or.inl rfl | exact Or.inr rfl) (em_newD))
    (sms_cons (sm_if (tm_tru (em_call A_fit_under rfl hr tk rfl (am_cons (em_v (pv 0)) (am_cons (em_v (pv 1)) (am_cons (em_v (pv 2)) (am_nil))))) rfl) (sms_one (sm_ret (em_v (pv 2)))) (sms_nil))
    (sms_one (sm_ret (em_non))))
theorem sc_clash_under : FnScope ["form", "tree", "place", "firsts", "elder", "there", "k", "part", "clash"] ["form", "tree", "place", "firsts"] (defScope s_clash_under) := ⟨rfl, rfl, rfl, by decide +kernel, rfl, by decide +kernel, by decide +kernel⟩
theorem ok_clash_under (F : FunD K "clash_under" "clash_under" (defArgs s_clash_under) (defBody s_clash_under) (defScope s_clash_under) [] [] f fd) (B : Blt mg) {f_clash_under f_same_blocks : Fm} (A_clash_under : FnAt P w K mg base n "clash_under" ["form", "tree", "place", "firsts"] f_clash_under) (A_same_blocks : FnAt P w K mg base n "same_blocks" ["form", "tree"] f_same_blocks) :
    FnOk P w K mg base (L2.CX P w) (n + 1) f fd ["form", "tree", "place", "firsts"] (spM K 4 (kEff.f (runM 4 9 (m_clash_under f_clash_under f_same_blocks)))) :=
  def_ok (N := ["form", "tree", "place", "firsts", "elder", "there", "k", "part", "clash"]) kEff F sc_clash_under fun cdv A outer s H E W hr tk =>
    sms_cons (sm_if (tm_cmp (o_eq (hu195 hr)) (em_ix (o_ix (hu1 hr)) (em_v (pv 0)) (em_int) (fun _ _ => rfl)) (em_str) (nomark _)) (sms_cons (sm_asg (em_bm rfl PySem.F.plainAttrs_dict PySem.F.slot_dict_setdefault PySem.F.type_dict_setdefault k_setd (fun _ _ _ _ _ => ckDct_ty) (em_v (pv 3)) (am_cons (em_ix (o_ix (hu1 hr)) (em_v (pv 0)) (em_int) (fun _ _ => rfl)) (am_cons (em_tup (am_cons (em_v (pv 2)) (am_cons (em_v (pv 1)) (am_nil)))) (am_nil)))) (gm_tup rfl (gms_cons (gm_name (i := 4) (pg_name (i := 4) sc_clash_under.nd rfl (by first | exact Or.inl rfl | exact Or.inr rfl))) (gms_cons (gm_name (i := 5) (pg_name (i := 5) sc_clash_under.nd rfl (by first | exact Or.inl rfl | exact Or.inr rfl))) (gms_nil))) rfl))
    (sms_cons (sm_if (tm_cmp (o_ne (hu195 hr)) (em_v (pv 5)) (em_v (pv 1)) (nomark _)) (sms_one (sm_ret (em_tup (am_cons (em_str) (am_cons (em_v (pv 4)) (am_cons (em_v (pv 2)) (am_nil))))))) (sms_nil))
    (sms_one (sm_ret (em_non))))) (sms_nil))
    (sms_cons (sm_if (tm_not (tm_tru (em_call A_same_blocks rfl hr tk rfl (am_cons (em_v (pv 0)) (am_cons (em_v (pv 1)) (am_nil)))) rfl)) (sms_one (sm_ret (em_tup (am_cons (em_str) (am_cons (em_v (pv 2)) (am_nil)))))) (sms_nil))
    (sms_cons (sm_for (passes_of rfl) rfl (im_enum rfl rfl B.z_enumerate (em_ix (o_ix (hu1 hr)) (em_v (pv 0)) (em_int) (fun _ _ => rfl))) (gm_tup rfl (gms_cons (gm_name (i := 6) (pg_name (i := 6) sc_clash_under.nd rfl (by first | exact Or.inl rfl | exact Or.inr rfl))) (gms_cons (gm_name (i := 7) (pg_name (i := 7) sc_clash_under.nd rfl (by first | exact Or.inl rfl | exact Or.inr rfl))) (gms_nil))) rfl) (sms_cons (sm_set (i := 8) sc_clash_under.nd rfl (by first | exact Or.inl rfl | exact Or.inr rfl) (em_call A_clash_under rfl hr tk rfl (am_cons (em_v (pv 7)) (am_cons (em_ix (o_ix (hu1 hr)) (em_ix (o_ix (hu1 hr)) (em_v (pv 1)) (em_int) (fun _ _ => rfl)) (em_v (pv 6)) (fun _ _ => rfl)) (am_cons (em_bin o_add (em_v (pv 2)) (em_tup (am_cons (em_v (pv 6)) (am_nil)))) (am_cons (em_v (pv 3)) (am_nil)))))))
    (sms_one (sm_if (tm_cmp o_isn (em_v (pv 8)) (em_non) (nomark _)) (sms_one (sm_ret (em_v (pv 8)))) (sms_nil)))))
    (sms_one (sm_ret (em_non)))))
theorem sc_first_clash : FnScope ["form", "tree"] ["form", "tree"] (defScope s_first_clash) := ⟨rfl, rfl, rfl, by decide +kernel, rfl, by decide +kernel, by decide +kernel⟩
theorem ok_first_clash (F : FunD K "first_clash" "first_clash" (defArgs s_first_clash) (defBody s_first_clash) (defScope s_first_clash) [] [] f fd) (B : Blt mg) {f_clash_under : Fm} (A_clash_under : FnAt P w K mg base n "clash_under" ["form", "tree", "place", "firsts"] f_clash_under) :
    FnOk P w K mg base (L2.CX P w) (n + 1) f fd ["form", "tree"] (spM K 2 (kPure.f (runM 2 2 (m_first_clash f_clash_under)))) :=
  def_ok (N := ["form", "tree"]) kPure F sc_first_clash fun cdv A outer s H E W hr tk =>
    sms_one (sm_ret (em_call A_clash_under rfl hr tk rfl (am_cons (em_v (pv 0)) (am_cons (em_v (pv 1)) (am_cons (em_tup (am_nil)) (am_cons (em_newD) (am_nil)))))))
theorem sc__law_cell_at : FnScope ["script", "k"] ["script", "k"] (defScope s__law_cell_at) := ⟨rfl, rfl, rfl, by decide +kernel, rfl, by decide +kernel, by decide +kernel⟩
theorem ok__law_cell_at (F : FunD K "_law_cell_at" "_law_cell_at" (defArgs s__law_cell_at) (defBody s__law_cell_at) (defScope s__law_cell_at) [] [] f fd) (B : Blt mg) :
    FnOk P w K mg base (L2.CX P w) (n + 1) f fd ["script", "k"] (spM K 2 (kPure.f (runM 2 2 (m__law_cell_at)))) :=
  def_ok (N := ["script", "k"]) kPure F sc__law_cell_at fun cdv A outer s H E W hr tk =>
    sms_cons (sm_if (tm_cmp o_lt (em_v (pv 1)) (em_callB c_len rfl B.z_len (by decide +kernel) (am_cons (em_v (pv 0)) (am_nil))) (nomark _)) (sms_one (sm_ret (em_ix (o_ix (hu1 hr)) (em_v (pv 0)) (em_v (pv 1)) (fun _ _ => rfl)))) (sms_nil))
    (sms_one (sm_ret (em_int)))
theorem sc__law_mixed : FnScope ["cell"] ["cell"] (defScope s__law_mixed) := ⟨rfl, rfl, rfl, by decide +kernel, rfl, by decide +kernel, by decide +kernel⟩
theorem ok__law_mixed (F : FunD K "_law_mixed" "_law_mixed" (defArgs s__law_mixed) (defBody s__law_mixed) (defScope s__law_mixed) [] [] f fd) (B : Blt mg) :
    FnOk P w K mg base (L2.CX P w) (n + 1) f fd ["cell"] (spM K 1 (kPure.f (runM 1 1 (m__law_mixed)))) :=
  def_ok (N := ["cell"]) kPure F sc__law_mixed fun cdv A outer s H E W hr tk =>
    sms_one (sm_ret (em_bin o_mod (em_bin o_mulX (em_bin o_add (em_v (pv 0)) (em_int)) (em_int)) (em_int)))
theorem sc__law_numbers : FnScope ["script", "start", "most", "cells", "first", "many", "found", "k"] ["script", "start", "most"] (defScope s__law_numbers) := ⟨rfl, rfl, rfl, by decide +kernel, rfl, by decide +kernel, by decide +kernel⟩
theorem ok__law_numbers (F : FunD K "_law_numbers" "_law_numbers" (defArgs s__law_numbers) (defBody s__law_numbers) (defScope s__law_numbers) [] [] f fd) (B : Blt mg) {f__law_mixed f__law_cell_at : Fm} (A__law_mixed : FnAt P w K mg base n "_law_mixed" ["cell"] f__law_mixed) (A__law_cell_at : FnAt P w K mg base n "_law_cell_at" ["script", "k"] f__law_cell_at) :
    FnOk P w K mg base (L2.CX P w) (n + 1) f fd ["script", "start", "most"] (spM K 3 (kNew.f (runM 3 8 (m__law_numbers f__law_mixed f__law_cell_at)))) :=
  def_ok (N := ["script", "start", "most", "cells", "first", "many", "found", "k"]) kNew F sc__law_numbers fun cdv A outer s H E W hr tk =>
    sms_cons (sm_set (i := 3) sc__law_numbers.nd rfl (by first | exact Or.inl rfl | exact Or.inr rfl) (em_slice rfl (em_v (pv 0)) (pm_some (em_v (pv 1))) (pm_some (em_bin o_add (em_v (pv 1)) (em_v (pv 2))))))
    (sms_cons (sm_set (i := 4) sc__law_numbers.nd rfl (by first | exact Or.inl rfl | exact Or.inr rfl) (em_call A__law_cell_at rfl hr tk rfl (am_cons (em_v (pv 0)) (am_cons (em_int) (am_nil)))))
    (sms_cons (sm_set (i := 5) sc__law_numbers.nd rfl (by first | exact Or.inl rfl | exact Or.inr rfl) (em_callB (c_max2 rfl) rfl B.z_max (by decide +kernel) (am_cons (em_callB c_len rfl B.z_len (by decide +kernel) (am_cons (em_v (pv 3)) (am_nil))) (am_cons (em_bin o_mod (em_call A__law_mixed rfl hr tk rfl (am_cons (em_v (pv 4)) (am_nil))) (em_int)) (am_nil)))))
    (sms_cons (sm_set (i := 6) sc__law_numbers.nd rfl (by first | exact Or.inl rfl | exact Or.inr rfl) (em_lst (am_nil)))
    (sms_cons (sm_for (passes_of rfl) rfl (im_rng1 (by rfl) B.z_range (am_cons (em_v (pv 5)) (am_nil))) (gm_name (i := 7) (pg_name (i := 7) sc__law_numbers.nd rfl (by first | exact Or.inl rfl | exact Or.inr rfl))) (sms_one (sm_if (tm_cmp o_lt (em_v (pv 7)) (em_callB c_len rfl B.z_len (by decide +kernel) (am_cons (em_v (pv 3)) (am_nil))) (nomark _)) (sms_one (sm_expr (em_bm rfl PySem.F.plainAttrs_list PySem.F.slot_list_append PySem.F.type_list_append k_append (fun _ _ _ _ _ => ckList_ty) (em_v (pv 6)) (am_cons (em_call A__law_mixed rfl hr tk rfl (am_cons (em_ix (o_ix (hu1 hr)) (em_v (pv 3)) (em_v (pv 7)) (fun _ _ => rfl)) (am_nil))) (am_nil))))) (sms_one (sm_expr (em_bm rfl PySem.F.plainAttrs_list PySem.F.slot_list_append PySem.F.type_list_append k_append (fun _ _ _ _ _ => ckList_ty) (em_v (pv 6)) (am_cons (em_call A__law_mixed rfl hr tk rfl (am_cons (em_bin o_add (em_bin o_mulX (em_bin o_mod (em_v (pv 4)) (em_int)) (em_bin o_add (em_bin o_add (em_bin o_mulX (em_v (pv 7)) (em_v (pv 7))) (em_v (pv 7))) (em_int))) (em_v (pv 7))) (am_nil))) (am_nil))))))))
    (sms_one (sm_ret (em_v (pv 6))))))))
theorem sc__law_names_v2 : FnScope ["cell", "some", "number", "size", "at", "base", "k"] ["cell"] (defScope s__law_names) := ⟨rfl, rfl, rfl, by decide +kernel, rfl, by decide +kernel, by decide +kernel⟩
theorem ok__law_names_v2 (F : FunD K "_law_names" "_law_names" (defArgs s__law_names) (defBody s__law_names) (defScope s__law_names) [] [] f fd) (B : Blt mg) {f__law_mixed : Fm} (A__law_mixed : FnAt P w K mg base n "_law_mixed" ["cell"] f__law_mixed) :
    FnOk P w K mg base (L2.CX P w) (n + 1) f fd ["cell"] (spM K 1 (kNew.f (runM 1 7 (m__law_names_v2 f__law_mixed)))) :=
  def_ok (N := ["cell", "some", "number", "size", "at", "base", "k"]) kNew F sc__law_names_v2 fun cdv A outer s H E W hr tk =>
    sms_cons (sm_set (i := 1) sc__law_names_v2.nd rfl (by first | exact Or.inl rfl | exact Or.inr rfl) (em_str))
    (sms_cons (sm_set (i := 2) sc__law_names_v2.nd rfl (by first | exact Or.inl rfl | exact Or.inr rfl) (em_call A__law_mixed rfl hr tk rfl (am_cons (em_v (pv 0)) (am_nil))))
    (sms_cons (sm_set (i := 3) sc__law_names_v2.nd rfl (by first | exact Or.inl rfl | exact Or.inr rfl) (em_bin o_add (em_int) (em_bin o_mod (em_bin o_fdiv (em_v (pv 2)) (em_int)) (em_int))))
    (sms_cons (sm_set (i := 4) sc__law_names_v2.nd rfl (by first | exact Or.inl rfl | exact Or.inr rfl) (em_bin o_mod (em_bin o_fdiv (em_v (pv 2)) (em_int)) (em_v (pv 3))))
    (sms_cons (sm_set (i := 5) sc__law_names_v2.nd rfl (by first | exact Or.inl rfl | exact Or.inr rfl) (em_ix (o_ix (hu1 hr)) (em_v (pv 1)) (em_bin o_mod (em_bin o_fdiv (em_v (pv 2)) (em_int)) (em_int)) (fun _ _ => rfl)))
    (sms_cons (sm_if (tm_cmp (o_eq (hu195 hr)) (em_bin o_mod (em_v (pv 2)) (em_int)) (em_int) (nomark _)) (sms_one (sm_ret (em_lc (own := [("k", 6)]) rfl sc__law_names_v2.nd (im_rng1 (by rfl) B.z_range (am_cons (em_int) (am_nil))) (blkOk_by (own := [("k", 6)]) (N := ["cell", "some", "number", "size", "at", "base", "k"]) (sc := defScope s__law_names) (by decide +kernel)) (ct_name _ 6) (fun _ _ _ _ _ => pg_name (i := 6) sc__law_names_v2.nd rfl (Or.inl rfl)) (fun _ _ _ _ _ => tms_nil) (fun _ _ _ _ _ => em_bin o_mulX (em_v (pv 5)) (em_bin o_add (em_v (pv 6)) (em_int)))))) (sms_nil))
    (sms_cons (sm_for (passes_of rfl) rfl (im_rng1 (by rfl) B.z_range (am_cons (em_bin o_sub (em_v (pv 3)) (em_int)) (am_nil))) (gm_name (i := 6) (pg_name (i := 6) sc__law_names_v2.nd rfl (by first | exact Or.inl rfl | exact Or.inr rfl))) (sms_one (sm_set (i := 5) sc__law_names_v2.nd rfl (by first | exact Or.inl rfl | exact Or.inr rfl) (em_bin o_add (em_v (pv 5)) (em_ix (o_ix (hu1 hr)) (em_v (pv 1)) (em_bin o_mod (em_call A__law_mixed rfl hr tk rfl (am_cons (em_bin o_mulX (em_bin o_fdiv (em_v (pv 2)) (em_int)) (em_bin o_add (em_bin o_add (em_bin o_mulX (em_v (pv 6)) (em_v (pv 6))) (em_bin o_mulX (em_int) (em_v (pv 6)))) (em_int))) (am_nil))) (em_int)) (fun _ _ => rfl))))))
    (sms_one (sm_ret (em_lc (own := [("k", 6)]) rfl sc__law_names_v2.nd (im_rng1 (by rfl) B.z_range (am_cons (em_int) (am_nil))) (blkOk_by (own := [("k", 6)]) (N := ["cell", "some", "number", "size", "at", "base", "k"]) (sc := defScope s__law_names) (by decide +kernel)) (ct_name _ 6) (fun _ _ _ _ _ => pg_name (i := 6) sc__law_names_v2.nd rfl (Or.inl rfl)) (fun _ _ _ _ _ => tms_nil) (fun _ _ _ _ _ => em_bin o_add (em_bin o_add (em_slice rfl (em_v (pv 5)) (pm_no) (pm_some (em_v (pv 4)))) (em_ix (o_ix (hu1 hr)) (em_v (pv 1)) (em_bin o_mod (em_bin o_add (em_bin o_fdiv (em_v (pv 2)) (em_int)) (em_bin o_mulX (em_int) (em_v (pv 6)))) (em_int)) (fun _ _ => rfl))) (em_slice rfl (em_v (pv 5)) (pm_some (em_bin o_add (em_v (pv 4)) (em_int))) (pm_no))))))))))))
theorem sc__law_blank : FnScope ["number", "rest"] ["number"] (defScope s__law_blank) := ⟨rfl, rfl, rfl, by decide +kernel, rfl, by decide +kernel, by decide +kernel⟩
theorem ok__law_blank (F : FunD K "_law_blank" "_law_blank" (defArgs s__law_blank) (defBody s__law_blank) (defScope s__law_blank) [] [] f fd) (B : Blt mg) :
    FnOk P w K mg base (L2.CX P w) (n + 1) f fd ["number"] (spM K 1 (kPure.f (runM 1 2 (m__law_blank)))) :=
  def_ok (N := ["number", "rest"]) kPure F sc__law_blank fun cdv A outer s H E W hr tk =>
    sms_cons (sm_set (i := 1) sc__law_blank.nd rfl (by first | exact Or.inl rfl | exact Or.inr rfl) (em_bin o_fdiv (em_v (pv 0)) (em_int)))
    (sms_one (sm_ret (em_tup (am_cons (em_str) (am_cons (em_ix (o_ix (hu1 hr)) (em_lst (am_cons (em_bin o_add (em_int) (em_bin o_mod (em_v (pv 1)) (em_int))) (am_cons (em_bin o_add (em_int) (em_bin o_mod (em_v (pv 1)) (em_int))) (am_cons (em_int) (am_cons (em_bin o_sub (em_bin o_pow (em_int) (em_int)) (em_bin o_mod (em_v (pv 1)) (em_int))) (am_cons (em_bin o_add (em_int) (em_bin o_mod (em_v (pv 1)) (em_bin o_pow (em_int) (em_int)))) (am_nil))))))) (em_bin o_mod (em_v (pv 0)) (em_int)) (fun _ _ => rfl)) (am_nil))))))
theorem sc__law_build : FnScope ["numbers", "at", "deep", "names", "number", "many", "parts", "k", "part"] ["numbers", "at", "deep", "names"] (defScope s__law_build) := ⟨rfl, rfl, rfl, by decide +kernel, rfl, by decide +kernel, by decide +kernel⟩
theorem ok__law_build (F : FunD K "_law_build" "_law_build" (defArgs s__law_build) (defBody s__law_build) (defScope s__law_build) [] [] f fd) (B : Blt mg) {f__law_build f__law_blank : Fm} (A__law_build : FnAt P w K mg base n "_law_build" ["numbers", "at", "deep", "names"] f__law_build) (A__law_blank : FnAt P w K mg base n "_law_blank" ["number"] f__law_blank) :
    FnOk P w K mg base (L2.CX P w) (n + 1) f fd ["numbers", "at", "deep", "names"] (spM K 4 (kPure.f (runM 4 9 (m__law_build f__law_build f__law_blank)))) :=
  def_ok (N := ["numbers", "at", "deep", "names", "number", "many", "parts", "k", "part"]) kPure F sc__law_build fun cdv A outer s H E W hr tk =>
    sms_cons (sm_if (tm_cmp o_ge (em_v (pv 1)) (em_callB c_len rfl B.z_len (by decide +kernel) (am_cons (em_v (pv 0)) (am_nil))) (nomark _)) (sms_one (sm_ret (em_tup (am_cons (em_tup (am_cons (em_str) (am_cons (em_str) (am_cons (em_tup (am_nil)) (am_nil))))) (am_cons (em_v (pv 1)) (am_nil)))))) (sms_nil))
    (sms_cons (sm_set (i := 4) sc__law_build.nd rfl (by first | exact Or.inl rfl | exact Or.inr rfl) (em_ix (o_ix (hu1 hr)) (em_v (pv 0)) (em_v (pv 1)) (fun _ _ => rfl)))
    (sms_cons (sm_if (tm_cmp (o_eq (hu195 hr)) (em_bin o_mod (em_v (pv 4)) (em_int)) (em_int) (nomark _)) (sms_one (sm_ret (em_tup (am_cons (em_call A__law_blank rfl hr tk rfl (am_cons (em_bin o_fdiv (em_v (pv 4)) (em_int)) (am_nil))) (am_cons (em_bin o_add (em_v (pv 1)) (em_int)) (am_nil)))))) (sms_nil))
    (sms_cons (sm_set (i := 5) sc__law_build.nd rfl (by first | exact Or.inl rfl | exact Or.inr rfl) (em_ix (o_ix (hu1 hr)) (em_lst (am_cons (em_int) (am_cons (em_int) (am_cons (em_int) (am_cons (em_int) (am_cons (em_int) (am_cons (em_int) (am_nil)))))))) (em_bin o_mod (em_bin o_fdiv (em_v (pv 4)) (em_int)) (em_int)) (fun _ _ => rfl)))
    (sms_cons (sm_if (tm_cmp o_gt (em_v (pv 2)) (em_int) (nomark _)) (sms_one (sm_set (i := 5) sc__law_build.nd rfl (by first | exact Or.inl rfl | exact Or.inr rfl) (em_int))) (sms_nil))
    (sms_cons (sm_set (i := 1) sc__law_build.nd rfl (by first | exact Or.inl rfl | exact Or.inr rfl) (em_bin o_add (em_v (pv 1)) (em_int)))
    (sms_cons (sm_set (i := 6) sc__law_build.nd rfl (by first | exact Or.inl rfl | exact Or.inr rfl) (em_lst (am_nil)))
    (sms_cons (sm_for (passes_of rfl) rfl (im_rng1 (by rfl) B.z_range (am_cons (em_v (pv 5)) (am_nil))) (gm_name (i := 7) (pg_name (i := 7) sc__law_build.nd rfl (by first | exact Or.inl rfl | exact Or.inr rfl))) (sms_cons (sm_asg (em_call A__law_build rfl hr tk rfl (am_cons (em_v (pv 0)) (am_cons (em_v (pv 1)) (am_cons (em_bin o_add (em_v (pv 2)) (em_int)) (am_cons (em_v (pv 3)) (am_nil)))))) (gm_tup rfl (gms_cons (gm_name (i := 8) (pg_name (i := 8) sc__law_build.nd rfl (by first | exact Or.inl rfl | exact Or.inr rfl))) (gms_cons (gm_name (i := 1) (pg_name (i := 1) sc__law_build.nd rfl (by first | exact Or.inl rfl | exact Or.inr rfl))) (gms_nil))) rfl))
    (sms_one (sm_expr (em_bm rfl PySem.F.plainAttrs_list PySem.F.slot_list_append PySem.F.type_list_append k_append (fun _ _ _ _ _ => ckList_ty) (em_v (pv 6)) (am_cons (em_v (pv 8)) (am_nil)))))))
    (sms_one (sm_ret (em_tup (am_cons (em_tup (am_cons (em_str) (am_cons (em_ix (o_ix (hu1 hr)) (em_v (pv 3)) (em_bin o_mod (em_bin o_fdiv (em_v (pv 4)) (em_int)) (em_int)) (fun _ _ => rfl)) (am_cons (em_callTy c_tuple rfl B.z_tuple (by decide +kernel) (am_cons (em_v (pv 6)) (am_nil))) (am_nil))))) (am_cons (em_v (pv 1)) (am_nil)))))))))))))
theorem sc__law_tree_v2 : FnScope ["numbers", "names", "parts", "at", "part"] ["numbers", "names"] (defScope s__law_tree) := ⟨rfl, rfl, rfl, by decide +kernel, rfl, by decide +kernel, by decide +kernel⟩
theorem ok__law_tree_v2 (F : FunD K "_law_tree" "_law_tree" (defArgs s__law_tree) (defBody s__law_tree) (defScope s__law_tree) [] [] f fd) (B : Blt mg) {f__law_build : Fm} (A__law_build : FnAt P w K mg base n "_law_build" ["numbers", "at", "deep", "names"] f__law_build) :
    FnOk P w K mg base (L2.CX P w) (n + 1) f fd ["numbers", "names"] (spM K 2 (kPure.f (runM 2 5 (m__law_tree_v2 f__law_build)))) :=
  def_ok (N := ["numbers", "names", "parts", "at", "part"]) kPure F sc__law_tree_v2 fun cdv A outer s H E W hr tk =>
    sms_cons (sm_set (i := 2) sc__law_tree_v2.nd rfl (by first | exact Or.inl rfl | exact Or.inr rfl) (em_lst (am_nil)))
    (sms_cons (sm_set (i := 3) sc__law_tree_v2.nd rfl (by first | exact Or.inl rfl | exact Or.inr rfl) (em_int))
    (sms_cons (sm_while FUEL (passes_of rfl) (PW.pt (tm_and (tm_cmp o_lt (em_v (pv 3)) (em_callB c_len rfl B.z_len (by decide +kernel) (am_cons (em_v (pv 0)) (am_nil))) (nomark _)) (tm_and1 (tm_cmp o_lt (em_callB c_len rfl B.z_len (by decide +kernel) (am_cons (em_v (pv 2)) (am_nil))) (em_int) (nomark _))))) (sms_cons (sm_asg (em_call A__law_build rfl hr tk rfl (am_cons (em_v (pv 0)) (am_cons (em_v (pv 3)) (am_cons (em_int) (am_cons (em_v (pv 1)) (am_nil)))))) (gm_tup rfl (gms_cons (gm_name (i := 4) (pg_name (i := 4) sc__law_tree_v2.nd rfl (by first | exact Or.inl rfl | exact Or.inr rfl))) (gms_cons (gm_name (i := 3) (pg_name (i := 3) sc__law_tree_v2.nd rfl (by first | exact Or.inl rfl | exact Or.inr rfl))) (gms_nil))) rfl))
    (sms_one (sm_expr (em_bm rfl PySem.F.plainAttrs_list PySem.F.slot_list_append PySem.F.type_list_append k_append (fun _ _ _ _ _ => ckList_ty) (em_v (pv 2)) (am_cons (em_v (pv 4)) (am_nil)))))))
    (sms_cons (sm_if (tm_cmp (o_eq (hu195 hr)) (em_callB c_len rfl B.z_len (by decide +kernel) (am_cons (em_v (pv 2)) (am_nil))) (em_int) (nomark _)) (sms_one (sm_ret (em_ix (o_ix (hu1 hr)) (em_v (pv 2)) (em_int) (fun _ _ => rfl)))) (sms_nil))
    (sms_one (sm_ret (em_tup (am_cons (em_str) (am_cons (em_str) (am_cons (em_callTy c_tuple rfl B.z_tuple (by decide +kernel) (am_cons (em_v (pv 2)) (am_nil))) (am_nil))))))))))
theorem sc__law_small_v2 : FnScope ["number", "names", "kind", "one", "other"] ["number", "names"] (defScope s__law_small) := ⟨rfl, rfl, rfl, by decide +kernel, rfl, by decide +kernel, by decide +kernel⟩
theorem ok__law_small_v2 (F : FunD K "_law_small" "_law_small" (defArgs s__law_small) (defBody s__law_small) (defScope s__law_small) [] [] f fd) (B : Blt mg) {f__law_blank : Fm} (A__law_blank : FnAt P w K mg base n "_law_blank" ["number"] f__law_blank) :
    FnOk P w K mg base (L2.CX P w) (n + 1) f fd ["number", "names"] (spM K 2 (kPure.f (runM 2 5 (m__law_small_v2 f__law_blank)))) :=
  def_ok (N := ["number", "names", "kind", "one", "other"]) kPure F sc__law_small_v2 fun cdv A outer s H E W hr tk =>
    sms_cons (sm_set (i := 2) sc__law_small_v2.nd rfl (by first | exact Or.inl rfl | exact Or.inr rfl) (em_bin o_mod (em_v (pv 0)) (em_int)))
    (sms_cons (sm_set (i := 0) sc__law_small_v2.nd rfl (by first | exact Or.inl rfl | exact Or.inr rfl) (em_bin o_fdiv (em_v (pv 0)) (em_int)))
    (sms_cons (sm_if (tm_cmp o_lt (em_v (pv 2)) (em_int) (nomark _)) (sms_one (sm_ret (em_call A__law_blank rfl hr tk rfl (am_cons (em_v (pv 0)) (am_nil))))) (sms_nil))
    (sms_cons (sm_set (i := 3) sc__law_small_v2.nd rfl (by first | exact Or.inl rfl | exact Or.inr rfl) (em_tup (am_cons (em_str) (am_cons (em_ix (o_ix (hu1 hr)) (em_v (pv 1)) (em_bin o_mod (em_v (pv 0)) (em_int)) (fun _ _ => rfl)) (am_cons (em_tup (am_nil)) (am_nil))))))
    (sms_cons (sm_if (tm_cmp (o_eq (hu195 hr)) (em_v (pv 2)) (em_int) (nomark _)) (sms_one (sm_ret (em_v (pv 3)))) (sms_nil))
    (sms_cons (sm_set (i := 4) sc__law_small_v2.nd rfl (by first | exact Or.inl rfl | exact Or.inr rfl) (em_call A__law_blank rfl hr tk rfl (am_cons (em_bin o_fdiv (em_v (pv 0)) (em_int)) (am_nil))))
    (sms_cons (sm_if (tm_cmp (o_eq (hu195 hr)) (em_v (pv 2)) (em_int) (nomark _)) (sms_one (sm_ret (em_tup (am_cons (em_str) (am_cons (em_ix (o_ix (hu1 hr)) (em_v (pv 1)) (em_bin o_mod (em_bin o_fdiv (em_v (pv 0)) (em_int)) (em_int)) (fun _ _ => rfl)) (am_cons (em_tup (am_cons (em_v (pv 4)) (am_nil))) (am_nil))))))) (sms_nil))
    (sms_one (sm_ret (em_tup (am_cons (em_str) (am_cons (em_ix (o_ix (hu1 hr)) (em_v (pv 1)) (em_bin o_mod (em_bin o_fdiv (em_v (pv 0)) (em_int)) (em_int)) (fun _ _ => rfl)) (am_cons (em_ix (o_ix (hu1 hr)) (em_lst (am_cons (em_tup (am_cons (em_v (pv 3)) (am_cons (em_v (pv 4)) (am_nil)))) (am_cons (em_tup (am_cons (em_v (pv 4)) (am_cons (em_v (pv 4)) (am_nil)))) (am_nil)))) (em_bin o_mod (em_v (pv 2)) (em_int)) (fun _ _ => rfl)) (am_nil)))))))))))))
theorem sc__law_filled : FnScope ["tree", "filling", "part"] ["tree", "filling"] (defScope s__law_filled) := ⟨rfl, rfl, rfl, by decide +kernel, rfl, by decide +kernel, by decide +kernel⟩
theorem ok__law_filled (F : FunD K "_law_filled" "_law_filled" (defArgs s__law_filled) (defBody s__law_filled) (defScope s__law_filled) [] [] f fd) (B : Blt mg) {f__law_filled : Fm} (A__law_filled : FnAt P w K mg base n "_law_filled" ["tree", "filling"] f__law_filled) :
    FnOk P w K mg base (L2.CX P w) (n + 1) f fd ["tree", "filling"] (spM K 2 (kPure.f (runM 2 3 (m__law_filled f__law_filled)))) :=
  def_ok (N := ["tree", "filling", "part"]) kPure F sc__law_filled fun cdv A outer s H E W hr tk =>
    sms_cons (sm_if (tm_cmp (o_eq (hu195 hr)) (em_ix (o_ix (hu1 hr)) (em_v (pv 0)) (em_int) (fun _ _ => rfl)) (em_str) (nomark _)) (sms_one (sm_ret (em_bm rfl PySem.F.plainAttrs_dict PySem.F.slot_dict_get PySem.F.type_dict_get (k_get (hu1 hr)) (fun _ _ _ _ _ => ckDct_ty) (em_v (pv 1)) (am_cons (em_ix (o_ix (hu1 hr)) (em_v (pv 0)) (em_int) (fun _ _ => rfl)) (am_cons (em_v (pv 0)) (am_nil)))))) (sms_nil))
    (sms_one (sm_ret (em_tup (am_cons (em_str) (am_cons (em_ix (o_ix (hu1 hr)) (em_v (pv 0)) (em_int) (fun _ _ => rfl)) (am_cons (em_callTy c_tuple rfl B.z_tuple (by decide +kernel) (am_cons (em_lc (own := [("part", 2)]) rfl sc__law_filled.nd (im_val rfl (em_ix (o_ix (hu1 hr)) (em_v (pv 0)) (em_int) (fun _ _ => rfl))) (blkOk_by (own := [("part", 2)]) (N := ["tree", "filling", "part"]) (sc := defScope s__law_filled) (by decide +kernel)) (ct_name _ 2) (fun _ _ _ _ _ => pg_name (i := 2) sc__law_filled.nd rfl (Or.inl rfl)) (fun _ _ _ _ _ => tms_nil) (fun _ _ _ _ _ => em_call A__law_filled rfl hr takes0 rfl (am_cons (em_v (pv 2)) (am_cons (em_v (pv 1)) (am_nil))))) (am_nil))) (am_nil)))))))
theorem sc__law_blanks : FnScope ["tree", "found", "part", "k"] ["tree"] (defScope s__law_blanks) := ⟨rfl, rfl, rfl, by decide +kernel, rfl, by decide +kernel, by decide +kernel⟩
theorem ok__law_blanks (F : FunD K "_law_blanks" "_law_blanks" (defArgs s__law_blanks) (defBody s__law_blanks) (defScope s__law_blanks) [] [] f fd) (B : Blt mg) {f__law_blanks : Fm} (A__law_blanks : FnAt P w K mg base n "_law_blanks" ["tree"] f__law_blanks) :
    FnOk P w K mg base (L2.CX P w) (n + 1) f fd ["tree"] (spM K 1 (kNew.f (runM 1 4 (m__law_blanks f__law_blanks)))) :=
  def_ok (N := ["tree", "found", "part", "k"]) kNew F sc__law_blanks fun cdv A outer s H E W hr tk =>
    sms_cons (sm_if (tm_cmp (o_eq (hu195 hr)) (em_ix (o_ix (hu1 hr)) (em_v (pv 0)) (em_int) (fun _ _ => rfl)) (em_str) (nomark _)) (sms_one (sm_ret (em_lst (am_cons (em_ix (o_ix (hu1 hr)) (em_v (pv 0)) (em_int) (fun _ _ => rfl)) (am_nil))))) (sms_nil))
    (sms_cons (sm_set (i := 1) sc__law_blanks.nd rfl (by first | exact Or.inl rfl | exact Or.inr rfl) (em_lst (am_nil)))
    (sms_cons (sm_for (passes_of rfl) rfl (im_val rfl (em_ix (o_ix (hu1 hr)) (em_v (pv 0)) (em_int) (fun _ _ => rfl))) (gm_name (i := 2) (pg_name (i := 2) sc__law_blanks.nd rfl (by first | exact Or.inl rfl | exact Or.inr rfl))) (sms_one (sm_for (passes_of rfl) rfl (im_val rfl (em_call A__law_blanks rfl hr tk rfl (am_cons (em_v (pv 2)) (am_nil)))) (gm_name (i := 3) (pg_name (i := 3) sc__law_blanks.nd rfl (by first | exact Or.inl rfl | exact Or.inr rfl))) (sms_one (sm_if (tm_cmp (o_nin (hu195 hr)) (em_v (pv 3)) (em_v (pv 1)) rfl) (sms_one (sm_expr (em_bm rfl PySem.F.plainAttrs_list PySem.F.slot_list_append PySem.F.type_list_append k_append (fun _ _ _ _ _ => ckList_ty) (em_v (pv 1)) (am_cons (em_v (pv 3)) (am_nil))))) (sms_nil))))))
    (sms_one (sm_ret (em_v (pv 1))))))
theorem sc__law_filling_v2 : FnScope ["tree", "number", "names", "found", "k", "blank"] ["tree", "number", "names"] (defScope s__law_filling) := ⟨rfl, rfl, rfl, by decide +kernel, rfl, by decide +kernel, by decide +kernel⟩
theorem ok__law_filling_v2 (F : FunD K "_law_filling" "_law_filling" (defArgs s__law_filling) (defBody s__law_filling) (defScope s__law_filling) [] [] f fd) (B : Blt mg) {f__law_blanks f__law_mixed f__law_small : Fm} (A__law_blanks : FnAt P w K mg base n "_law_blanks" ["tree"] f__law_blanks) (A__law_mixed : FnAt P w K mg base n "_law_mixed" ["cell"] f__law_mixed) (A__law_small : FnAt P w K mg base n "_law_small" ["number", "names"] f__law_small) :
    FnOk P w K mg base (L2.CX P w) (n + 1) f fd ["tree", "number", "names"] (spM K 3 (kNew.f (runM 3 6 (m__law_filling_v2 f__law_blanks f__law_mixed f__law_small)))) :=
  def_ok (N := ["tree", "number", "names", "found", "k", "blank"]) kNew F sc__law_filling_v2 fun cdv A outer s H E W hr tk =>
    sms_cons (sm_set (i := 3) sc__law_filling_v2.nd rfl (by first | exact Or.inl rfl | exact Or.inr rfl) (em_newD))
    (sms_cons (sm_for (passes_of rfl) rfl (im_enum rfl rfl B.z_enumerate (em_call A__law_blanks rfl hr tk rfl (am_cons (em_v (pv 0)) (am_nil)))) (gm_tup rfl (gms_cons (gm_name (i := 4) (pg_name (i := 4) sc__law_filling_v2.nd rfl (by first | exact Or.inl rfl | exact Or.inr rfl))) (gms_cons (gm_name (i := 5) (pg_name (i := 5) sc__law_filling_v2.nd rfl (by first | exact Or.inl rfl | exact Or.inr rfl))) (gms_nil))) rfl) (sms_one (sm_setIx (s_any (hu1 hr)) (em_call A__law_small rfl hr tk rfl (am_cons (em_call A__law_mixed rfl hr tk rfl (am_cons (em_bin o_mulX (em_v (pv 1)) (em_bin o_add (em_bin o_add (em_bin o_mulX (em_v (pv 4)) (em_v (pv 4))) (em_bin o_mulX (em_int) (em_v (pv 4)))) (em_int))) (am_nil))) (am_cons (em_v (pv 2)) (am_nil)))) (em_v (pv 3)) (em_v (pv 5)))))
    (sms_one (sm_ret (em_v (pv 3)))))
theorem sc__law_places_v2 : FnScope ["tree", "found", "k", "part", "place", "inner"] ["tree"] (defScope s__law_places) := ⟨rfl, rfl, rfl, by decide +kernel, rfl, by decide +kernel, by decide +kernel⟩
theorem ok__law_places_v2 (F : FunD K "_law_places" "_law_places" (defArgs s__law_places) (defBody s__law_places) (defScope s__law_places) [] [] f fd) (B : Blt mg) {f__law_places : Fm} (A__law_places : FnAt P w K mg base n "_law_places" ["tree"] f__law_places) :
    FnOk P w K mg base (L2.CX P w) (n + 1) f fd ["tree"] (spM K 1 (kNew.f (runM 1 6 (m__law_places_v2 f__law_places)))) :=
  def_ok (N := ["tree", "found", "k", "part", "place", "inner"]) kNew F sc__law_places_v2 fun cdv A outer s H E W hr tk =>
    sms_cons (sm_set (i := 1) sc__law_places_v2.nd rfl (by first | exact Or.inl rfl | exact Or.inr rfl) (em_lst (am_cons (em_tup (am_cons (em_tup (am_nil)) (am_cons (em_v (pv 0)) (am_nil)))) (am_nil))))
    (sms_cons (sm_if (tm_cmp (o_eq (hu195 hr)) (em_ix (o_ix (hu1 hr)) (em_v (pv 0)) (em_int) (fun _ _ => rfl)) (em_str) (nomark _)) (sms_one (sm_for (passes_of rfl) rfl (im_enum rfl rfl B.z_enumerate (em_ix (o_ix (hu1 hr)) (em_v (pv 0)) (em_int) (fun _ _ => rfl))) (gm_tup rfl (gms_cons (gm_name (i := 2) (pg_name (i := 2) sc__law_places_v2.nd rfl (by first | exact Or.inl rfl | exact Or.inr rfl))) (gms_cons (gm_name (i := 3) (pg_name (i := 3) sc__law_places_v2.nd rfl (by first | exact Or.inl rfl | exact Or.inr rfl))) (gms_nil))) rfl) (sms_one (sm_set (i := 1) sc__law_places_v2.nd rfl (by first | exact Or.inl rfl | exact Or.inr rfl) (em_bin o_add (em_v (pv 1)) (em_lc (own := [("place", 4), ("inner", 5)]) rfl sc__law_places_v2.nd (im_val rfl (em_call A__law_places rfl hr tk rfl (am_cons (em_v (pv 3)) (am_nil)))) (blkOk_by (own := [("place", 4), ("inner", 5)]) (N := ["tree", "found", "k", "part", "place", "inner"]) (sc := defScope s__law_places) (by decide +kernel)) (ct_two _ (i := 4) (j := 5) (by decide)) (fun _ _ _ _ _ => pg_tup rfl (pgs_cons (pg_name (i := 4) sc__law_places_v2.nd rfl (Or.inl rfl)) (pgs_cons (pg_name (i := 5) sc__law_places_v2.nd rfl (Or.inl rfl)) pgs_nil))) (fun _ _ _ _ _ => tms_nil) (fun _ _ _ _ _ => em_tup (am_cons (em_bin o_add (em_tup (am_cons (em_v (pv 2)) (am_nil))) (em_v (pv 4))) (am_cons (em_v (pv 5)) (am_nil)))))))))) (sms_nil))
    (sms_one (sm_ret (em_v (pv 1)))))
theorem sc__law_part : FnScope ["tree", "place", "k"] ["tree", "place"] (defScope s__law_part) := ⟨rfl, rfl, rfl, by decide +kernel, rfl, by decide +kernel, by decide +kernel⟩
theorem ok__law_part (F : FunD K "_law_part" "_law_part" (defArgs s__law_part) (defBody s__law_part) (defScope s__law_part) [] [] f fd) (B : Blt mg) :
    FnOk P w K mg base (L2.CX P w) (n + 1) f fd ["tree", "place"] (spM K 2 (kPure.f (runM 2 3 (m__law_part)))) :=
  def_ok (N := ["tree", "place", "k"]) kPure F sc__law_part fun cdv A outer s H E W hr tk =>
    sms_cons (sm_for (passes_of rfl) rfl (im_val rfl (em_v (pv 1))) (gm_name (i := 2) (pg_name (i := 2) sc__law_part.nd rfl (by first | exact Or.inl rfl | exact Or.inr rfl))) (sms_one (sm_set (i := 0) sc__law_part.nd rfl (by first | exact Or.inl rfl | exact Or.inr rfl) (em_ix (o_ix (hu1 hr)) (em_ix (o_ix (hu1 hr)) (em_v (pv 0)) (em_int) (fun _ _ => rfl)) (em_v (pv 2)) (fun _ _ => rfl)))))
    (sms_one (sm_ret (em_v (pv 0))))
theorem sc__law_clash : FnScope ["form", "tree", "firsts", "place", "part", "there"] ["form", "tree"] (defScope s__law_clash) := ⟨rfl, rfl, rfl, by decide +kernel, rfl, by decide +kernel, by decide +kernel⟩
theorem ok__law_clash (F : FunD K "_law_clash" "_law_clash" (defArgs s__law_clash) (defBody s__law_clash) (defScope s__law_clash) [] [] f fd) (B : Blt mg) {f__law_places f__law_part : Fm} (A__law_places : FnAt P w K mg base n "_law_places" ["tree"] f__law_places) (A__law_part : FnAt P w K mg base n "_law_part" ["tree", "place"] f__law_part) :
    FnOk P w K mg base (L2.CX P w) (n + 1) f fd ["form", "tree"] (spM K 2 (kPure.f (runM 2 6 (m__law_clash f__law_places f__law_part)))) :=
  def_ok (N := ["form", "tree", "firsts", "place", "part", "there"]) kPure F sc__law_clash fun cdv A outer s H E W hr tk =>
    sms_cons (sm_set (i := 2) sc__law_clash.nd rfl (by first | exact Or.inl rfl | exact Or.inr rfl) (em_newD))
    (sms_cons (sm_for (passes_of rfl) rfl (im_val rfl (em_call A__law_places rfl hr tk rfl (am_cons (em_v (pv 0)) (am_nil)))) (gm_tup rfl (gms_cons (gm_name (i := 3) (pg_name (i := 3) sc__law_clash.nd rfl (by first | exact Or.inl rfl | exact Or.inr rfl))) (gms_cons (gm_name (i := 4) (pg_name (i := 4) sc__law_clash.nd rfl (by first | exact Or.inl rfl | exact Or.inr rfl))) (gms_nil))) rfl) (sms_cons (sm_set (i := 5) sc__law_clash.nd rfl (by first | exact Or.inl rfl | exact Or.inr rfl) (em_call A__law_part rfl hr tk rfl (am_cons (em_v (pv 1)) (am_cons (em_v (pv 3)) (am_nil)))))
    (sms_one (sm_if (tm_cmp (o_eq (hu195 hr)) (em_ix (o_ix (hu1 hr)) (em_v (pv 4)) (em_int) (fun _ _ => rfl)) (em_str) (nomark _)) (sms_cons (sm_if (tm_cmp (o_nin (hu195 hr)) (em_ix (o_ix (hu1 hr)) (em_v (pv 4)) (em_int) (fun _ _ => rfl)) (em_v (pv 2)) rfl) (sms_one (sm_setIx (s_any (hu1 hr)) (em_tup (am_cons (em_v (pv 3)) (am_cons (em_v (pv 5)) (am_nil)))) (em_v (pv 2)) (em_ix (o_ix (hu1 hr)) (em_v (pv 4)) (em_int) (fun _ _ => rfl)))) (sms_nil))
    (sms_one (sm_if (tm_cmp (o_ne (hu195 hr)) (em_ix (o_ix (hu1 hr)) (em_ix (o_ix (hu1 hr)) (em_v (pv 2)) (em_ix (o_ix (hu1 hr)) (em_v (pv 4)) (em_int) (fun _ _ => rfl)) (fun _ _ => rfl)) (em_int) (fun _ _ => rfl)) (em_v (pv 5)) (nomark _)) (sms_one (sm_ret (em_tup (am_cons (em_str) (am_cons (em_ix (o_ix (hu1 hr)) (em_ix (o_ix (hu1 hr)) (em_v (pv 2)) (em_ix (o_ix (hu1 hr)) (em_v (pv 4)) (em_int) (fun _ _ => rfl)) (fun _ _ => rfl)) (em_int) (fun _ _ => rfl)) (am_cons (em_v (pv 3)) (am_nil))))))) (sms_nil)))) (sms_one (sm_if (PW.pt (tm_or (tm_cmp (o_ne (hu195 hr)) (em_ix (o_ix (hu1 hr)) (em_v (pv 5)) (em_int) (fun _ _ => rfl)) (em_str) (nomark _)) (tm_or (tm_cmp (o_ne (hu195 hr)) (em_ix (o_ix (hu1 hr)) (em_v (pv 5)) (em_int) (fun _ _ => rfl)) (em_ix (o_ix (hu1 hr)) (em_v (pv 4)) (em_int) (fun _ _ => rfl)) (nomark _)) (tm_or1 (tm_cmp (o_ne (hu195 hr)) (em_callB c_len rfl B.z_len (by decide +kernel) (am_cons (em_ix (o_ix (hu1 hr)) (em_v (pv 5)) (em_int) (fun _ _ => rfl)) (am_nil))) (em_callB c_len rfl B.z_len (by decide +kernel) (am_cons (em_ix (o_ix (hu1 hr)) (em_v (pv 4)) (em_int) (fun _ _ => rfl)) (am_nil))) (nomark _)))))) (sms_one (sm_ret (em_tup (am_cons (em_str) (am_cons (em_v (pv 3)) (am_nil)))))) (sms_nil)))))))
    (sms_one (sm_ret (em_non))))
theorem sc__law_bent_v2 : FnScope ["tree", "place", "number", "names", "k", "part", "kind"] ["tree", "place", "number", "names"] (defScope s__law_bent) := ⟨rfl, rfl, rfl, by decide +kernel, rfl, by decide +kernel, by decide +kernel⟩
theorem ok__law_bent_v2 (F : FunD K "_law_bent" "_law_bent" (defArgs s__law_bent) (defBody s__law_bent) (defScope s__law_bent) [] [] f fd) (B : Blt mg) {f__law_small f__law_bent : Fm} (A__law_small : FnAt P w K mg base n "_law_small" ["number", "names"] f__law_small) (A__law_bent : FnAt P w K mg base n "_law_bent" ["tree", "place", "number", "names"] f__law_bent) :
    FnOk P w K mg base (L2.CX P w) (n + 1) f fd ["tree", "place", "number", "names"] (spM K 4 (kPure.f (runM 4 7 (m__law_bent_v2 f__law_small f__law_bent)))) :=
  def_ok (N := ["tree", "place", "number", "names", "k", "part", "kind"]) kPure F sc__law_bent_v2 fun cdv A outer s H E W hr tk =>
    sms_cons (sm_if (tm_cmp (o_ne (hu195 hr)) (em_v (pv 1)) (em_tup (am_nil)) (nomark _)) (sms_cons (sm_set (i := 4) sc__law_bent_v2.nd rfl (by first | exact Or.inl rfl | exact Or.inr rfl) (em_ix (o_ix (hu1 hr)) (em_v (pv 1)) (em_int) (fun _ _ => rfl)))
    (sms_cons (sm_set (i := 5) sc__law_bent_v2.nd rfl (by first | exact Or.inl rfl | exact Or.inr rfl) (em_call A__law_bent rfl hr tk rfl (am_cons (em_ix (o_ix (hu1 hr)) (em_ix (o_ix (hu1 hr)) (em_v (pv 0)) (em_int) (fun _ _ => rfl)) (em_v (pv 4)) (fun _ _ => rfl)) (am_cons (em_slice rfl (em_v (pv 1)) (pm_some (em_int)) (pm_no)) (am_cons (em_v (pv 2)) (am_cons (em_v (pv 3)) (am_nil)))))))
    (sms_one (sm_ret (em_tup (am_cons (em_str) (am_cons (em_ix (o_ix (hu1 hr)) (em_v (pv 0)) (em_int) (fun _ _ => rfl)) (am_cons (em_bin o_add (em_bin o_add (em_slice rfl (em_ix (o_ix (hu1 hr)) (em_v (pv 0)) (em_int) (fun _ _ => rfl)) (pm_no) (pm_some (em_v (pv 4)))) (em_tup (am_cons (em_v (pv 5)) (am_nil)))) (em_slice rfl (em_ix (o_ix (hu1 hr)) (em_v (pv 0)) (em_int) (fun _ _ => rfl)) (pm_some (em_bin o_add (em_v (pv 4)) (em_int))) (pm_no))) (am_nil))))))))) (sms_nil))
    (sms_cons (sm_set (i := 6) sc__law_bent_v2.nd rfl (by first | exact Or.inl rfl | exact Or.inr rfl) (em_bin o_mod (em_v (pv 2)) (em_int)))
    (sms_cons (sm_set (i := 2) sc__law_bent_v2.nd rfl (by first | exact Or.inl rfl | exact Or.inr rfl) (em_bin o_fdiv (em_v (pv 2)) (em_int)))
    (sms_cons (sm_if (PW.pt (tm_or (tm_cmp (o_eq (hu195 hr)) (em_ix (o_ix (hu1 hr)) (em_v (pv 0)) (em_int) (fun _ _ => rfl)) (em_str) (nomark _)) (tm_or1 (tm_cmp (o_eq (hu195 hr)) (em_v (pv 6)) (em_int) (nomark _))))) (sms_one (sm_ret (em_call A__law_small rfl hr tk rfl (am_cons (em_v (pv 2)) (am_cons (em_v (pv 3)) (am_nil)))))) (sms_nil))
    (sms_cons (sm_if (tm_cmp (o_eq (hu195 hr)) (em_v (pv 6)) (em_int) (nomark _)) (sms_one (sm_ret (em_tup (am_cons (em_str) (am_cons (em_ix (o_ix (hu1 hr)) (em_v (pv 3)) (em_bin o_mod (em_v (pv 2)) (em_int)) (fun _ _ => rfl)) (am_cons (em_ix (o_ix (hu1 hr)) (em_v (pv 0)) (em_int) (fun _ _ => rfl)) (am_nil))))))) (sms_nil))
    (sms_cons (sm_if (tm_cmp (o_eq (hu195 hr)) (em_v (pv 6)) (em_int) (nomark _)) (sms_one (sm_ret (em_tup (am_cons (em_str) (am_cons (em_ix (o_ix (hu1 hr)) (em_v (pv 0)) (em_int) (fun _ _ => rfl)) (am_cons (em_slice rfl (em_ix (o_ix (hu1 hr)) (em_v (pv 0)) (em_int) (fun _ _ => rfl)) (pm_no) (pm_some (em_neg (em_int)))) (am_nil))))))) (sms_nil))
    (sms_cons (sm_if (tm_cmp o_gt (em_callB c_len rfl B.z_len (by decide +kernel) (am_cons (em_ix (o_ix (hu1 hr)) (em_v (pv 0)) (em_int) (fun _ _ => rfl)) (am_nil))) (em_int) (nomark _)) (sms_one (sm_ret (em_v (pv 0)))) (sms_nil))
    (sms_one (sm_ret (em_tup (am_cons (em_str) (am_cons (em_ix (o_ix (hu1 hr)) (em_v (pv 0)) (em_int) (fun _ _ => rfl)) (am_cons (em_bin o_add (em_ix (o_ix (hu1 hr)) (em_v (pv 0)) (em_int) (fun _ _ => rfl)) (em_tup (am_cons (em_call A__law_small rfl hr tk rfl (am_cons (em_v (pv 2)) (am_cons (em_v (pv 3)) (am_nil)))) (am_nil)))) (am_nil)))))))))))))
theorem sc__law_is_place : FnScope ["found", "k"] ["found"] (defScope s__law_is_place) := ⟨rfl, rfl, rfl, by decide +kernel, rfl, by decide +kernel, by decide +kernel⟩
theorem ok__law_is_place (F : FunD K "_law_is_place" "_law_is_place" (defArgs s__law_is_place) (defBody s__law_is_place) (defScope s__law_is_place) [] [] f fd) (B : Blt mg) :
    FnOk P w K mg base (L2.CX P w) (n + 1) f fd ["found"] (spM K 1 (kPure.f (runM 1 2 (m__law_is_place)))) :=
  def_ok (N := ["found", "k"]) kPure F sc__law_is_place fun cdv A outer s H E W hr tk =>
    sms_cons (sm_if (tm_not (tm_tru (em_isi (T := "tuple") rfl (by decide) rfl B.z_isinstance rfl B.z_tuple (by decide +kernel) (em_v (pv 0))) rfl)) (sms_one (sm_ret (em_bl))) (sms_nil))
    (sms_one (sm_ret (em_callB (c_all rfl) rfl B.z_all (by decide +kernel) (am_cons (em_lc (own := [("k", 1)]) rfl sc__law_is_place.nd (im_val rfl (em_v (pv 0))) (blkOk_by (own := [("k", 1)]) (N := ["found", "k"]) (sc := defScope s__law_is_place) (by decide +kernel)) (ct_name _ 1) (fun _ _ _ _ _ => pg_name (i := 1) sc__law_is_place.nd rfl (Or.inl rfl)) (fun _ _ _ _ _ => tms_nil) (fun _ _ _ _ _ => em_and (em_isi (T := "int") rfl (by decide) rfl B.z_isinstance rfl B.z_int (by decide +kernel) (em_v (pv 1))) (em_one (em_not (em_isi (T := "bool") rfl (by decide) rfl B.z_isinstance rfl B.z_bool (by decide +kernel) (em_v (pv 1))))))) (am_nil)))))
theorem sc_law_k25 : FnScope ["script", "names", "form", "number", "tree", "k", "draw", "places", "due", "found", "filling", "place"] ["script"] (defScope s_law) := ⟨rfl, rfl, rfl, by decide +kernel, rfl, by decide +kernel, by decide +kernel⟩
theorem ok_law_k25 (F : FunD K "law" "law" (defArgs s_law) (defBody s_law) (defScope s_law) [] [] f fd) (B : Blt mg) {f__law_is_place f_fitting f_first_clash f__law_clash f__law_bent f__law_places f__law_mixed f__law_filling f__law_filled f__law_cell_at f__law_numbers f__law_tree f__law_names : Fm} (A__law_is_place : FnAt P w K mg base n "_law_is_place" ["found"] f__law_is_place) (A_fitting : FnAt P w K mg base n "fitting" ["form", "tree"] f_fitting) (A_first_clash : FnAt P w K mg base n "first_clash" ["form", "tree"] f_first_clash) (A__law_clash : FnAt P w K mg base n "_law_clash" ["form", "tree"] f__law_clash) (A__law_bent : FnAt P w K mg base n "_law_bent" ["tree", "place", "number", "names"] f__law_bent) (A__law_places : FnAt P w K mg base n "_law_places" ["tree"] f__law_places) (A__law_mixed : FnAt P w K mg base n "_law_mixed" ["cell"] f__law_mixed) (A__law_filling : FnAt P w K mg base n "_law_filling" ["tree", "number", "names"] f__law_filling) (A__law_filled : FnAt P w K mg base n "_law_filled" ["tree", "filling"] f__law_filled) (A__law_cell_at : FnAt P w K mg base n "_law_cell_at" ["script", "k"] f__law_cell_at) (A__law_numbers : FnAt P w K mg base n "_law_numbers" ["script", "start", "most"] f__law_numbers) (A__law_tree : FnAt P w K mg base n "_law_tree" ["numbers", "names"] f__law_tree) (A__law_names : FnAt P w K mg base n "_law_names" ["cell"] f__law_names) :
    FnOk P w K mg base (L2.CX P w) (n + 1) f fd ["script"] (spM K 1 (kPure.f (runM 1 12 (m_law_k25 f__law_is_place f_fitting f_first_clash f__law_clash f__law_bent f__law_places f__law_mixed f__law_filling f__law_filled f__law_cell_at f__law_numbers f__law_tree f__law_names)))) :=
  def_ok (N := ["script", "names", "form", "number", "tree", "k", "draw", "places", "due", "found", "filling", "place"]) kPure F sc_law_k25 fun cdv A outer s H E W hr tk =>
    sms_cons (sm_set (i := 1) sc_law_k25.nd rfl (by first | exact Or.inl rfl | exact Or.inr rfl) (em_call A__law_names rfl hr tk rfl (am_cons (em_bin o_fdiv (em_call A__law_cell_at rfl hr tk rfl (am_cons (em_v (pv 0)) (am_cons (em_int) (am_nil)))) (em_int)) (am_nil))))
    (sms_cons (sm_set (i := 2) sc_law_k25.nd rfl (by first | exact Or.inl rfl | exact Or.inr rfl) (em_call A__law_tree rfl hr tk rfl (am_cons (em_call A__law_numbers rfl hr tk rfl (am_cons (em_v (pv 0)) (am_cons (em_int) (am_cons (em_int) (am_nil))))) (am_cons (em_v (pv 1)) (am_nil)))))
    (sms_cons (sm_set (i := 3) sc_law_k25.nd rfl (by first | exact Or.inl rfl | exact Or.inr rfl) (em_call A__law_mixed rfl hr tk rfl (am_cons (em_bin o_add (em_call A__law_cell_at rfl hr tk rfl (am_cons (em_v (pv 0)) (am_cons (em_int) (am_nil)))) (em_int)) (am_nil))))
    (sms_cons (sm_set (i := 4) sc_law_k25.nd rfl (by first | exact Or.inl rfl | exact Or.inr rfl) (em_call A__law_filled rfl hr tk rfl (am_cons (em_v (pv 2)) (am_cons (em_call A__law_filling rfl hr tk rfl (am_cons (em_v (pv 2)) (am_cons (em_v (pv 3)) (am_cons (em_v (pv 1)) (am_nil))))) (am_nil)))))
    (sms_cons (sm_for (passes_of rfl) rfl (im_rng1 (by rfl) B.z_range (am_cons (em_bin o_mod (em_v (pv 3)) (em_int)) (am_nil))) (gm_name (i := 5) (pg_name (i := 5) sc_law_k25.nd rfl (by first | exact Or.inl rfl | exact Or.inr rfl))) (sms_cons (sm_set (i := 6) sc_law_k25.nd rfl (by first | exact Or.inl rfl | exact Or.inr rfl) (em_call A__law_mixed rfl hr tk rfl (am_cons (em_bin o_mulX (em_bin o_fdiv (em_v (pv 3)) (em_int)) (em_bin o_add (em_bin o_add (em_bin o_mulX (em_v (pv 5)) (em_v (pv 5))) (em_bin o_mulX (em_int) (em_v (pv 5)))) (em_int))) (am_nil))))
    (sms_cons (sm_set (i := 7) sc_law_k25.nd rfl (by first | exact Or.inl rfl | exact Or.inr rfl) (em_call A__law_places rfl hr tk rfl (am_cons (em_v (pv 4)) (am_nil))))
    (sms_one (sm_set (i := 4) sc_law_k25.nd rfl (by first | exact Or.inl rfl | exact Or.inr rfl) (em_call A__law_bent rfl hr tk rfl (am_cons (em_v (pv 4)) (am_cons (em_ix (o_ix (hu1 hr)) (em_ix (o_ix (hu1 hr)) (em_v (pv 7)) (em_bin o_mod (em_v (pv 6)) (em_callB c_len rfl B.z_len (by decide +kernel) (am_cons (em_v (pv 7)) (am_nil)))) (fun _ _ => rfl)) (em_int) (fun _ _ => rfl)) (am_cons (em_bin o_fdiv (em_v (pv 6)) (em_int)) (am_cons (em_v (pv 1)) (am_nil)))))))))))
    (sms_cons (sm_set (i := 8) sc_law_k25.nd rfl (by first | exact Or.inl rfl | exact Or.inr rfl) (em_call A__law_clash rfl hr tk rfl (am_cons (em_v (pv 2)) (am_cons (em_v (pv 4)) (am_nil)))))
    (sms_cons (sm_set (i := 9) sc_law_k25.nd rfl (by first | exact Or.inl rfl | exact Or.inr rfl) (em_call A_first_clash rfl hr tk rfl (am_cons (em_v (pv 2)) (am_cons (em_v (pv 4)) (am_nil)))))
    (sms_cons (sm_set (i := 10) sc_law_k25.nd rfl (by first | exact Or.inl rfl | exact Or.inr rfl) (em_call A_fitting rfl hr tk rfl (am_cons (em_v (pv 2)) (am_cons (em_v (pv 4)) (am_nil)))))
    (sms_cons (sm_if (tm_cmp o_is (em_v (pv 8)) (em_non) (nomark _)) (sms_one (sm_ret (em_and (em_cmp o_is (em_v (pv 9)) (em_non) (nomark _)) (em_one (em_isi (T := "dict") rfl (by decide) rfl B.z_isinstance rfl B.z_dict (by decide +kernel) (em_v (pv 10))))))) (sms_nil))
    (sms_cons (sm_if (PW.pt (tm_or (tm_not (tm_tru (em_isi (T := "tuple") rfl (by decide) rfl B.z_isinstance rfl B.z_tuple (by decide +kernel) (em_v (pv 9))) rfl)) (tm_or (tm_cmp o_lt (em_callB c_len rfl B.z_len (by decide +kernel) (am_cons (em_v (pv 9)) (am_nil))) (em_int) (nomark _)) (tm_or1 (tm_not (tm_tru (em_isi (T := "str") rfl (by decide) rfl B.z_isinstance rfl B.z_str (by decide +kernel) (em_ix (o_ix (hu1 hr)) (em_v (pv 9)) (em_int) (fun _ _ => rfl))) rfl)))))) (sms_one (sm_ret (em_bl))) (sms_nil))
    (sms_one (sm_ret (em_and (em_cmp o_is (em_v (pv 10)) (em_non) (nomark _)) (em_and (em_cmp (o_eq (hu195 hr)) (em_v (pv 9)) (em_v (pv 8)) (nomark _)) (em_one (em_callB (c_all rfl) rfl B.z_all (by decide +kernel) (am_cons (em_lc (own := [("place", 11)]) rfl sc_law_k25.nd (im_val rfl (em_slice rfl (em_v (pv 9)) (pm_some (em_int)) (pm_no))) (blkOk_by (own := [("place", 11)]) (N := ["script", "names", "form", "number", "tree", "k", "draw", "places", "due", "found", "filling", "place"]) (sc := defScope s_law) (by decide +kernel)) (ct_name _ 11) (fun _ _ _ _ _ => pg_name (i := 11) sc_law_k25.nd rfl (Or.inl rfl)) (fun _ _ _ _ _ => tms_nil) (fun _ _ _ _ _ => em_call A__law_is_place rfl hr takes0 rfl (am_cons (em_v (pv 11)) (am_nil)))) (am_nil)))))))))))))))))
end
section
variable {P : Program} {w : World} {K : PySem.W.Frag} {mg : Str → Option Value} {h : Heap} (X : K.In h) (G : h.Ns mainGlobals mg) (c : SaysX fa fn K)
include X G c
theorem blt : Blt mg := ⟨He.free_ok X G (c.fact 22 (f := .free "len") rfl), He.free_ok X G (c.fact 23 (f := .free "range") rfl), He.free_ok X G (c.fact 24 (f := .free "int") rfl), He.free_ok X G (c.fact 25 (f := .free "str") rfl), He.free_ok X G (c.fact 26 (f := .free "sum") rfl), He.free_ok X G (c.fact 27 (f := .free "max") rfl), He.free_ok X G (c.fact 28 (f := .free "min") rfl), He.free_ok X G (c.fact 29 (f := .free "enumerate") rfl), He.free_ok X G (c.fact 30 (f := .free "isinstance") rfl), He.free_ok X G (c.fact 31 (f := .free "tuple") rfl), He.free_ok X G (c.fact 32 (f := .free "list") rfl), He.free_ok X G (c.fact 33 (f := .free "dict") rfl), He.free_ok X G (c.fact 34 (f := .free "sorted") rfl), He.free_ok X G (c.fact 35 (f := .free "abs") rfl), He.free_ok X G (c.fact 36 (f := .free "all") rfl), He.free_ok X G (c.fact 37 (f := .free "set") rfl), He.free_ok X G (c.fact 38 (f := .free "bool") rfl)⟩
theorem at_same_blocks (base : Heap) : ∀ n, FnAt P w K mg base n "same_blocks" ["form", "tree"] (F_same_blocks n) := by
  obtain ⟨fd, F⟩ := c.def_ 0 (d := d_same_blocks) rfl
  have b : Binds K fd ["form", "tree"] [] := F.bindsN fun _ _ _ _ _ _ us hl => match us, hl with | [_, _], _ => rfl
  have g := He.glo_ok X G (c.fact 0 (f := .glo "same_blocks") rfl)
  intro n
  induction n with
  | zero => exact fnAt_zero F g b
  | succ n ih => exact fnAt_by kPure rfl F g b (ok_same_blocks F (blt X G c))
theorem at_fit_under (base : Heap) : ∀ n, FnAt P w K mg base n "fit_under" ["form", "tree", "filling"] (F_fit_under n) := by
  obtain ⟨fd, F⟩ := c.def_ 1 (d := d_fit_under) rfl
  have b : Binds K fd ["form", "tree", "filling"] [] := F.bindsN fun _ _ _ _ _ _ us hl => match us, hl with | [_, _, _], _ => rfl
  have g := He.glo_ok X G (c.fact 1 (f := .glo "fit_under") rfl)
  intro n
  induction n with
  | zero => exact fnAt_zero F g b
  | succ n ih => exact fnAt_by kEff rfl F g b (ok_fit_under F (blt X G c) ih (at_same_blocks X G c base n))
theorem at_fitting (base : Heap) : ∀ n, FnAt P w K mg base n "fitting" ["form", "tree"] (F_fitting n) := by
  obtain ⟨fd, F⟩ := c.def_ 2 (d := d_fitting) rfl
  have b : Binds K fd ["form", "tree"] [] := F.bindsN fun _ _ _ _ _ _ us hl => match us, hl with | [_, _], _ => rfl
  have g := He.glo_ok X G (c.fact 2 (f := .glo "fitting") rfl)
  intro n
  induction n with
  | zero => exact fnAt_zero F g b
  | succ n ih => exact fnAt_by kRaw rfl F g b (ok_fitting F (blt X G c) (at_fit_under X G c base n))
theorem at_clash_under (base : Heap) : ∀ n, FnAt P w K mg base n "clash_under" ["form", "tree", "place", "firsts"] (F_clash_under n) := by
  obtain ⟨fd, F⟩ := c.def_ 3 (d := d_clash_under) rfl
  have b : Binds K fd ["form", "tree", "place", "firsts"] [] := F.bindsN fun _ _ _ _ _ _ us hl => match us, hl with | [_, _, _, _], _ => rfl
  have g := He.glo_ok X G (c.fact 3 (f := .glo "clash_under") rfl)
  intro n
  induction n with
  | zero => exact fnAt_zero F g b
  | succ n ih => exact fnAt_by kEff rfl F g b (ok_clash_under F (blt X G c) ih (at_same_blocks X G c base n))
theorem at_first_clash (base : Heap) : ∀ n, FnAt P w K mg base n "first_clash" ["form", "tree"] (F_first_clash n) := by
  obtain ⟨fd, F⟩ := c.def_ 4 (d := d_first_clash) rfl
  have b : Binds K fd ["form", "tree"] [] := F.bindsN fun _ _ _ _ _ _ us hl => match us, hl with | [_, _], _ => rfl
  have g := He.glo_ok X G (c.fact 4 (f := .glo "first_clash") rfl)
  intro n
  induction n with
  | zero => exact fnAt_zero F g b
  | succ n ih => exact fnAt_by kPure rfl F g b (ok_first_clash F (blt X G c) (at_clash_under X G c base n))
theorem at__law_cell_at (base : Heap) : ∀ n, FnAt P w K mg base n "_law_cell_at" ["script", "k"] (F__law_cell_at n) := by
  obtain ⟨fd, F⟩ := c.def_ 5 (d := d__law_cell_at) rfl
  have b : Binds K fd ["script", "k"] [] := F.bindsN fun _ _ _ _ _ _ us hl => match us, hl with | [_, _], _ => rfl
  have g := He.glo_ok X G (c.fact 5 (f := .glo "_law_cell_at") rfl)
  intro n
  induction n with
  | zero => exact fnAt_zero F g b
  | succ n ih => exact fnAt_by kPure rfl F g b (ok__law_cell_at F (blt X G c))
theorem at__law_mixed (base : Heap) : ∀ n, FnAt P w K mg base n "_law_mixed" ["cell"] (F__law_mixed n) := by
  obtain ⟨fd, F⟩ := c.def_ 6 (d := d__law_mixed) rfl
  have b : Binds K fd ["cell"] [] := F.bindsN fun _ _ _ _ _ _ us hl => match us, hl with | [_], _ => rfl
  have g := He.glo_ok X G (c.fact 6 (f := .glo "_law_mixed") rfl)
  intro n
  induction n with
  | zero => exact fnAt_zero F g b
  | succ n ih => exact fnAt_by kPure rfl F g b (ok__law_mixed F (blt X G c))
theorem at__law_numbers (base : Heap) : ∀ n, FnAt P w K mg base n "_law_numbers" ["script", "start", "most"] (F__law_numbers n) := by
  obtain ⟨fd, F⟩ := c.def_ 7 (d := d__law_numbers) rfl
  have b : Binds K fd ["script", "start", "most"] [] := F.bindsN fun _ _ _ _ _ _ us hl => match us, hl with | [_, _, _], _ => rfl
  have g := He.glo_ok X G (c.fact 7 (f := .glo "_law_numbers") rfl)
  intro n
  induction n with
  | zero => exact fnAt_zero F g b
  | succ n ih => exact fnAt_by kNew rfl F g b (ok__law_numbers F (blt X G c) (at__law_mixed X G c base n) (at__law_cell_at X G c base n))
theorem at__law_names_v2 (base : Heap) : ∀ n, FnAt P w K mg base n "_law_names" ["cell"] (F__law_names_v2 n) := by
  obtain ⟨fd, F⟩ := c.def_ 8 (d := d__law_names) rfl
  have b : Binds K fd ["cell"] [] := F.bindsN fun _ _ _ _ _ _ us hl => match us, hl with | [_], _ => rfl
  have g := He.glo_ok X G (c.fact 8 (f := .glo "_law_names") rfl)
  intro n
  induction n with
  | zero => exact fnAt_zero F g b
  | succ n ih => exact fnAt_by kNew rfl F g b (ok__law_names_v2 F (blt X G c) (at__law_mixed X G c base n))
theorem at__law_blank (base : Heap) : ∀ n, FnAt P w K mg base n "_law_blank" ["number"] (F__law_blank n) := by
  obtain ⟨fd, F⟩ := c.def_ 9 (d := d__law_blank) rfl
  have b : Binds K fd ["number"] [] := F.bindsN fun _ _ _ _ _ _ us hl => match us, hl with | [_], _ => rfl
  have g := He.glo_ok X G (c.fact 9 (f := .glo "_law_blank") rfl)
  intro n
  induction n with
  | zero => exact fnAt_zero F g b
  | succ n ih => exact fnAt_by kPure rfl F g b (ok__law_blank F (blt X G c))
theorem at__law_build (base : Heap) : ∀ n, FnAt P w K mg base n "_law_build" ["numbers", "at", "deep", "names"] (F__law_build n) := by
  obtain ⟨fd, F⟩ := c.def_ 10 (d := d__law_build) rfl
  have b : Binds K fd ["numbers", "at", "deep", "names"] [] := F.bindsN fun _ _ _ _ _ _ us hl => match us, hl with | [_, _, _, _], _ => rfl
  have g := He.glo_ok X G (c.fact 10 (f := .glo "_law_build") rfl)
  intro n
  induction n with
  | zero => exact fnAt_zero F g b
  | succ n ih => exact fnAt_by kPure rfl F g b (ok__law_build F (blt X G c) ih (at__law_blank X G c base n))
theorem at__law_tree_v2 (base : Heap) : ∀ n, FnAt P w K mg base n "_law_tree" ["numbers", "names"] (F__law_tree_v2 n) := by
  obtain ⟨fd, F⟩ := c.def_ 11 (d := d__law_tree) rfl
  have b : Binds K fd ["numbers", "names"] [] := F.bindsN fun _ _ _ _ _ _ us hl => match us, hl with | [_, _], _ => rfl
  have g := He.glo_ok X G (c.fact 11 (f := .glo "_law_tree") rfl)
  intro n
  induction n with
  | zero => exact fnAt_zero F g b
  | succ n ih => exact fnAt_by kPure rfl F g b (ok__law_tree_v2 F (blt X G c) (at__law_build X G c base n))
theorem at__law_small_v2 (base : Heap) : ∀ n, FnAt P w K mg base n "_law_small" ["number", "names"] (F__law_small_v2 n) := by
  obtain ⟨fd, F⟩ := c.def_ 12 (d := d__law_small) rfl
  have b : Binds K fd ["number", "names"] [] := F.bindsN fun _ _ _ _ _ _ us hl => match us, hl with | [_, _], _ => rfl
  have g := He.glo_ok X G (c.fact 12 (f := .glo "_law_small") rfl)
  intro n
  induction n with
  | zero => exact fnAt_zero F g b
  | succ n ih => exact fnAt_by kPure rfl F g b (ok__law_small_v2 F (blt X G c) (at__law_blank X G c base n))
theorem at__law_filled (base : Heap) : ∀ n, FnAt P w K mg base n "_law_filled" ["tree", "filling"] (F__law_filled n) := by
  obtain ⟨fd, F⟩ := c.def_ 13 (d := d__law_filled) rfl
  have b : Binds K fd ["tree", "filling"] [] := F.bindsN fun _ _ _ _ _ _ us hl => match us, hl with | [_, _], _ => rfl
  have g := He.glo_ok X G (c.fact 13 (f := .glo "_law_filled") rfl)
  intro n
  induction n with
  | zero => exact fnAt_zero F g b
  | succ n ih => exact fnAt_by kPure rfl F g b (ok__law_filled F (blt X G c) ih)
theorem at__law_blanks (base : Heap) : ∀ n, FnAt P w K mg base n "_law_blanks" ["tree"] (F__law_blanks n) := by
  obtain ⟨fd, F⟩ := c.def_ 14 (d := d__law_blanks) rfl
  have b : Binds K fd ["tree"] [] := F.bindsN fun _ _ _ _ _ _ us hl => match us, hl with | [_], _ => rfl
  have g := He.glo_ok X G (c.fact 14 (f := .glo "_law_blanks") rfl)
  intro n
  induction n with
  | zero => exact fnAt_zero F g b
  | succ n ih => exact fnAt_by kNew rfl F g b (ok__law_blanks F (blt X G c) ih)
theorem at__law_filling_v2 (base : Heap) : ∀ n, FnAt P w K mg base n "_law_filling" ["tree", "number", "names"] (F__law_filling_v2 n) := by
  obtain ⟨fd, F⟩ := c.def_ 15 (d := d__law_filling) rfl
  have b : Binds K fd ["tree", "number", "names"] [] := F.bindsN fun _ _ _ _ _ _ us hl => match us, hl with | [_, _, _], _ => rfl
  have g := He.glo_ok X G (c.fact 15 (f := .glo "_law_filling") rfl)
  intro n
  induction n with
  | zero => exact fnAt_zero F g b
  | succ n ih => exact fnAt_by kNew rfl F g b (ok__law_filling_v2 F (blt X G c) (at__law_blanks X G c base n) (at__law_mixed X G c base n) (at__law_small_v2 X G c base n))
theorem at__law_places_v2 (base : Heap) : ∀ n, FnAt P w K mg base n "_law_places" ["tree"] (F__law_places_v2 n) := by
  obtain ⟨fd, F⟩ := c.def_ 16 (d := d__law_places) rfl
  have b : Binds K fd ["tree"] [] := F.bindsN fun _ _ _ _ _ _ us hl => match us, hl with | [_], _ => rfl
  have g := He.glo_ok X G (c.fact 16 (f := .glo "_law_places") rfl)
  intro n
  induction n with
  | zero => exact fnAt_zero F g b
  | succ n ih => exact fnAt_by kNew rfl F g b (ok__law_places_v2 F (blt X G c) ih)
theorem at__law_part (base : Heap) : ∀ n, FnAt P w K mg base n "_law_part" ["tree", "place"] (F__law_part n) := by
  obtain ⟨fd, F⟩ := c.def_ 17 (d := d__law_part) rfl
  have b : Binds K fd ["tree", "place"] [] := F.bindsN fun _ _ _ _ _ _ us hl => match us, hl with | [_, _], _ => rfl
  have g := He.glo_ok X G (c.fact 17 (f := .glo "_law_part") rfl)
  intro n
  induction n with
  | zero => exact fnAt_zero F g b
  | succ n ih => exact fnAt_by kPure rfl F g b (ok__law_part F (blt X G c))
theorem at__law_clash (base : Heap) : ∀ n, FnAt P w K mg base n "_law_clash" ["form", "tree"] (F__law_clash n) := by
  obtain ⟨fd, F⟩ := c.def_ 18 (d := d__law_clash) rfl
  have b : Binds K fd ["form", "tree"] [] := F.bindsN fun _ _ _ _ _ _ us hl => match us, hl with | [_, _], _ => rfl
  have g := He.glo_ok X G (c.fact 18 (f := .glo "_law_clash") rfl)
  intro n
  induction n with
  | zero => exact fnAt_zero F g b
  | succ n ih => exact fnAt_by kPure rfl F g b (ok__law_clash F (blt X G c) (at__law_places_v2 X G c base n) (at__law_part X G c base n))
theorem at__law_bent_v2 (base : Heap) : ∀ n, FnAt P w K mg base n "_law_bent" ["tree", "place", "number", "names"] (F__law_bent_v2 n) := by
  obtain ⟨fd, F⟩ := c.def_ 19 (d := d__law_bent) rfl
  have b : Binds K fd ["tree", "place", "number", "names"] [] := F.bindsN fun _ _ _ _ _ _ us hl => match us, hl with | [_, _, _, _], _ => rfl
  have g := He.glo_ok X G (c.fact 19 (f := .glo "_law_bent") rfl)
  intro n
  induction n with
  | zero => exact fnAt_zero F g b
  | succ n ih => exact fnAt_by kPure rfl F g b (ok__law_bent_v2 F (blt X G c) (at__law_small_v2 X G c base n) ih)
theorem at__law_is_place (base : Heap) : ∀ n, FnAt P w K mg base n "_law_is_place" ["found"] (F__law_is_place n) := by
  obtain ⟨fd, F⟩ := c.def_ 20 (d := d__law_is_place) rfl
  have b : Binds K fd ["found"] [] := F.bindsN fun _ _ _ _ _ _ us hl => match us, hl with | [_], _ => rfl
  have g := He.glo_ok X G (c.fact 20 (f := .glo "_law_is_place") rfl)
  intro n
  induction n with
  | zero => exact fnAt_zero F g b
  | succ n ih => exact fnAt_by kPure rfl F g b (ok__law_is_place F (blt X G c))
end
end Wk
open PySem PySem.W PySem.Calls PyProof.Rows
theorem head_holds (hc : PySem.W.WalkO (view (OpenLaw.row PySem.Challenge.rw_commonform_k25_first_clashes).prog [23]) Hd.ls (XL (view (OpenLaw.row PySem.Challenge.rw_commonform_k25_first_clashes).prog [23]) []) Hd.hk.says (OpenLaw.row PySem.Challenge.rw_commonform_k25_first_clashes).toRowW (HandSHeadRun.topDef (OpenLaw.row PySem.Challenge.rw_commonform_k25_first_clashes).prog 23) [] fun f vs => PySem.call f vs) : PySem.Challenge.rw_commonform_k25_first_clashes.Holds := by
  w_on; o_law
  refine HandSHeadRun.head_any (r := OpenLaw.row PySem.Challenge.rw_commonform_k25_first_clashes) (q := view (OpenLaw.row PySem.Challenge.rw_commonform_k25_first_clashes).prog [23]) (H := Hd.hk) (ob := Hd.ob) (M := 5920) (loose := Hd.ls) (d := HandSHeadRun.topDef (OpenLaw.row PySem.Challenge.rw_commonform_k25_first_clashes).prog 23) (kwd := []) Hd.ob_eq
    (by kernel_rfl) (fun s => by kernel_rfl) Hd.run (by kernel_rfl) (by kernel_rfl) (by kernel_rfl) (by rfl) (by first | assumption | decide +kernel) (by decide +kernel) ⟨rfl, rfl, rfl, rfl, rfl, by decide +kernel⟩ ?hw hc
  case hw => w_witness2
theorem law_done (hφ : ∀ ns : List Int, ns.length ≤ 63 → ∃ h, DV.F_law_k25 230 [.ro ns] [] = .ok (.bl true) h) : PySem.Challenge.rw_commonform_k25_first_clashes.Holds := by
  refine head_holds (DV.law_end (k := 230) rfl (by kernel_rfl) ⟨rfl, by decide, by decide⟩ hφ ?_)
  intro w mg fa h Y G hm
  obtain ⟨K, KX, c⟩ := Y
  obtain ⟨fd, F⟩ := c.def_ 21 (d := Hd.d_law) rfl
  have e1 : mg "law" = some (.ref fa) := by
    have e : (HandSHeadRun.topDef (OpenLaw.row PySem.Challenge.rw_commonform_k25_first_clashes).prog 23).name = ("law" : PySem.Str) := by kernel_rfl
    rw [← e]; exact hm
  have e2 := e1.symm.trans (He.glo_ok KX G (c.fact 21 (f := .glo "law") rfl))
  cases e2
  have b := L2.FunD.bindsA (ps := ["script"]) F fun _ _ _ _ _ _ us hl => match us, hl with | [_], _ => rfl
  refine ⟨K, fd, KX, fun s u => b s [u] rfl, fun base _ _ => ?_⟩
  exact Wk.ok_law_k25 (n := 229) F (Wk.blt KX G c) (Wk.at__law_is_place KX G c base 229) (Wk.at_fitting KX G c base 229) (Wk.at_first_clash KX G c base 229) (Wk.at__law_clash KX G c base 229) (Wk.at__law_bent_v2 KX G c base 229) (Wk.at__law_places_v2 KX G c base 229) (Wk.at__law_mixed KX G c base 229) (Wk.at__law_filling_v2 KX G c base 229) (Wk.at__law_filled KX G c base 229) (Wk.at__law_cell_at KX G c base 229) (Wk.at__law_numbers KX G c base 229) (Wk.at__law_tree_v2 KX G c base 229) (Wk.at__law_names_v2 KX G c base 229)
theorem PySem.Challenge.cw_commonform_k25_first_clashes_holds : PySem.Challenge.rw_commonform_k25_first_clashes.Holds := by
  exact law_done DV.law_k25_ok
