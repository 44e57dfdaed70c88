import PyProof.Rows.All
import Wide.All
import OpenK.AllK
import Wide.FinOn
import KE.KStateDown
import HandS.ForMost
import HandS.Exc
import HandS.TryOnly
import HandS.TryMany
import HandS.ExcOwn
import HandS.WordsExc
import HandS.Defaults
import HandS.Head0
import HandS.Head1
import HandS.Head2
import HandS.HeadEnd
import HandS.HeadHook1
import HandS.HeadHook2
import HandS.CallSlots
import HandS.TupAny
import HandS.IsInst
import KE.DataMinMax
import KE.GoesEnum
import KE.KDictLaws
import HandS.Finally
import HandS.More
import HandS.Iter
import HandS.WordsDict
import HandS.DictComp
import HandS.TupMul
import HandS.Text
import HandS.StrMore
import HandS.SortInts
import HandS.Style
import KE.KExcIs
import HandS.Flt
import KE.KEqDict
import PyProof.Rows.SetFrom
import HandS.Strs
import HandS.SetFor
import HandS.DeepEq
import HandS.ListEq
import PyProof.NeKinds
import KE.KIntText
import PySem.Challenge.RW_commonform_k37_papers_walked
set_option Elab.async false
set_option linter.all false
set_option maxRecDepth 100000
set_option maxHeartbeats 0
namespace DV
open PySem PySem.Spec PyProof.Rows L2
abbrev St := L2.St
inductive D where
  | non | bl (b : Bool) | int (i : Int) | str (s : Str) | tup (ds : List D) | loc (l : Nat) | ro (ns : List Int) | exn (c : Str)
inductive AO where
  | lst (ds : List D) | dct (kvs : List (Key × D)) | fdc (kvs : List (Key × D)) | dcT (kvs : List (List Key × D)) | ins (C : Str) (fs : List (Str × D))
abbrev Hs := List AO
abbrev Sl := List (Option D)
inductive R (α : Type) where
  | ok (a : α) (h : Hs) | exc (c : Str) (h : Hs) | bad
def R.bind {α β : Type} (r : R α) (k : α → Hs → R β) : R β := match r with
  | .ok a h => k a h
  | .exc c h => .exc c h
  | .bad => .bad
inductive RS where
  | nx (ds : Sl) (h : Hs) | rt (d : D) (h : Hs) | bk (ds : Sl) (h : Hs) | ct (ds : Sl) (h : Hs) | exc (c : Str) (ds : Sl) (h : Hs) | bad
def lift {α : Type} (r : R α) (ds : Sl) (k : α → Hs → RS) : RS := match r with
  | .ok a h => k a h
  | .exc c h => .exc c ds h
  | .bad => .bad
abbrev EM := Sl → Hs → R D
abbrev AM := Sl → Hs → R (List D)
abbrev TM := Sl → Hs → R Bool
abbrev SM := Sl → Hs → RS
@[simp] theorem R.bind_ok {α β : Type} (a : α) (h : Hs) (k : α → Hs → R β) : (R.ok a h).bind k = k a h := rfl
@[simp] theorem R.bind_exc {α β : Type} (c : Str) (h : Hs) (k : α → Hs → R β) : (R.exc c h).bind k = .exc c h := rfl
@[simp] theorem R.bind_bad {α β : Type} (k : α → Hs → R β) : (R.bad).bind k = .bad := rfl
@[simp] theorem lift_ok {α : Type} (a : α) (h : Hs) (ds : Sl) (k : α → Hs → RS) : lift (R.ok a h) ds k = k a h := rfl
@[simp] theorem lift_exc {α : Type} (c : Str) (h : Hs) (ds : Sl) (k : α → Hs → RS) : lift (R.exc c h) ds k = .exc c ds h := rfl
@[simp] theorem lift_bad {α : Type} (ds : Sl) (k : α → Hs → RS) : lift (R.bad) ds k = .bad := rfl
/-- the script: known, or written -/
def SqR (K : PySem.W.Frag) (H : Hp) (a : Addr) (xs : List V) : Prop :=
  (∃ o, H a = some (.frz o (.lst xs))) ∨ ∃ (o : Obj) (its : Array Value) (n : Nat), K.lookup a = some o ∧ o.cls = .type "list" ∧ o.dict = none ∧ o.data = .seq its n ∧ its.size ≤ sizeLine ∧ Vals xs its.toList
theorem SqR.sq {K : PySem.W.Frag} {H : Hp} {a : Addr} {xs : List V} (h : SqR K H a xs) : SqL K H a xs := by
  rcases h with h | h
  · exact .inl (.inr h)
  · exact .inr h
/-- a caught exception's object -/
def exO (K : PySem.W.Frag) (c : Str) (a : Addr) : HO := .ext fun h => ∃ (oe : Obj) (vs : Array Value), h.get? a = some oe ∧ oe.cls = .ref (He.ga K c) ∧ oe.dict = none ∧ oe.data = .fields vs
variable (K : PySem.W.Frag)
mutual
def RepV (m : List Addr) (H : Hp) : D → V → Prop
  | .non, v => v = .non
  | .bl b, v => v = .bl b
  | .int i, v => v = .int i
  | .str s, v => v = .str s
  | .tup ds, v => ∃ a xs, v = .ref a ∧ H a = some (.tup xs) ∧ RepL m H ds xs
  | .loc l, v => ∃ a, m[l]? = some a ∧ v = .ref a
  | .ro ns, v => ∃ a, v = .ref a ∧ SqR K H a (ns.map V.int)
  | .exn c, v => ∃ a, v = .ref a ∧ H a = some (exO K c a)
def RepL (m : List Addr) (H : Hp) : List D → List V → Prop
  | [], xs => xs = []
  | d :: ds, xs => ∃ x r, xs = x :: r ∧ RepV m H d x ∧ RepL m H ds r
end
variable {K}
/-- what a value leans on goes on -/
structure Grw (m : List Addr) (H : Hp) (m' : List Addr) (H' : Hp) : Prop where
  pre : ∃ r, m' = m ++ r
  tup : ∀ a xs, H a = some (.tup xs) → H' a = some (.tup xs)
  frz : ∀ a o xs, H a = some (.frz o (.lst xs)) → H' a = some (.frz o (.lst xs))
  ext : ∀ a φ, H a = some (.ext φ) → H' a = some (.ext φ)
/-- what goes on: the numbers keep their addresses, the tuples stay, what is locked stays so -/
structure Grow (m : List Addr) (H : Hp) (m' : List Addr) (H' : Hp) : Prop where
  pre : ∃ r, m' = m ++ r
  tup : ∀ a xs, H a = some (.tup xs) → H' a = some (.tup xs)
  frz : ∀ a o u, H a = some (.frz o u) → H' a = some (.frz o u)
  ext : ∀ a φ, H a = some (.ext φ) → H' a = some (.ext φ)
theorem Grow.w {m m' : List Addr} {H H' : Hp} (g : Grow m H m' H') : Grw m H m' H' := ⟨g.pre, g.tup, fun a o _ h => g.frz a o _ h, g.ext⟩
theorem Grow.refl (m : List Addr) (H : Hp) : Grow m H m H := ⟨⟨[], by simp⟩, fun _ _ h => h, fun _ _ _ h => h, fun _ _ h => h⟩
theorem Grow.trans {m m1 m2 : List Addr} {H H1 H2 : Hp} (a : Grow m H m1 H1) (b : Grow m1 H1 m2 H2) : Grow m H m2 H2 := by
  obtain ⟨⟨r, rfl⟩, t, f, x⟩ := a
  obtain ⟨⟨r', rfl⟩, t', f', x'⟩ := b
  exact ⟨⟨r ++ r', by simp⟩, fun x xs h => t' x xs (t x xs h), fun x o xs h => f' x o xs (f x o xs h), fun y φ h => x' y φ (x y φ h)⟩
mutual
theorem RepV.mono0 {m m' : List Addr} {H H' : Hp} (g : Grw m H m' H') : ∀ {d : D} {v : V}, RepV K m H d v → RepV K m' H' d v
  | .non, _, h => h
  | .bl _, _, h => h
  | .int _, _, h => h
  | .str _, _, h => h
  | .tup ds, v, h => by
    unfold RepV at h ⊢
    obtain ⟨a, xs, e, ha, hl⟩ := h
    exact ⟨a, xs, e, g.tup _ _ ha, RepL.mono0 g hl⟩
  | .loc l, v, h => by
    unfold RepV at h ⊢
    obtain ⟨a, ha, e⟩ := h
    obtain ⟨⟨r, rfl⟩, _, _, _⟩ := g
    obtain ⟨hl, _⟩ := List.getElem?_eq_some_iff.mp ha
    exact ⟨a, by rw [List.getElem?_append_left hl]; exact ha, e⟩
  | .exn c, v, h => by
    unfold RepV at h ⊢
    obtain ⟨a, e, q⟩ := h
    exact ⟨a, e, g.ext _ _ q⟩
  | .ro ns, v, h => by
    unfold RepV at h ⊢
    obtain ⟨a, e, q⟩ := h
    refine ⟨a, e, ?_⟩
    rcases q with ⟨o, q⟩ | q
    · exact .inl ⟨o, g.frz _ _ _ q⟩
    · exact .inr q
theorem RepL.mono0 {m m' : List Addr} {H H' : Hp} (g : Grw m H m' H') : ∀ {ds : List D} {xs : List V}, RepL K m H ds xs → RepL K m' H' ds xs
  | [], _, h => h
  | d :: ds, xs, h => by
    unfold RepL at h ⊢
    obtain ⟨x, r, e, h1, h2⟩ := h
    exact ⟨x, r, e, RepV.mono0 g h1, RepL.mono0 g h2⟩
end
theorem RepV.mono {m m' : List Addr} {H H' : Hp} (g : Grow m H m' H') {d : D} {v : V} (h : RepV K m H d v) : RepV K m' H' d v := h.mono0 g.w
theorem RepL.mono {m m' : List Addr} {H H' : Hp} (g : Grow m H m' H') {ds : List D} {xs : List V} (h : RepL K m H ds xs) : RepL K m' H' ds xs := h.mono0 g.w
section
variable {m : List Addr} {H : Hp}
theorem RepL.nil : RepL K m H [] [] := by unfold RepL; rfl
theorem RepL.cons {d : D} {x : V} {ds : List D} {xs : List V} (h : RepV K m H d x) (t : RepL K m H ds xs) : RepL K m H (d :: ds) (x :: xs) := by unfold RepL; exact ⟨x, xs, rfl, h, t⟩
theorem RepL.length : ∀ {ds : List D} {xs : List V}, RepL K m H ds xs → xs.length = ds.length
  | [], xs, h => by unfold RepL at h; subst h; rfl
  | d :: ds, xs, h => by
    unfold RepL at h
    obtain ⟨x, r, rfl, _, h2⟩ := h
    simp [RepL.length h2]
theorem RepL.get : ∀ {ds : List D} {xs : List V} {i : Nat} {d : D}, RepL K m H ds xs → ds[i]? = some d → ∃ x, xs[i]? = some x ∧ RepV K m H d x
  | [], _, _, _, _, e => by simp at e
  | d :: ds, xs, i, d', h, e => by
    unfold RepL at h
    obtain ⟨x, r, rfl, h1, h2⟩ := h
    cases i with
    | zero => simp at e; subst e; exact ⟨x, rfl, h1⟩
    | succ i =>
      obtain ⟨y, hy, hr⟩ := RepL.get (i := i) h2 (by simpa using e)
      exact ⟨y, by simpa using hy, hr⟩
theorem RepL.append : ∀ {ds es : List D} {xs ys : List V}, RepL K m H ds xs → RepL K m H es ys → RepL K m H (ds ++ es) (xs ++ ys)
  | [], _, xs, _, h, t => by unfold RepL at h; subst h; exact t
  | d :: ds, es, xs, ys, h, t => by
    unfold RepL at h
    obtain ⟨x, r, rfl, h1, h2⟩ := h
    exact .cons h1 (RepL.append h2 t)
theorem RepL.set : ∀ {ds : List D} {xs : List V} (i : Nat) {d : D} {x : V}, RepL K m H ds xs → RepV K m H d x → RepL K m H (ds.set i d) (xs.set i x)
  | [], xs, i, _, _, h, _ => by unfold RepL at h; subst h; exact RepL.nil
  | d :: ds, xs, i, e, y, h, t => by
    unfold RepL at h
    obtain ⟨x, r, rfl, h1, h2⟩ := h
    cases i with
    | zero => exact .cons t h2
    | succ i => exact .cons h1 (RepL.set i h2 t)
theorem RepL.take : ∀ {ds : List D} {xs : List V} (n : Nat), RepL K m H ds xs → RepL K m H (ds.take n) (xs.take n)
  | [], xs, n, h => by unfold RepL at h; subst h; cases n <;> exact RepL.nil
  | d :: ds, xs, n, h => by
    unfold RepL at h
    obtain ⟨x, r, rfl, h1, h2⟩ := h
    cases n with
    | zero => exact RepL.nil
    | succ n => exact .cons h1 (RepL.take n h2)
theorem RepL.drop : ∀ {ds : List D} {xs : List V} (n : Nat), RepL K m H ds xs → RepL K m H (ds.drop n) (xs.drop n)
  | [], xs, n, h => by unfold RepL at h; subst h; cases n <;> exact RepL.nil
  | d :: ds, xs, n, h => by
    have h' := h
    unfold RepL at h
    obtain ⟨x, r, rfl, h1, h2⟩ := h
    cases n with
    | zero => exact h'
    | succ n => exact RepL.drop n h2
theorem RepL.nil_iff {ds : List D} {xs : List V} (h : RepL K m H ds xs) : xs = [] ↔ ds = [] := by
  rw [← List.length_eq_zero_iff, ← List.length_eq_zero_iff, h.length]
end
variable (K)
/-- the slots -/
def RepS (m : List Addr) (H : Hp) : Sl → St → Prop
  | [], [] => True
  | od :: ds, ov :: vs => (∀ d, od = some d → ∃ v, ov = some v ∧ RepV K m H d v) ∧ RepS m H ds vs
  | _, _ => False
variable {K}
theorem RepS.mono0 {m m' : List Addr} {H H' : Hp} (g : Grw m H m' H') : ∀ {ds : Sl} {σ : St}, RepS K m H ds σ → RepS K m' H' ds σ
  | [], [], _ => trivial
  | _ :: _, _ :: _, ⟨a, b⟩ => ⟨fun d e => let ⟨v, e1, r⟩ := a d e; ⟨v, e1, r.mono0 g⟩, RepS.mono0 g b⟩
  | [], _ :: _, h => h.elim
  | _ :: _, [], h => h.elim
theorem RepS.mono {m m' : List Addr} {H H' : Hp} (g : Grow m H m' H') {ds : Sl} {σ : St} (h : RepS K m H ds σ) : RepS K m' H' ds σ := h.mono0 g.w
theorem RepS.get {m : List Addr} {H : Hp} : ∀ {ds : Sl} {σ : St} {i : Nat} {d : D}, RepS K m H ds σ → ds[i]? = some (some d) → ∃ v, σ[i]? = some (some v) ∧ RepV K m H d v
  | [], _, _, _, _, e => by simp at e
  | _ :: _, [], _, _, h, _ => h.elim
  | od :: ds, ov :: vs, 0, d, ⟨a, _⟩, e => by
    simp at e
    obtain ⟨v, e1, r⟩ := a d e
    exact ⟨v, by simp [e1], r⟩
  | od :: ds, ov :: vs, i + 1, d, ⟨_, b⟩, e => by
    obtain ⟨v, e1, r⟩ := RepS.get (i := i) b (by simpa using e)
    exact ⟨v, by simpa using e1, r⟩
theorem RepS.set {m : List Addr} {H : Hp} {od : Option D} {ov : Option V} (h : ∀ d, od = some d → ∃ v, ov = some v ∧ RepV K m H d v) : ∀ {ds : Sl} {σ : St} (i : Nat), RepS K m H ds σ → RepS K m H (ds.set i od) (σ.set i ov)
  | [], [], _, _ => trivial
  | [], _ :: _, _, h => h.elim
  | _ :: _, [], _, h => h.elim
  | _ :: _, _ :: _, 0, ⟨_, b⟩ => ⟨h, b⟩
  | _ :: _, _ :: _, i + 1, ⟨a, b⟩ => ⟨a, RepS.set h i b⟩
theorem RepS.put {m : List Addr} {H : Hp} {d : D} {v : V} {ds : Sl} {σ : St} (i : Nat) (r : RepS K m H ds σ) (h : RepV K m H d v) : RepS K m H (ds.set i (some d)) (σ.set i (some v)) :=
  r.set (fun _ e => by cases e; exact ⟨v, rfl, h⟩) i
theorem RepS.forget {m : List Addr} {H : Hp} {ds : Sl} {σ : St} (i : Nat) (r : RepS K m H ds σ) (ov : Option V) : RepS K m H (ds.set i none) (σ.set i ov) :=
  r.set (fun _ e => by cases e) i
theorem RepS.length {m : List Addr} {H : Hp} : ∀ {ds : Sl} {σ : St}, RepS K m H ds σ → ds.length = σ.length
  | [], [], _ => rfl
  | [], _ :: _, h => h.elim
  | _ :: _, [], h => h.elim
  | _ :: _, _ :: _, ⟨_, b⟩ => by simp [RepS.length b]
variable (K) in
/-- the attributes of an instance -/
def RepF (m : List Addr) (H : Hp) (fs : List (Str × D)) (xs : List (Str × V)) : Prop := fs.map (·.1) = xs.map (·.1) ∧ RepL K m H (fs.map (·.2)) (xs.map (·.2))
/-- keys by value -/
def keyD : D → Option Key
  | .int i => some (.inl i)
  | .str s => some (.inr s)
  | _ => none
variable (K) in
def RepO (m : List Addr) (H : Hp) (a : Addr) : AO → Prop
  | .lst ds => ∃ xs, H a = some (.lst xs) ∧ RepL K m H ds xs
  | .dct kvs => ∃ ks : List (Key × V), H a = some (.dK ks) ∧ kvs.map (·.1) = ks.map (·.1) ∧ RepL K m H (kvs.map (·.2)) (ks.map (·.2))
  | .fdc kvs => ∃ (o : Obj) (ks : List (Key × V)), H a = some (.frz o (.dK ks)) ∧ kvs.map (·.1) = ks.map (·.1) ∧ RepL K m H (kvs.map (·.2)) (ks.map (·.2))
  | .dcT kvs => ∃ ks : List (List Key × V), H a = some (.dT ks) ∧ kvs.map (·.1) = ks.map (·.1) ∧ RepL K m H (kvs.map (·.2)) (ks.map (·.2))
  | .ins C fs => ∃ dx xs, H a = some (.ins (He.ga K C) dx xs) ∧ RepF K m H fs xs
variable (K) in
structure RepH (m : List Addr) (H : Hp) (h : Hs) : Prop where
  len : m.length = h.length
  nd : m.Nodup
  at_ : ∀ (i : Nat) (a : Addr) (o : AO), m[i]? = some a → h[i]? = some o → RepO K m H a o
theorem RepO.some {m : List Addr} {H : Hp} {a : Addr} {o : AO} (r : RepO K m H a o) : H a ≠ none := by
  cases o with
  | lst ds => obtain ⟨xs, e, _⟩ := r; rw [e]; exact fun z => nomatch z
  | dct kvs => obtain ⟨xs, e, _⟩ := r; rw [e]; exact fun z => nomatch z
  | fdc kvs => obtain ⟨o, xs, e, _⟩ := r; rw [e]; exact fun z => nomatch z
  | dcT kvs => obtain ⟨xs, e, _⟩ := r; rw [e]; exact fun z => nomatch z
  | ins C fs => obtain ⟨dx, xs, e, _⟩ := r; rw [e]; exact fun z => nomatch z
structure Cfg where
  K : PySem.W.Frag
  W : WX
def OutE (g : Cfg) (m : List Addr) (H : Hp) (σ : St) (Q : VK) : R D → Prop
  | .ok d h' => ∀ v m' H', Grow m H m' H' → RepV g.K m' H' d v → RepH g.K m' H' h' → Q v H'
  | .exc c h' => ∀ m' H', Grow m H m' H' → RepH g.K m' H' h' → g.W (.ref (He.ga g.K c)) none σ H'
  | .bad => False
def OutA (g : Cfg) (m : List Addr) (H : Hp) (σ : St) (Q : List V → Hp → Prop) : R (List D) → Prop
  | .ok ds h' => ∀ vs m' H', Grow m H m' H' → RepL g.K m' H' ds vs → RepH g.K m' H' h' → Q vs H'
  | .exc c h' => ∀ m' H', Grow m H m' H' → RepH g.K m' H' h' → g.W (.ref (He.ga g.K c)) none σ H'
  | .bad => False
def OutT (g : Cfg) (m : List Addr) (H : Hp) (σ : St) (Q : Bool → Hp → Prop) : R Bool → Prop
  | .ok b h' => ∀ m' H', Grow m H m' H' → RepH g.K m' H' h' → Q b H'
  | .exc c h' => ∀ m' H', Grow m H m' H' → RepH g.K m' H' h' → g.W (.ref (He.ga g.K c)) none σ H'
  | .bad => False
def OutS (g : Cfg) (m : List Addr) (H : Hp) (N : Ends) : RS → Prop
  | .nx ds h' => ∀ σ' m' H', Grow m H m' H' → RepS g.K m' H' ds σ' → RepH g.K m' H' h' → N.nx σ' H'
  | .rt d h' => ∀ v m' H', Grow m H m' H' → RepV g.K m' H' d v → RepH g.K m' H' h' → N.rt v H'
  | .bk ds h' => ∀ σ' m' H', Grow m H m' H' → RepS g.K m' H' ds σ' → RepH g.K m' H' h' → N.bk σ' H'
  | .ct ds h' => ∀ σ' m' H', Grow m H m' H' → RepS g.K m' H' ds σ' → RepH g.K m' H' h' → N.ct σ' H'
  | .exc c ds h' => ∀ σ' m' H', Grow m H m' H' → RepS g.K m' H' ds σ' → RepH g.K m' H' h' → g.W (.ref (He.ga g.K c)) none σ' H'
  | .bad => False
def tM (g : Cfg) (M : EM) : TE := fun σ H Q => ∃ m ds h, RepS g.K m H ds σ ∧ RepH g.K m H h ∧ OutE g m H σ Q (M ds h)
def tA (g : Cfg) (M : AM) : TA := fun σ H Q => ∃ m ds h, RepS g.K m H ds σ ∧ RepH g.K m H h ∧ OutA g m H σ Q (M ds h)
def tT (g : Cfg) (M : TM) : TT := fun σ H Q => ∃ m ds h, RepS g.K m H ds σ ∧ RepH g.K m H h ∧ OutT g m H σ Q (M ds h)
def tS (g : Cfg) (M : SM) : TS := fun N σ H => ∃ m ds h, RepS g.K m H ds σ ∧ RepH g.K m H h ∧ OutS g m H N (M ds h)
section
variable {g : Cfg} {m m' : List Addr} {H H' : Hp} {σ : St}
theorem OutE.mono {Q : VK} {r : R D} (o : OutE g m H σ Q r) (w : Grow m H m' H') : OutE g m' H' σ Q r := by
  cases r with
  | ok d h => exact fun v m2 H2 w2 => o v m2 H2 (w.trans w2)
  | exc c h => exact fun m2 H2 w2 => o m2 H2 (w.trans w2)
  | bad => exact o
theorem OutA.mono {Q : List V → Hp → Prop} {r : R (List D)} (o : OutA g m H σ Q r) (w : Grow m H m' H') : OutA g m' H' σ Q r := by
  cases r with
  | ok d h => exact fun v m2 H2 w2 => o v m2 H2 (w.trans w2)
  | exc c h => exact fun m2 H2 w2 => o m2 H2 (w.trans w2)
  | bad => exact o
theorem OutT.mono {Q : Bool → Hp → Prop} {r : R Bool} (o : OutT g m H σ Q r) (w : Grow m H m' H') : OutT g m' H' σ Q r := by
  cases r with
  | ok d h => exact fun m2 H2 w2 => o m2 H2 (w.trans w2)
  | exc c h => exact fun m2 H2 w2 => o m2 H2 (w.trans w2)
  | bad => exact o
theorem OutS.mono {N : Ends} {r : RS} (o : OutS g m H N r) (w : Grow m H m' H') : OutS g m' H' N r := by
  cases r with
  | nx ds h => exact fun σ2 m2 H2 w2 => o σ2 m2 H2 (w.trans w2)
  | rt d h => exact fun v m2 H2 w2 => o v m2 H2 (w.trans w2)
  | bk ds h => exact fun σ2 m2 H2 w2 => o σ2 m2 H2 (w.trans w2)
  | ct ds h => exact fun σ2 m2 H2 w2 => o σ2 m2 H2 (w.trans w2)
  | exc c ds h => exact fun σ2 m2 H2 w2 => o σ2 m2 H2 (w.trans w2)
  | bad => exact o
/-- an expression's value taken on -/
theorem OutE.toE {Q Q' : VK} {r : R D} {k : D → Hs → R D} (o : OutE g m H σ Q (r.bind k)) (f : ∀ d h' v m' H', Grow m H m' H' → RepV g.K m' H' d v → RepH g.K m' H' h' → OutE g m' H' σ Q (k d h') → Q' v H') : OutE g m H σ Q' r := by
  cases r with
  | ok d h => exact fun v m' H' w rv rh => f d h v m' H' w rv rh (OutE.mono o w)
  | exc c h => exact o
  | bad => exact o
theorem OutE.toA {Q : List V → Hp → Prop} {Q' : VK} {r : R D} {k : D → Hs → R (List D)} (o : OutA g m H σ Q (r.bind k)) (f : ∀ d h' v m' H', Grow m H m' H' → RepV g.K m' H' d v → RepH g.K m' H' h' → OutA g m' H' σ Q (k d h') → Q' v H') : OutE g m H σ Q' r := by
  cases r with
  | ok d h => exact fun v m' H' w rv rh => f d h v m' H' w rv rh (OutA.mono o w)
  | exc c h => exact o
  | bad => exact o
theorem OutE.toT {Q : Bool → Hp → Prop} {Q' : VK} {r : R D} {k : D → Hs → R Bool} (o : OutT g m H σ Q (r.bind k)) (f : ∀ d h' v m' H', Grow m H m' H' → RepV g.K m' H' d v → RepH g.K m' H' h' → OutT g m' H' σ Q (k d h') → Q' v H') : OutE g m H σ Q' r := by
  cases r with
  | ok d h => exact fun v m' H' w rv rh => f d h v m' H' w rv rh (OutT.mono o w)
  | exc c h => exact o
  | bad => exact o
theorem OutE.toS {N : Ends} {Q' : VK} {r : R D} {ds : Sl} {k : D → Hs → RS} (hs : RepS g.K m H ds σ) (o : OutS g m H N (lift r ds k)) (f : ∀ d h' v m' H', Grow m H m' H' → RepV g.K m' H' d v → RepH g.K m' H' h' → OutS g m' H' N (k d h') → Q' v H') : OutE g m H σ Q' r := by
  cases r with
  | ok d h => exact fun v m' H' w rv rh => f d h v m' H' w rv rh (OutS.mono o w)
  | exc c h => exact fun m' H' w rh => o σ m' H' w (hs.mono w) rh
  | bad => exact o
theorem OutA.toE {Q : VK} {Q' : List V → Hp → Prop} {r : R (List D)} {k : List D → Hs → R D} (o : OutE g m H σ Q (r.bind k)) (f : ∀ d h' v m' H', Grow m H m' H' → RepL g.K m' H' d v → RepH g.K m' H' h' → OutE g m' H' σ Q (k d h') → Q' v H') : OutA g m H σ Q' r := by
  cases r with
  | ok d h => exact fun v m' H' w rv rh => f d h v m' H' w rv rh (OutE.mono o w)
  | exc c h => exact o
  | bad => exact o
theorem OutA.toA {Q : List V → Hp → Prop} {Q' : List V → Hp → Prop} {r : R (List D)} {k : List D → Hs → R (List D)} (o : OutA g m H σ Q (r.bind k)) (f : ∀ d h' v m' H', Grow m H m' H' → RepL g.K m' H' d v → RepH g.K m' H' h' → OutA g m' H' σ Q (k d h') → Q' v H') : OutA g m H σ Q' r := by
  cases r with
  | ok d h => exact fun v m' H' w rv rh => f d h v m' H' w rv rh (OutA.mono o w)
  | exc c h => exact o
  | bad => exact o
theorem OutT.toT {Q : Bool → Hp → Prop} {Q' : Bool → Hp → Prop} {r : R Bool} {k : Bool → Hs → R Bool} (o : OutT g m H σ Q (r.bind k)) (f : ∀ b h' m' H', Grow m H m' H' → RepH g.K m' H' h' → OutT g m' H' σ Q (k b h') → Q' b H') : OutT g m H σ Q' r := by
  cases r with
  | ok d h => exact fun m' H' w rh => f d h m' H' w rh (OutT.mono o w)
  | exc c h => exact o
  | bad => exact o
theorem OutT.toS {N : Ends} {Q' : Bool → Hp → Prop} {r : R Bool} {ds : Sl} {k : Bool → Hs → RS} (hs : RepS g.K m H ds σ) (o : OutS g m H N (lift r ds k)) (f : ∀ b h' m' H', Grow m H m' H' → RepH g.K m' H' h' → OutS g m' H' N (k b h') → Q' b H') : OutT g m H σ Q' r := by
  cases r with
  | ok d h => exact fun m' H' w rh => f d h m' H' w rh (OutS.mono o w)
  | exc c h => exact fun m' H' w rh => o σ m' H' w (hs.mono w) rh
  | bad => exact o
end
end DV
namespace DV
open PySem PySem.Spec PyProof.Rows L2
section
variable {K : PySem.W.Frag} {m m' : List Addr} {H H' : Hp} {h : Hs} {p a : Addr} {o u : HO} {ao : AO}
theorem RepH.fresh (r : RepH K m H h) (n : H p = none) : p ∉ m := fun hm => by
  obtain ⟨i, hi⟩ := List.mem_iff_getElem?.mp hm
  obtain ⟨hl, _⟩ := List.getElem?_eq_some_iff.mp hi
  have hl' : i < h.length := by rw [← r.len]; exact hl
  exact (r.at_ i p _ hi (List.getElem?_eq_getElem hl')).some n
theorem RepO.keep0 (r : RepO K m H a ao) (g : Grw m H m' H') (e : H' a = H a) : RepO K m' H' a ao := by
  cases ao with
  | lst ds => obtain ⟨xs, q, l⟩ := r; exact ⟨xs, e.trans q, l.mono0 g⟩
  | dct kvs => obtain ⟨xs, q, k, l⟩ := r; exact ⟨xs, e.trans q, k, l.mono0 g⟩
  | fdc kvs => obtain ⟨o, xs, q, k, l⟩ := r; exact ⟨o, xs, e.trans q, k, l.mono0 g⟩
  | dcT kvs => obtain ⟨xs, q, k, l⟩ := r; exact ⟨xs, e.trans q, k, l.mono0 g⟩
  | ins C fs => obtain ⟨dx, xs, q, k, l⟩ := r; exact ⟨dx, xs, e.trans q, k, l.mono0 g⟩
theorem RepO.keep (r : RepO K m H a ao) (g : Grow m H m' H') (e : H' a = H a) : RepO K m' H' a ao := r.keep0 g.w e
theorem Grow.put (n : H p = none) : Grow m H m (upd H p o) :=
  ⟨⟨[], by simp⟩, fun b xs e => by rw [upd_ne (ne_of_none e n)]; exact e, fun b o xs e => by rw [upd_ne (ne_of_none e n)]; exact e, fun b o e => by rw [upd_ne (ne_of_none e n)]; exact e⟩
theorem Grow.app (n : H p = none) : Grow m H (m ++ [p]) (upd H p o) := ⟨⟨[p], rfl⟩, (Grow.put (m := m) n).tup, (Grow.put (m := m) n).frz, (Grow.put (m := m) n).ext⟩
theorem RepH.put (r : RepH K m H h) (n : H p = none) : RepH K m (upd H p o) h :=
  ⟨r.len, r.nd, fun i b ob hi hb => (r.at_ i b ob hi hb).keep (.put n) (upd_ne fun z => r.fresh n (by rw [← z]; exact List.mem_of_getElem? hi))⟩
theorem RepH.new (r : RepH K m H h) (n : H p = none) (new : RepO K (m ++ [p]) (L2.upd H p o) p ao) : RepH K (m ++ [p]) (L2.upd H p o) (h ++ [ao]) := by
  have fr := r.fresh n
  refine ⟨by simp [r.len], ?_, fun i b ob hi hb => ?_⟩
  · exact List.nodup_append.mpr ⟨r.nd, by simp, fun x hx y hy z => fr (by simp at hy; rw [← hy, ← z]; exact hx)⟩
  · by_cases hl : i < m.length
    · rw [List.getElem?_append_left hl] at hi
      rw [List.getElem?_append_left (by rw [← r.len]; exact hl)] at hb
      exact (r.at_ i b ob hi hb).keep (.app n) (upd_ne fun z => fr (by rw [← z]; exact List.mem_of_getElem? hi))
    · have hz : i = m.length := by
        obtain ⟨q, _⟩ := List.getElem?_eq_some_iff.mp hi
        simp at q; omega
      subst hz
      simp at hi
      rw [r.len] at hb
      simp at hb
      subst hi hb
      exact new
/-- an object written -/
theorem Grow.write (e : H a = some u) (n1 : ∀ xs, u ≠ .tup xs) (n2 : ∀ o v, u ≠ .frz o v) (n3 : ∀ φ, u ≠ .ext φ) : Grow m H m (L2.upd H a o) :=
  ⟨⟨[], by simp⟩, fun b xs q => by rw [upd_ne (fun z => n1 xs (by rw [z, e] at q; exact Option.some.inj q))]; exact q,
    fun b o xs q => by rw [upd_ne (fun z => n2 o xs (by rw [z, e] at q; exact Option.some.inj q))]; exact q,
    fun b φ q => by rw [upd_ne (fun z => n3 φ (by rw [z, e] at q; exact Option.some.inj q))]; exact q⟩
theorem RepH.write {l : Nat} (r : RepH K m H h) (hl : m[l]? = some a) (e : H a = some u) (n1 : ∀ xs, u ≠ .tup xs) (n2 : ∀ o v, u ≠ .frz o v) (n3 : ∀ φ, u ≠ .ext φ) (new : RepO K m (L2.upd H a o) a ao) : RepH K m (L2.upd H a o) (h.set l ao) := by
  refine ⟨by simp [r.len], r.nd, fun i b ob hi hb => ?_⟩
  by_cases z : i = l
  · subst z
    rw [hl] at hi; cases hi
    obtain ⟨q, hq⟩ := List.getElem?_eq_some_iff.mp hb
    simp at q hq
    subst hq
    exact new
  · rw [List.getElem?_set_ne (Ne.symm z)] at hb
    refine (r.at_ i b ob hi hb).keep (.write e n1 n2 n3) (upd_ne fun w => z ?_)
    subst w
    obtain ⟨q1, e1⟩ := List.getElem?_eq_some_iff.mp hi
    obtain ⟨q2, e2⟩ := List.getElem?_eq_some_iff.mp hl
    exact (List.getElem_inj r.nd).mp (e1.trans e2.symm)
theorem RepH.lst {l : Nat} {ds : List D} (r : RepH K m H h) (hl : m[l]? = some a) (e : h[l]? = some (.lst ds)) : ∃ xs, H a = some (.lst xs) ∧ RepL K m H ds xs := r.at_ l a _ hl e
end
abbrev Res := Option (D × Hs)
abbrev VF2 := D → D → Hs → Res
def R.ofO : Res → R D
  | some p => .ok p.1 p.2
  | none => .bad
@[simp] theorem R.ofO_some (d : D) (h : Hs) : R.ofO (some (d, h)) = .ok d h := rfl
@[simp] theorem R.ofO_none : R.ofO none = .bad := rfl
def OutV (K : PySem.W.Frag) (m : List Addr) (H : Hp) (Q : VK) : Res → Prop
  | some p => ∀ v m' H', Grow m H m' H' → RepV K m' H' p.1 v → RepH K m' H' p.2 → Q v H'
  | none => False
def rV (K : PySem.W.Frag) (F : VF2) : R2 := fun x y H Q => ∃ m h dx dy, RepV K m H dx x ∧ RepV K m H dy y ∧ RepH K m H h ∧ OutV K m H Q (F dx dy h)
theorem OutV.of {g : Cfg} {m : List Addr} {H : Hp} {σ : St} {Q : VK} {r : Res} (o : OutE g m H σ Q (.ofO r)) : OutV g.K m H Q r := by
  cases r with
  | some p => exact o
  | none => exact o
/-- a value told, the heap as it is -/
theorem OutV.keep {K : PySem.W.Frag} {m : List Addr} {H : Hp} {h : Hs} {Q : VK} {d : D} {v : V} (o : OutV K m H Q (some (d, h))) (r : RepV K m H d v) (rh : RepH K m H h) : Q v H := o v m H (.refl _ _) r rh
theorem PE.weak {X : Cx} {e : Expr} {t t' : TE} (p : PE X e t) (w : ∀ σ H Q, t' σ H Q → t σ H Q) : PE X e t' := ⟨fun pns s σ H Q I h => p.run pns s σ H Q I (w σ H Q h)⟩
theorem PT.weak {X : Cx} {e : Expr} {t t' : TT} (p : PT X e t) (w : ∀ σ H Q, t' σ H Q → t σ H Q) : PT X e t' := ⟨fun pns s σ H Q I h => p.run pns s σ H Q I (w σ H Q h)⟩
theorem PW.weak {X : Cx} {e : Expr} {t t' : TT} (p : PW X e t) (w : ∀ σ H Q, t' σ H Q → t σ H Q) : PW X e t' := ⟨fun wh pns s σ H Q I h => p.run wh pns s σ H Q I (w σ H Q h)⟩
theorem PA.weak {X : Cx} {e : List Expr} {t t' : TA} (p : PA X e t) (w : ∀ σ H Q, t' σ H Q → t σ H Q) : PA X e t' := ⟨fun pos pns s σ H Q I h => p.run pos pns s σ H Q I (w σ H Q h)⟩
theorem PS.weak {X : Cx} {e : Stmt} {t t' : TS} (p : PS X e t) (w : ∀ N σ H, t' N σ H → t N σ H) : PS X e t' := ⟨fun pns s σ H Q I h => p.run pns s σ H Q I (w Q σ H h)⟩
theorem PSs.weak {X : Cx} {e : List Stmt} {t t' : TS} (p : PSs X e t) (w : ∀ N σ H, t' N σ H → t N σ H) : PSs X e t' := ⟨fun pns s σ H Q I h => p.run pns s σ H Q I (w Q σ H h)⟩
def cM (d : D) : EM := fun _ h => .ok d h
def vM (i : Nat) : EM := fun ds h => match ds[i]? with
  | some (some d) => .ok d h
  | _ => .bad
def binM (F : VF2) (A B : EM) : EM := fun ds h => (A ds h).bind fun x h => (B ds h).bind fun y h => .ofO (F x y h)
def unM (F : D → Hs → Res) (A : EM) : EM := fun ds h => (A ds h).bind fun x h => .ofO (F x h)
def nilA : AM := fun _ h => .ok [] h
def consA (A : EM) (B : AM) : AM := fun ds h => (A ds h).bind fun x h => (B ds h).bind fun xs h => .ok (x :: xs) h
abbrev LIM : Nat := 16777216
def tupF (xs : List D) (h : Hs) : Res := if xs.length ≤ LIM then some (.tup xs, h) else none
def lstF (xs : List D) (h : Hs) : Res := if xs.length ≤ LIM then some (.loc h.length, h ++ [.lst xs]) else none
def argM (F : List D → Hs → Res) (A : AM) : EM := fun ds h => (A ds h).bind fun xs h => .ofO (F xs h)
/-- a value as a test: a truth -/
def tbM (A : EM) : TM := fun ds h => (A ds h).bind fun d h => match d with
  | .bl b => .ok b h
  | _ => .bad
def truD : D → Hs → Option Bool
  | .non, _ => some false
  | .bl b, _ => some b
  | .int i, _ => some (i != 0)
  | .str s, _ => if s.length ≤ LIM then some ((s.length : Int) != 0) else none
  | .tup ds, _ => some (!ds.isEmpty)
  | .loc l, h => match h[l]? with
    | some (.lst ds) => some (!ds.isEmpty)
    | _ => none
  | _, _ => none
def truM (A : EM) : TM := fun ds h => (A ds h).bind fun d h => match truD d h with
  | some b => .ok b h
  | none => .bad
def andM (A B : TM) : TM := fun ds h => (A ds h).bind fun b h => if b = true then B ds h else .ok false h
def orM (A B : TM) : TM := fun ds h => (A ds h).bind fun b h => if b = true then .ok true h else B ds h
def notM (A : TM) : TM := fun ds h => (A ds h).bind fun b h => .ok (!b) h
def andV (A B : EM) : EM := fun ds h => (A ds h).bind fun d h => match d with
  | .bl b => if b = true then B ds h else .ok (.bl false) h
  | _ => .bad
def orV (A B : EM) : EM := fun ds h => (A ds h).bind fun d h => match d with
  | .bl b => if b = true then .ok (.bl true) h else B ds h
  | _ => .bad
def notV (A : EM) : EM := fun ds h => (A ds h).bind fun d h => match d with
  | .bl b => .ok (.bl (!b)) h
  | _ => .bad
def chainM (F G : VF2) (A B C : EM) : EM := fun ds h => (A ds h).bind fun x h => (B ds h).bind fun y h => (R.ofO (F x y h)).bind fun z h => match z with
  | .bl b => if b = true then (C ds h).bind fun w h => .ofO (G y w h) else .ok (.bl false) h
  | _ => .bad
def ifE (T : TM) (A B : EM) : EM := fun ds h => (T ds h).bind fun b h => if b = true then A ds h else B ds h
section
variable {X : Cx} {g : Cfg} {e a b c : Expr} {es : List Expr} {A B C : EM} {pos : Pos} {F G : VF2}
theorem em_const {v : V} {d : D} (p : PE X e (tC v)) (r : ∀ m H, RepV g.K m H d v) : PE X e (tM g (cM d)) := PE.weak p fun σ H Q ⟨m, ds, h, hs, rh, o⟩ => o v m H (.refl _ _) (r m H) rh
theorem em_int {i : Int} {j pos} : PE X (.Constant (.int i) j pos) (tM g (cM (.int i))) := em_const pe_int fun m H => by unfold RepV; rfl
theorem em_str {i : Str} {j pos} : PE X (.Constant (.str i) j pos) (tM g (cM (.str i))) := em_const pe_str fun m H => by unfold RepV; rfl
theorem em_bl {i : Bool} {j pos} : PE X (.Constant (.bool i) j pos) (tM g (cM (.bl i))) := em_const pe_bl fun m H => by unfold RepV; rfl
theorem em_v {i : Nat} (p : PE X e (tVar i)) : PE X e (tM g (vM i)) := PE.weak p fun σ H Q ⟨m, ds, h, hs, rh, o⟩ => by
  unfold vM at o
  split at o
  · rename_i d hd
    obtain ⟨v, e1, r⟩ := hs.get hd
    exact ⟨v, e1, o v m H (.refl _ _) r rh⟩
  · exact o.elim
theorem bin_read {σ : St} {H : Hp} {Q : VK} (q : tM g (binM F A B) σ H Q) : tOp (rV g.K F) (tM g A) (tM g B) σ H Q := by
  obtain ⟨m, ds, h, hs, rh, o⟩ := q
  refine ⟨m, ds, h, hs, rh, OutE.toE o fun d1 h1 v1 m1 H1 g1 r1 rh1 o1 => ?_⟩
  refine ⟨m1, ds, h1, hs.mono g1, rh1, OutE.toE o1 fun d2 h2 v2 m2 H2 g2 r2 rh2 o2 => ?_⟩
  exact ⟨m2, h2, d1, d2, r1.mono g2, r2, rh2, .of o2⟩
theorem em_bin {op : Operator} (ho : OpR X (binaryOp op) (rV g.K F)) (ha : PE X a (tM g A)) (hb : PE X b (tM g B)) : PE X (.BinOp a op b pos) (tM g (binM F A B)) := PE.weak (pe_op ho ha hb) fun _ _ _ => bin_read
theorem em_cmp {op : CmpOp} (ho : OpR X (compareOp op) (rV g.K F)) (ha : PE X a (tM g A)) (hb : PE X b (tM g B)) (hm : behindInMarks op b = false) : PE X (.Compare a [op] [b] pos) (tM g (binM F A B)) := PE.weak (pe_cmpR ho ha hb hm) fun _ _ _ => bin_read
theorem em_ix (ho : IxR X (rV g.K F)) (ha : PE X a (tM g A)) (hb : PE X b (tM g B)) (hs : PlainIx b) : PE X (.Subscript a b pos) (tM g (binM F A B)) := PE.weak (pe_ix ho ha hb hs) fun _ _ _ => bin_read
theorem tb_read {σ : St} {H : Hp} {Q : Bool → Hp → Prop} (q : tT g (tbM A) σ H Q) : tM g A σ H fun x H' => ∃ k, x = .bl k ∧ Q k H' := by
  obtain ⟨m, ds, h, hs, rh, o⟩ := q
  refine ⟨m, ds, h, hs, rh, OutE.toT o fun d h' v m' H' w rv rh' o' => ?_⟩
  cases d with
  | bl b => exact ⟨b, by unfold RepV at rv; exact rv, o' m' H' (.refl _ _) rh'⟩
  | _ => exact (show False from o').elim
/-- comparisons as tests -/
theorem tm_cmp {op : CmpOp} (ho : OpR X (compareOp op) (rV g.K F)) (ha : PE X a (tM g A)) (hb : PE X b (tM g B)) (hm : behindInMarks op b = false) : PT X (.Compare a [op] [b] pos) (tT g (tbM (binM F A B))) :=
  PT.weak (pt_cmpR ho ha hb hm) fun σ H Q q => bin_read (tb_read q)
/-- any value as a test -/
theorem tm_tru (ha : PE X a (tM g A)) (hK : X.K = g.K) (he : ∀ whole, isTrue a X.env whole = (do let v ← whole; standAt a.pos; holding [v] (truthy v)) := by intro _; rfl) : PT X a (tT g (truM A)) := by
  refine PT.weak (pt_truth ha he) fun σ H Q ⟨m, ds, h, hs, rh, o⟩ => ⟨m, ds, h, hs, rh, OutE.toT o fun d h' v m' H' w rv rh' o' => ?_⟩
  have fin : ∀ {b : Bool}, OutT g m' H' σ Q (.ok b h') → Q b H' := fun q => q m' H' (.refl _ _) rh'
  have ls : sizeLine = 16777216 := sizeLine_eq
  cases d with
  | non => unfold RepV at rv; subst rv; exact ⟨false, rfl, fin o'⟩
  | bl b => unfold RepV at rv; subst rv; exact ⟨b, rfl, fin o'⟩
  | int i => unfold RepV at rv; subst rv; exact ⟨_, rfl, fin o'⟩
  | str s =>
    unfold RepV at rv; subst rv
    by_cases hz : s.length ≤ LIM
    · refine ⟨_, ⟨by rw [ls]; exact hz, rfl⟩, fin ?_⟩
      have e : truD (.str s) h' = some ((s.length : Int) != 0) := if_pos hz
      simpa only [e] using o'
    · have e : truD (.str s) h' = none := if_neg hz
      simp only [e] at o'
      exact o'.elim
  | tup xs =>
    unfold RepV at rv
    obtain ⟨p, vs, rfl, hp, rl⟩ := rv
    refine ⟨!vs.isEmpty, .inr (.inl ⟨vs, SqT.of hp, rfl⟩), ?_⟩
    have e : vs.isEmpty = xs.isEmpty := by
      rw [Bool.eq_iff_iff, List.isEmpty_iff, List.isEmpty_iff]; exact rl.nil_iff
    rw [e]
    exact fin o'
  | loc l =>
    unfold RepV at rv
    obtain ⟨p, hp, rfl⟩ := rv
    cases q : h'[l]? with
    | none => simp only [truD, q] at o'; exact o'.elim
    | some ao =>
      cases ao with
      | lst xs =>
        obtain ⟨vs, hv, rl⟩ := rh'.lst hp q
        refine ⟨!vs.isEmpty, .inl ⟨vs, SqL.of hv, rfl⟩, ?_⟩
        have e : vs.isEmpty = xs.isEmpty := by
          rw [Bool.eq_iff_iff, List.isEmpty_iff, List.isEmpty_iff]; exact rl.nil_iff
        rw [e]
        simp only [truD, q] at o'
        exact fin o'
      | _ => simp only [truD, q] at o'; exact o'.elim
  | exn c => exact (show False from o').elim
  | ro ns => exact (show False from o').elim
theorem tm_and1 {T : TM} (ha : PT X a (tT g T)) : PW X (.BoolOp .And [a] pos) (tT g T) := pw_and1 ha
theorem tm_or1 {T : TM} (ha : PT X a (tT g T)) : PW X (.BoolOp .Or [a] pos) (tT g T) := pw_or1 ha
theorem tm_and {T U : TM} {rest : List Expr} (ha : PT X a (tT g T)) (hb : PW X (.BoolOp .And (b :: rest) pos) (tT g U)) : PW X (.BoolOp .And (a :: b :: rest) pos) (tT g (andM T U)) := by
  refine PW.weak (pw_and ha hb) fun σ H Q ⟨m, ds, h, hs, rh, o⟩ => ⟨m, ds, h, hs, rh, OutT.toT o fun k h' m' H' w rh' o' => ?_⟩
  cases k with
  | true => rw [if_pos rfl] at o' ⊢; exact ⟨m', ds, h', hs.mono w, rh', o'⟩
  | false => rw [if_neg Bool.false_ne_true] at o' ⊢; exact o' m' H' (.refl _ _) rh'
theorem tm_or {T U : TM} {rest : List Expr} (ha : PT X a (tT g T)) (hb : PW X (.BoolOp .Or (b :: rest) pos) (tT g U)) : PW X (.BoolOp .Or (a :: b :: rest) pos) (tT g (orM T U)) := by
  refine PW.weak (pw_or ha hb) fun σ H Q ⟨m, ds, h, hs, rh, o⟩ => ⟨m, ds, h, hs, rh, OutT.toT o fun k h' m' H' w rh' o' => ?_⟩
  cases k with
  | true => rw [if_pos rfl] at o' ⊢; exact o' m' H' (.refl _ _) rh'
  | false => rw [if_neg Bool.false_ne_true] at o' ⊢; exact ⟨m', ds, h', hs.mono w, rh', o'⟩
theorem tm_not {T : TM} (ha : PT X a (tT g T)) : PT X (.UnaryOp .Not a pos) (tT g (notM T)) := by
  refine PT.weak (pt_not ha) fun σ H Q ⟨m, ds, h, hs, rh, o⟩ => ⟨m, ds, h, hs, rh, OutT.toT o fun k h' m' H' w rh' o' => ?_⟩
  exact o' m' H' (.refl _ _) rh'
theorem em_one {op} (ha : PE X a (tM g A)) : PE X (.BoolOp op [a] pos) (tM g A) := pe_one ha
theorem em_and {rest : List Expr} (ha : PE X a (tM g A)) (hb : PE X (.BoolOp .And (b :: rest) pos) (tM g B)) : PE X (.BoolOp .And (a :: b :: rest) pos) (tM g (andV A B)) := by
  refine PE.weak (pe_and ha hb) fun σ H Q ⟨m, ds, h, hs, rh, o⟩ => ⟨m, ds, h, hs, rh, OutE.toE o fun d h' v m' H' w rv rh' o' => ?_⟩
  cases d with
  | bl k =>
    refine ⟨k, by unfold RepV at rv; exact rv, ?_⟩
    have o' : OutE g m' H' σ Q (if k = true then B ds h' else .ok (.bl false) h') := o'
    cases k with
    | true => rw [if_pos rfl] at o' ⊢; exact ⟨m', ds, h', hs.mono w, rh', o'⟩
    | false => rw [if_neg Bool.false_ne_true] at o' ⊢; exact o' _ m' H' (.refl _ _) (by unfold RepV; rfl) rh'
  | _ => exact (show False from o').elim
theorem em_or {rest : List Expr} (ha : PE X a (tM g A)) (hb : PE X (.BoolOp .Or (b :: rest) pos) (tM g B)) : PE X (.BoolOp .Or (a :: b :: rest) pos) (tM g (orV A B)) := by
  refine PE.weak (pe_or ha hb) fun σ H Q ⟨m, ds, h, hs, rh, o⟩ => ⟨m, ds, h, hs, rh, OutE.toE o fun d h' v m' H' w rv rh' o' => ?_⟩
  cases d with
  | bl k =>
    refine ⟨k, by unfold RepV at rv; exact rv, ?_⟩
    have o' : OutE g m' H' σ Q (if k = true then .ok (.bl true) h' else B ds h') := o'
    cases k with
    | true => rw [if_pos rfl] at o' ⊢; exact o' _ m' H' (.refl _ _) (by unfold RepV; rfl) rh'
    | false => rw [if_neg Bool.false_ne_true] at o' ⊢; exact ⟨m', ds, h', hs.mono w, rh', o'⟩
  | _ => exact (show False from o').elim
theorem am_nil : PA X [] (tA g nilA) := PA.weak pa_nil fun σ H Q ⟨m, ds, h, hs, rh, o⟩ => o [] m H (.refl _ _) .nil rh
theorem am_cons {As : AM} (ha : PE X e (tM g A)) (hr : PA X es (tA g As)) (hs : starEach (e :: es) X.env = (false, eval e X.env) :: starEach es X.env := by rfl) : PA X (e :: es) (tA g (consA A As)) := by
  refine PA.weak (pa_cons ha hr hs) fun σ H Q ⟨m, ds, h, hs, rh, o⟩ => ⟨m, ds, h, hs, rh, OutE.toA o fun d h' v m' H' w rv rh' o' => ?_⟩
  refine ⟨m', ds, h', hs.mono w, rh', OutA.toA o' fun xs h2 vs m2 H2 w2 rl rh2 o2 => ?_⟩
  exact o2 _ m2 H2 (.refl _ _) (.cons (rv.mono w2) rl) rh2
theorem em_tup {As : AM} {x1} (h : PA X es (tA g As)) : PE X (.Tuple es x1 pos) (tM g (argM tupF As)) := by
  refine PE.weak (pe_tup h) fun σ H Q ⟨m, ds, h, hs, rh, o⟩ => ⟨m, ds, h, hs, rh, OutA.toE o fun xs h' vs m' H' w rl rh' o' => ?_⟩
  have ls : sizeLine = 16777216 := sizeLine_eq
  by_cases hz : xs.length ≤ LIM
  · have e : tupF xs h' = some (.tup xs, h') := if_pos hz
    rw [e] at o'
    refine ⟨by rw [rl.length, ls]; exact hz, fun p hp => o' _ m' _ (.put hp) ?_ (rh'.put hp)⟩
    unfold RepV
    exact ⟨p, vs, rfl, upd_same, rl.mono (.put hp)⟩
  · have e : tupF xs h' = none := if_neg hz
    rw [e] at o'
    exact o'.elim
/-- a new list tracked -/
theorem new_lst {m : List Addr} {H : Hp} {h : Hs} {xs : List D} {vs : List V} {p : Addr} (rl : RepL g.K m H xs vs) (rh : RepH g.K m H h) (hp : H p = none) :
    RepV g.K (m ++ [p]) (upd H p (.lst vs)) (.loc h.length) (.ref p) ∧ RepH g.K (m ++ [p]) (upd H p (.lst vs)) (h ++ [.lst xs]) := by
  refine ⟨?_, rh.new hp ⟨vs, upd_same, rl.mono (.app hp)⟩⟩
  unfold RepV
  exact ⟨p, by rw [← rh.len]; simp, rfl⟩
theorem em_lst {As : AM} (h : PA X es (tA g As)) : PE X (.List es pos) (tM g (argM lstF As)) := by
  refine PE.weak (pe_lst h) fun σ H Q ⟨m, ds, h, hs, rh, o⟩ => ⟨m, ds, h, hs, rh, OutA.toE o fun xs h' vs m' H' w rl rh' o' => ?_⟩
  have ls : sizeLine = 16777216 := sizeLine_eq
  by_cases hz : xs.length ≤ LIM
  · have e : lstF xs h' = some (.loc h'.length, h' ++ [.lst xs]) := if_pos hz
    rw [e] at o'
    refine ⟨by rw [rl.length, ls]; exact hz, fun p hp => ?_⟩
    obtain ⟨q1, q2⟩ := new_lst rl rh' hp
    exact o' _ _ _ (.app hp) q1 q2
  · have e : lstF xs h' = none := if_neg hz
    rw [e] at o'
    exact o'.elim
def rC (K : PySem.W.Frag) (F : List D → Hs → Res) : List V → Hp → VK → Prop := fun vs H Q => ∃ m h ds, RepL K m H ds vs ∧ RepH K m H h ∧ OutV K m H Q (F ds h)
theorem call_read {Fc : List D → Hs → Res} {As : AM} {σ : St} {H : Hp} {Q : VK} (q : tM g (argM Fc As) σ H Q) : tCB (rC g.K Fc) (tA g As) σ H Q := by
  obtain ⟨m, ds, h, hs, rh, o⟩ := q
  exact ⟨m, ds, h, hs, rh, OutA.toE o fun xs h' vs m' H' w rl rh' o' => ⟨m', h', xs, rl, rh', .of o'⟩⟩
theorem em_callB {id : String} {Fc : List D → Hs → Res} {As : AM} {x : Str} {p : Pos} (hc : CallR X (.builtin id) (rC g.K Fc)) (hg : Gl X x) (hm : X.mg x = none) (hv : bootBuiltins x = some (.builtin id)) (ha : PA X (e :: es) (tA g As)) (hn : x ≠ "__name__" := by decide) (hdb : (x == ("__debug__" : Str)) = false := by decide)
    (he : starEach (e :: es) X.env = (false, eval e X.env) :: starEach es X.env := by rfl) (hpl : (backTo pos (starEach es X.env)).any (·.1) = false := by rfl) : PE X (.Call (.Name x p) (e :: es) [] pos) (tM g (argM Fc As)) :=
  PE.weak (pe_callB hc hg hm hv ha hn hdb he hpl) fun _ _ _ => call_read
theorem em_callTy {T : String} {Fc : List D → Hs → Res} {As : AM} {x : Str} {p : Pos} (hc : CallR X (.type T) (rC g.K Fc)) (hg : Gl X x) (hm : X.mg x = none) (hv : bootBuiltins x = some (.type T)) (ha : PA X (e :: es) (tA g As)) (hn : x ≠ "__name__" := by decide) (hdb : (x == ("__debug__" : Str)) = false := by decide)
    (he : starEach (e :: es) X.env = (false, eval e X.env) :: starEach es X.env := by rfl) (hpl : (backTo pos (starEach es X.env)).any (·.1) = false := by rfl) : PE X (.Call (.Name x p) (e :: es) [] pos) (tM g (argM Fc As)) :=
  PE.weak (pe_callTy hc hg hm hv ha hn hdb he hpl) fun _ _ _ => call_read
end
end DV
namespace DV
open PySem PySem.Spec PyProof.Rows L2
def passM : SM := fun ds h => .nx ds h
def seqM (A B : SM) : SM := fun ds h => match A ds h with
  | .nx ds h => B ds h
  | r => r
def setM (i : Nat) (A : EM) : SM := fun ds h => lift (A ds h) ds fun d h => .nx (ds.set i (some d)) h
def exprM (A : EM) : SM := fun ds h => lift (A ds h) ds fun _ h => .nx ds h
def retM (A : EM) : SM := fun ds h => lift (A ds h) ds fun d h => .rt d h
def retN : SM := fun _ h => .rt .non h
def ifM (T : TM) (A B : SM) : SM := fun ds h => lift (T ds h) ds fun b h => if b = true then A ds h else B ds h
def raiseM (c : Str) : SM := fun ds h => .exc c ds h
/-- targets -/
abbrev GM := D → Sl → Hs → RS
def nameG (i : Nat) : GM := fun d ds h => .nx (ds.set i (some d)) h
def nilG : List D → Sl → Hs → RS := fun xs ds h => match xs with
  | [] => .nx ds h
  | _ => .bad
def consG (T : GM) (U : List D → Sl → Hs → RS) : List D → Sl → Hs → RS := fun xs ds h => match xs with
  | x :: r => (match T x ds h with
    | .nx ds h => U r ds h
    | _ => .bad)
  | [] => .bad
def tupG (n : Nat) (U : List D → Sl → Hs → RS) : GM := fun d ds h => match d with
  | .tup xs => if xs.length = n then U xs ds h else .bad
  | _ => .bad
def asgM (A : EM) (T : GM) : SM := fun ds h => lift (A ds h) ds fun d h => T d ds h
/-- loops over known items, under a guard -/
abbrev IM := Sl → Hs → R (List D × (Hs → Prop))
open Classical in
noncomputable def loopM (gd : Hs → Prop) (T : GM) (B : SM) : List D → SM
  | [] => fun ds h => if gd h then .nx ds h else .bad
  | d :: r => fun ds h => if gd h then (match T d ds h with
    | .nx ds h => (match B ds h with
      | .nx ds h => loopM gd T B r ds h
      | .ct ds h => loopM gd T B r ds h
      | .bk ds h => .nx ds h
      | q => q)
    | _ => .bad) else .bad
noncomputable def forM (I : IM) (T : GM) (B : SM) : SM := fun ds h => lift (I ds h) ds fun p h => loopM p.2 T B p.1 ds h
def tG (g : Cfg) (T : GM) : TG := fun v σ H Q => ∃ m d ds h, RepV g.K m H d v ∧ RepS g.K m H ds σ ∧ RepH g.K m H h ∧ OutS g m H { nx := Q, rt := fun _ _ => False } (match T d ds h with | .nx ds h => .nx ds h | _ => .bad)
def tGs (g : Cfg) (U : List D → Sl → Hs → RS) : TGs := fun vs σ H Q => ∃ m xs ds h, RepL g.K m H xs vs ∧ RepS g.K m H ds σ ∧ RepH g.K m H h ∧ OutS g m H { nx := Q, rt := fun _ _ => False } (match U xs ds h with | .nx ds h => .nx ds h | _ => .bad)
theorem PG.weak {X : Cx} {e : Expr} {t t' : TG} (p : PG X e t) (w : ∀ v σ H Q, t' v σ H Q → t v σ H Q) : PG X e t' := ⟨fun pns s σ H v u Q I r h => p.run pns s σ H v u Q I r (w v σ H Q h)⟩
theorem PGs.weak {X : Cx} {e : List Expr} {t t' : TGs} (p : PGs X e t) (w : ∀ v σ H Q, t' v σ H Q → t v σ H Q) : PGs X e t' := ⟨fun pns s σ H v u Q I r h => p.run pns s σ H v u Q I r (w v σ H Q h)⟩
theorem PI.weak {X : Cx} {tg e : Expr} {t t' : TI} (p : PI X tg e t) (w : ∀ σ H R, t' σ H R → t σ H R) : PI X tg e t' := ⟨fun pns s σ H R I h => p.run pns s σ H R I (w σ H R h)⟩
section
variable {X : Cx} {g : Cfg} {e a b c tg iter : Expr} {es : List Expr} {A B C : EM} {pos : Pos} {F G : VF2} {S U : SM} {T : TM} {st : Stmt} {sts body : List Stmt}
theorem sms_nil : PSs X [] (tS g passM) := PSs.weak pss_nil fun N σ H ⟨m, ds, h, hs, rh, o⟩ => o σ m H (.refl _ _) hs rh
theorem sms_one (h1 : PS X st (tS g S)) : PSs X [st] (tS g S) := pss_one h1
theorem sms_cons (h1 : PS X st (tS g S)) (h2 : PSs X sts (tS g U)) : PSs X (st :: sts) (tS g (seqM S U)) := by
  refine PSs.weak (pss_cons h1 h2) fun N σ H ⟨m, ds, h, hs, rh, o⟩ => ⟨m, ds, h, hs, rh, ?_⟩
  unfold seqM at o
  cases q : S ds h with
  | nx ds1 h1 =>
    rw [q] at o
    exact fun σ1 m1 H1 g1 r1 rh1 => ⟨m1, ds1, h1, r1, rh1, OutS.mono o g1⟩
  | rt d h1 => rw [q] at o; exact o
  | bk ds1 h1 => rw [q] at o; exact o
  | ct ds1 h1 => rw [q] at o; exact o
  | exc c ds1 h1 => rw [q] at o; exact o
  | bad => rw [q] at o; exact o
theorem sm_expr (he : PE X e (tM g A)) (hs : swapsWith e none pos.line X.env = pure false := by rfl) : PS X (.Expr e pos) (tS g (exprM A)) :=
  PS.weak (ps_expr he hs) fun N σ H ⟨m, ds, h, hs, rh, o⟩ => ⟨m, ds, h, hs, rh, OutE.toS hs o fun d h1 v m1 H1 g1 r1 rh1 o1 => o1 σ m1 H1 (.refl _ _) (hs.mono g1) rh1⟩
theorem sm_ret (he : PE X e (tM g A)) : PS X (.Return (some e) pos) (tS g (retM A)) :=
  PS.weak (ps_ret he) fun N σ H ⟨m, ds, h, hs, rh, o⟩ => ⟨m, ds, h, hs, rh, OutE.toS hs o fun d h1 v m1 H1 g1 r1 rh1 o1 => o1 v m1 H1 (.refl _ _) r1 rh1⟩
theorem sm_if {tb fb : List Stmt} (hc : PT X c (tT g T)) (ha : PSs X tb (tS g S)) (hb : PSs X fb (tS g U)) : PS X (.If c tb fb pos) (tS g (ifM T S U)) := by
  refine PS.weak (ps_if hc ha hb) fun N σ H ⟨m, ds, h, hs, rh, o⟩ => ⟨m, ds, h, hs, rh, OutT.toS hs o fun k h1 m1 H1 g1 rh1 o1 => ?_⟩
  cases k with
  | true => rw [if_pos rfl] at o1 ⊢; exact ⟨m1, ds, h1, hs.mono g1, rh1, o1⟩
  | false => rw [if_neg Bool.false_ne_true] at o1 ⊢; exact ⟨m1, ds, h1, hs.mono g1, rh1, o1⟩
theorem gm_name {i : Nat} (h : PG X tg (gName i)) : PG X tg (tG g (nameG i)) :=
  PG.weak h fun v σ H Q ⟨m, d, ds, h, rv, hs, rh, o⟩ => o (σ.set i (some v)) m H (.refl _ _) (hs.put i rv) rh
theorem gms_nil : PGs X [] (tGs g nilG) := PGs.weak pgs_nil fun vs σ H Q ⟨m, xs, ds, h, rl, hs, rh, o⟩ => by
  cases xs with
  | nil => unfold RepL at rl; exact ⟨rl, o σ m H (.refl _ _) hs rh⟩
  | cons x r => exact (show False from o).elim
theorem gms_cons {T1 : GM} {U1 : List D → Sl → Hs → RS} (h1 : PG X e (tG g T1)) (h2 : PGs X es (tGs g U1))
    (hs : (assignEach (e :: es) X.env).map (·.2) = assign e X.env :: (assignEach es X.env).map (·.2) := by rfl) : PGs X (e :: es) (tGs g (consG T1 U1)) := by
  refine PGs.weak (pgs_cons h1 h2 hs) fun vs σ H Q ⟨m, xs, ds, h, rl, hs, rh, o⟩ => ?_
  cases xs with
  | nil => exact (show False from o).elim
  | cons x r =>
    unfold RepL at rl
    obtain ⟨v, vr, rfl, r1, r2⟩ := rl
    refine ⟨v, vr, rfl, m, x, ds, h, r1, hs, rh, ?_⟩
    have o : OutS g m H { nx := Q, rt := fun _ _ => False } (match (match T1 x ds h with | .nx ds h => U1 r ds h | _ => .bad) with | .nx ds h => .nx ds h | _ => .bad) := o
    cases q : T1 x ds h with
    | nx ds1 h1 =>
      rw [q] at o
      exact fun σ1 m1 H1 g1 s1 rh1 => ⟨m1, r, ds1, h1, r2.mono g1, s1, rh1, OutS.mono o g1⟩
    | _ => rw [q] at o; exact (show False from o).elim
theorem gm_tup {k n : Nat} {U1 : List D → Sl → Hs → RS} (hc : X.calm = true) (h : PGs X es (tGs g U1)) (hK : X.K = g.K)
    (hn : (assignEach es X.env).length = n := by rfl) (hst : (assignEach es X.env).findIdx? (·.1) = none := by rfl) : PG X (.Tuple es k pos) (tG g (tupG n U1)) := by
  refine PG.weak (pg_tup hc h hn hst) fun v σ H Q ⟨m, d, ds, h, rv, hs, rh, o⟩ => ?_
  cases d with
  | tup xs =>
    unfold RepV at rv
    obtain ⟨p, vs, rfl, hp, rl⟩ := rv
    have o : OutS g m H { nx := Q, rt := fun _ _ => False } (match (if xs.length = n then U1 xs ds h else .bad) with | .nx ds h => .nx ds h | _ => .bad) := o
    by_cases hl : xs.length = n
    · rw [if_pos hl] at o
      exact ⟨p, vs, rfl, SqT.of hp, by rw [rl.length]; exact hl, m, xs, ds, h, rl, hs, rh, o⟩
    · rw [if_neg hl] at o; exact o.elim
  | _ => exact (show False from o).elim
/-- only a next or nothing comes of a target -/
def okG (T : GM) : GM := fun d ds h => match T d ds h with
  | .nx ds h => .nx ds h
  | _ => .bad
theorem sm_set {i : Nat} {x : Str} {pos' : Pos} (hN : X.N.Nodup) (hi : X.N[i]? = some x) (hx : Loc X.env.scope x) (he : PE X e (tM g A)) (hs : swapsWith e (some (.Name x pos')) pos.line X.env = pure false := by rfl) (hf : X.fn x = true ∨ X.env.scope.names.lookup x = some .local := by first | exact .inl rfl | exact .inr rfl | assumption) :
    PS X (.Assign [.Name x pos'] e pos) (tS g (setM i A)) :=
  PS.weak (ps_set hN hi hx he hs hf) fun N σ H ⟨m, ds, h, hs, rh, o⟩ => ⟨m, ds, h, hs, rh, OutE.toS hs o fun d h1 v m1 H1 g1 r1 rh1 o1 => o1 _ m1 H1 (.refl _ _) ((hs.mono g1).put i r1) rh1⟩
theorem sm_asg {T1 : GM} (he : PE X e (tM g A)) (hg : PG X tg (tG g T1)) (hs : swapsWithSole [tg] e pos.line X.env = pure false := by rfl) (hw : swappedStores [tg] e X.env = pure none := by rfl)
    (h1 : (assignEach [tg] X.env).map (·.2) = [assign tg X.env] := by rfl) : PS X (.Assign [tg] e pos) (tS g (asgM A (okG T1))) := by
  refine PS.weak (ps_asg he hg hs hw h1) fun N σ H ⟨m, ds, h, hs, rh, o⟩ => ⟨m, ds, h, hs, rh, OutE.toS hs o fun d h1 v m1 H1 g1 r1 rh1 o1 => ⟨m1, d, ds, h1, r1, hs.mono g1, rh1, ?_⟩⟩
  have o1 : OutS g m1 H1 N (match T1 d ds h1 with | .nx ds h => .nx ds h | _ => .bad) := o1
  cases q : T1 d ds h1 with
  | nx ds1 h1 => rw [q] at o1; exact o1
  | _ => rw [q] at o1; exact (show False from o1).elim
end
/-- the iterator J yields these, as long as the guard holds -/
def IsIt (K : PySem.W.Frag) (J : It) (its : List D) (gd : Hs → Prop) (m0 : List Addr) (H0 : Hp) : Prop :=
  ∀ i m H h, Grow m0 H0 m H → RepH K m H h → gd h → (∀ d, its[i]? = some d → J.go i H ∧ ∀ x H', J.yld i H x H' → Grow m H m H' ∧ RepV K m H' d x ∧ RepH K m H' h) ∧ (its.length ≤ i → J.stop i H)
def OutI (g : Cfg) (m : List Addr) (H : Hp) (σ : St) (Q : It → Hp → Prop) : R (List D × (Hs → Prop)) → Prop
  | .ok p h' => ∀ J m' H', Grow m H m' H' → RepH g.K m' H' h' → IsIt g.K J p.1 p.2 m' H' → Q J H'
  | .exc c h' => ∀ m' H', Grow m H m' H' → RepH g.K m' H' h' → g.W (.ref (He.ga g.K c)) none σ H'
  | .bad => False
def tI (g : Cfg) (M : IM) : TI := fun σ H Q => ∃ m ds h, RepS g.K m H ds σ ∧ RepH g.K m H h ∧ OutI g m H σ Q (M ds h)
section
variable {X : Cx} {g : Cfg} {tg iter : Expr} {body : List Stmt} {pos : Pos} {S : SM} {T : GM} {I : IM}
theorem sm_for (hp : PassesOwn (model X.prog X.w) X.A X.env X.xe) (hc : X.calm = true) (hi : PI X tg iter (tI g I)) (hg : PG X tg (tG g T)) (hb : PSs X body (tS g S))
    (hs : ∀ x, foldedSetIterable iter X.env x = pure x := by intro _; rfl) : PS X (.For tg iter body [] pos) (tS g (forM I T S)) := by
  refine PS.weak (ps_for hp hc hi hg hb hs) fun N σ H ⟨m, ds, h, hs, rh, o⟩ => ⟨m, ds, h, hs, rh, ?_⟩
  unfold forM at o
  cases q : I ds h with
  | exc c h1 => rw [q] at o; exact fun m' H' w rh' => o σ m' H' w (hs.mono w) rh'
  | bad => rw [q] at o; exact o
  | ok p h1 =>
    obtain ⟨its, gd⟩ := p
    rw [q, lift_ok] at o
    intro J m1 H1 g1 rh1 it
    refine ⟨fun i k σ H => k = its.length - i ∧ i ≤ its.length ∧ ∃ m ds h, Grow m1 H1 m H ∧ RepS g.K m H ds σ ∧ RepH g.K m H h ∧ OutS g m H N (loopM gd T S (its.drop i) ds h),
      ⟨_, rfl, Nat.zero_le _, m1, ds, h1, .refl _ _, hs.mono g1, rh1, OutS.mono o g1⟩, ?_⟩
    rintro i k σ2 H2 ⟨rfl, hi, m2, ds2, h2, g2, s2, rh2, o2⟩
    by_cases hlt : i < its.length
    · have hd : its.drop i = its[i] :: its.drop (i + 1) := List.drop_eq_getElem_cons hlt
      rw [hd] at o2
      unfold loopM at o2
      by_cases hgd : gd h2
      · rw [if_pos hgd] at o2
        obtain ⟨f1, _⟩ := it i m2 H2 h2 g2 rh2 hgd
        obtain ⟨go, yl⟩ := f1 its[i] (List.getElem?_eq_getElem hlt)
        refine .inr ⟨go, fun σ H => ∃ m ds h, Grow m1 H1 m H ∧ RepS g.K m H ds σ ∧ RepH g.K m H h ∧ OutS g m H N (loopM gd T S (its.drop (i + 1)) ds h), fun σ' H' ⟨m', ds', h', w⟩ => ⟨its.length - (i + 1), by omega, rfl, hlt, m', ds', h', w⟩, fun x H3 y => ?_⟩
        obtain ⟨g3, r3, rh3⟩ := yl x H3 y
        refine ⟨m2, its[i], ds2, h2, r3, s2.mono g3, rh3, ?_⟩
        cases w : T its[i] ds2 h2 with
        | nx ds4 h4 =>
          rw [w] at o2
          intro σ4 m4 H4 g4 s4 rh4
          refine ⟨m4, ds4, h4, s4, rh4, ?_⟩
          have o2 : OutS g m2 H2 N (match S ds4 h4 with
            | .nx ds h => loopM gd T S (its.drop (i + 1)) ds h
            | .ct ds h => loopM gd T S (its.drop (i + 1)) ds h
            | .bk ds h => .nx ds h
            | q => q) := o2
          have o4 := OutS.mono o2 (g3.trans g4)
          have gg := g2.trans (g3.trans g4)
          cases w2 : S ds4 h4 with
          | nx ds5 h5 => rw [w2] at o4; exact fun σ5 m5 H5 g5 s5 rh5 => ⟨m5, ds5, h5, gg.trans g5, s5, rh5, OutS.mono o4 g5⟩
          | ct ds5 h5 => rw [w2] at o4; exact fun σ5 m5 H5 g5 s5 rh5 => ⟨m5, ds5, h5, gg.trans g5, s5, rh5, OutS.mono o4 g5⟩
          | bk ds5 h5 => rw [w2] at o4; exact o4
          | rt d h5 => rw [w2] at o4; exact o4
          | exc c ds5 h5 => rw [w2] at o4; exact o4
          | bad => rw [w2] at o4; exact o4
        | _ => rw [w] at o2; exact (show False from o2).elim
      · rw [if_neg hgd] at o2; exact o2.elim
    · have e : i = its.length := by omega
      subst e
      rw [List.drop_length] at o2
      unfold loopM at o2
      by_cases hgd : gd h2
      · rw [if_pos hgd] at o2
        exact .inl ⟨(it _ m2 H2 h2 g2 rh2 hgd).2 (Nat.le_refl _), o2 σ2 m2 H2 (.refl _ _) s2 rh2⟩
      · rw [if_neg hgd] at o2; exact o2.elim
end
/-- the items of a value and the guard: a list must stay as it is -/
noncomputable def itsF (d : D) (h : Hs) : Option (List D × (Hs → Prop)) := match d with
  | .tup ds => some (ds, fun _ => True)
  | .ro ns => some (ns.map D.int, fun _ => True)
  | .str s => some (s.cps.toList.map fun c => .str ⟨#[c]⟩, fun _ => True)
  | .loc l => match h[l]? with
    | some (.lst ds) => some (ds, fun h => h[l]? = some (.lst ds))
    | _ => none
  | _ => none
noncomputable def valI (A : EM) : IM := fun ds h => (A ds h).bind fun d h => match itsF d h with
  | some p => .ok p h
  | none => .bad
/-- a test that no evaluation looks into -/
noncomputable def cB (p : Prop) : Bool := @decide p (Classical.propDecidable p)
theorem cB_iff {p : Prop} : cB p = true ↔ p := by unfold cB; exact @decide_eq_true_iff p (Classical.propDecidable p)
theorem cB_of {p : Prop} (h : p) : cB p = true := cB_iff.mpr h
/-- a range's ends fit -/
noncomputable def inR (j : Int) : Bool := cB (-(2 ^ 62) ≤ j ∧ j < 2 ^ 62)
noncomputable def rng1 : List D → Option (List D)
  | [.int j] => if inR j = true then some ((List.range j.toNat).map fun (i : Nat) => .int (i : Int)) else none
  | _ => none
noncomputable def rng2 : List D → Option (List D)
  | [.int i, .int j] => if inR i = true ∧ inR j = true then some ((List.range (j - i).toNat).map fun (k : Nat) => .int (i + (k : Int))) else none
  | _ => none
theorem rng1_inv {xs its : List D} (h : rng1 xs = some its) : ∃ j : Int, xs = [.int j] ∧ (-(2 ^ 62) ≤ j ∧ j < 2 ^ 62) ∧ its = (List.range j.toNat).map fun (i : Nat) => .int (i : Int) := by
  unfold rng1 at h
  split at h
  · rename_i j
    split at h
    · rename_i hj; exact ⟨j, rfl, cB_iff.mp hj, (Option.some.inj h).symm⟩
    · cases h
  · cases h
def rngI (F : List D → Option (List D)) (A : AM) : IM := fun ds h => (A ds h).bind fun xs h => match F xs with
  | some its => .ok (its, fun _ => True) h
  | none => .bad
section
variable {X : Cx} {g : Cfg} {tg e a b : Expr} {A : EM} {pos : Pos}
/-- any of list, tuple, text, by its value -/
theorem pi_any {l : Expr} {tl : TE} (hl : PE X l tl) : PI X tg l (fun σ H R => tl σ H fun x H1 => (∃ a, x = .ref a ∧ (∃ xs, SqL X.K H1 a xs) ∧ R (Itl X.K a) H1) ∨ (∃ a, x = .ref a ∧ (∃ xs, SqT X.K H1 a xs) ∧ R (Itt X.K a) H1) ∨ ∃ z, x = .str z ∧ R (Its z) H1) := by
  refine ⟨fun pns s σ H R I h => ?_⟩
  refine thn (hl.run pns s σ H _ I h) fun v s1 ⟨x, H1, I1, r1, q1⟩ => ?_
  rcases q1 with ⟨a, e, ⟨xs, hq⟩, q⟩ | ⟨a, e, ⟨xs, hq⟩, q⟩ | ⟨z, e, q⟩
  · subst e
    cases r1
    obtain ⟨its, rv, p, hz⟩ := I1.list hq
    refine wpAny_pyIter_list p.isList ?_
    refine ⟨s1.heap.objs.size, [s1.heap.objs.size], _, _, H1, rfl, I1.kept (t' := s1.toks) fun b o e => Heap.get?_push_of_some _ e, turn_list a _, ⟨_, Heap.get?_push_size _ rfl, rfl, rfl⟩, fun b hb => ?_, q⟩
    have e : b = s1.heap.objs.size := by simpa using hb
    subst e
    exact I1.fpOk (Nat.le_refl _) (I1.hok.fresh (Nat.le_refl _))
  · subst e
    cases r1
    obtain ⟨its, rv, p, hz⟩ := I1.tuple hq
    refine wpAny_pyIter_tuple (show s1.heap.IsTuple a its.toArray from p) ?_
    refine ⟨s1.heap.objs.size, [s1.heap.objs.size], _, _, H1, rfl, I1.kept (t' := s1.toks) fun b o e => Heap.get?_push_of_some _ e, turn_tuple a _, ⟨_, Heap.get?_push_size _ rfl, rfl, rfl⟩, fun b hb => ?_, q⟩
    have e : b = s1.heap.objs.size := by simpa using hb
    subst e
    exact I1.fpOk (Nat.le_refl _) (I1.hok.fresh (Nat.le_refl _))
  · subst e
    obtain ⟨t, rfl⟩ := r1
    cases ha : z.cps.all (· < 128)
    · exact wpAny_pyIter_wide ha (pi_one (tk := s1.toks) I1 _ (turn_str _ z t "str_iterator" (.inr rfl)) ⟨_, Heap.get?_push_size _ rfl, rfl, rfl⟩ q)
    · exact wpAny_pyIter_ascii ha (pi_one (tk := s1.toks) I1 _ (turn_str _ z t "str_ascii_iterator" (.inl rfl)) ⟨_, Heap.get?_push_size _ rfl, rfl, rfl⟩ q)
theorem isIt_tup {K : PySem.W.Frag} {p : Addr} {vs : List V} {ds : List D} {m : List Addr} {H : Hp} (hp : H p = some (.tup vs)) (rl : RepL K m H ds vs) : IsIt K (Itt K p) ds (fun _ => True) m H := by
  intro i m' H' h' g' rh' _
  have hp' := g'.tup _ _ hp
  refine ⟨fun d hd => ?_, fun hi => ⟨vs, SqT.of hp', by rw [rl.length]; exact hi⟩⟩
  obtain ⟨x, hx, rx⟩ := rl.get hd
  refine ⟨⟨vs, x, SqT.of hp', hx⟩, fun y H2 ⟨e, q⟩ => ?_⟩
  subst e
  have := q vs (SqT.of hp')
  rw [hx] at this; cases this
  exact ⟨.refl _ _, rx.mono g', rh'⟩
theorem isIt_lst {K : PySem.W.Frag} {p : Addr} {l : Nat} {ds : List D} {m : List Addr} {H : Hp} (hp : m[l]? = some p) : IsIt K (Itl K p) ds (fun h => h[l]? = some (.lst ds)) m H := by
  intro i m' H' h' g' rh' hg
  obtain ⟨⟨r, rfl⟩, _, _, _⟩ := g'
  obtain ⟨hlt, _⟩ := List.getElem?_eq_some_iff.mp hp
  have hp' : (m ++ r)[l]? = some p := by rw [List.getElem?_append_left hlt]; exact hp
  obtain ⟨vs, hv, rl⟩ := rh'.lst hp' hg
  refine ⟨fun d hd => ?_, fun hi => ⟨vs, SqL.of hv, by rw [rl.length]; exact hi⟩⟩
  obtain ⟨x, hx, rx⟩ := rl.get hd
  refine ⟨⟨vs, x, SqL.of hv, hx⟩, fun y H2 ⟨e, q⟩ => ?_⟩
  subst e
  have := q vs (SqL.of hv)
  rw [hx] at this; cases this
  exact ⟨.refl _ _, rx, rh'⟩
theorem SqR.mono {K : PySem.W.Frag} {H H' : Hp} {m m' : List Addr} {p : Addr} {xs : List V} (g : Grow m H m' H') (q : SqR K H p xs) : SqR K H' p xs := by
  rcases q with ⟨o, q⟩ | q
  · exact .inl ⟨o, g.frz _ _ _ q⟩
  · exact .inr q
theorem isIt_ro {K : PySem.W.Frag} {p : Addr} {ns : List Int} {m : List Addr} {H : Hp} (hp : SqR K H p (ns.map V.int)) : IsIt K (Itl K p) (ns.map D.int) (fun _ => True) m H := by
  intro i m' H' h' g' rh' _
  have hq := (hp.mono g').sq
  refine ⟨fun d hd => ?_, fun hi => ⟨_, hq, by simpa using hi⟩⟩
  rw [List.getElem?_map] at hd
  cases e : ns[i]? with
  | none => rw [e] at hd; cases hd
  | some n =>
    rw [e] at hd
    cases hd
    have hx : (ns.map V.int)[i]? = some (.int n) := by rw [List.getElem?_map, e]; rfl
    refine ⟨⟨_, .int n, hq, hx⟩, fun y H2 ⟨e, q⟩ => ?_⟩
    subst e
    have := q _ hq
    rw [hx] at this; cases this
    exact ⟨.refl _ _, by unfold RepV; rfl, rh'⟩
theorem isIt_str {K : PySem.W.Frag} {z : Str} {m : List Addr} {H : Hp} : IsIt K (Its z) (z.cps.toList.map fun c => .str ⟨#[c]⟩) (fun _ => True) m H := by
  intro i m' H' h' g' rh' _
  refine ⟨fun d hd => ?_, fun hi => (show z.cps.size ≤ i by simpa using hi)⟩
  rw [List.getElem?_map, Array.getElem?_toList] at hd
  cases e : z.cps[i]? with
  | none => rw [e] at hd; cases hd
  | some n =>
    rw [e] at hd
    cases hd
    refine ⟨?_, fun y H2 ⟨e2, c, hc, q⟩ => ?_⟩
    · have : i < z.cps.size := (Array.getElem?_eq_some_iff.mp e).1
      exact this
    · subst e2 q
      rw [e] at hc; cases hc
      exact ⟨.refl _ _, by unfold RepV; rfl, rh'⟩
theorem isIt_rng {K : PySem.W.Frag} {lo : Int} {n : Nat} {m : List Addr} {H : Hp} : IsIt K (Itr lo n) ((List.range n).map fun (k : Nat) => .int (lo + (k : Int))) (fun _ => True) m H := by
  intro i m' H' h' g' rh' _
  refine ⟨fun d hd => ?_, fun hi => (show n ≤ i by simpa using hi)⟩
  rw [List.getElem?_map] at hd
  by_cases hl : i < n
  · rw [List.getElem?_range hl] at hd
    cases hd
    exact ⟨hl, fun y H2 ⟨e2, q⟩ => by subst e2 q; exact ⟨.refl _ _, by unfold RepV; rfl, rh'⟩⟩
  · rw [List.getElem?_eq_none (by simpa using hl)] at hd; cases hd
theorem OutE.toI {g : Cfg} {m : List Addr} {H : Hp} {σ : St} {Q : It → Hp → Prop} {Q' : VK} {r : R D} {k : D → Hs → R (List D × (Hs → Prop))} (o : OutI g m H σ Q (r.bind k)) (f : ∀ d h' v m' H', Grow m H m' H' → RepV g.K m' H' d v → RepH g.K m' H' h' → OutI g m' H' σ Q (k d h') → Q' v H') : OutE g m H σ Q' r := by
  cases r with
  | ok d h =>
    refine fun v m' H' w rv rh => f d h v m' H' w rv rh ?_
    rw [R.bind_ok] at o
    cases q : k d h with
    | ok p h2 => rw [q] at o; exact fun J m2 H2 w2 => o J m2 H2 (w.trans w2)
    | exc c h2 => rw [q] at o; exact fun m2 H2 w2 => o m2 H2 (w.trans w2)
    | bad => rw [q] at o; exact o
  | exc c h => exact o
  | bad => exact o
theorem OutA.toI {g : Cfg} {m : List Addr} {H : Hp} {σ : St} {Q : It → Hp → Prop} {Q' : List V → Hp → Prop} {r : R (List D)} {k : List D → Hs → R (List D × (Hs → Prop))} (o : OutI g m H σ Q (r.bind k)) (f : ∀ d h' v m' H', Grow m H m' H' → RepL g.K m' H' d v → RepH g.K m' H' h' → OutI g m' H' σ Q (k d h') → Q' v H') : OutA g m H σ Q' r := by
  cases r with
  | ok d h =>
    refine fun v m' H' w rv rh => f d h v m' H' w rv rh ?_
    rw [R.bind_ok] at o
    cases q : k d h with
    | ok p h2 => rw [q] at o; exact fun J m2 H2 w2 => o J m2 H2 (w.trans w2)
    | exc c h2 => rw [q] at o; exact fun m2 H2 w2 => o m2 H2 (w.trans w2)
    | bad => rw [q] at o; exact o
  | exc c h => exact o
  | bad => exact o
theorem im_val (hK : X.K = g.K) (he : PE X e (tM g A)) : PI X tg e (tI g (valI A)) := by
  refine PI.weak (pi_any he) fun σ H R ⟨m, ds, h, hs, rh, o⟩ => ⟨m, ds, h, hs, rh, OutE.toI o fun d h1 v m1 H1 g1 r1 rh1 o1 => ?_⟩
  rw [hK]
  cases d with
  | tup xs =>
    unfold RepV at r1
    obtain ⟨p, vs, rfl, hp, rl⟩ := r1
    exact .inr (.inl ⟨p, rfl, ⟨vs, SqT.of hp⟩, o1 _ m1 H1 (.refl _ _) rh1 (isIt_tup hp rl)⟩)
  | ro ns =>
    unfold RepV at r1
    obtain ⟨p, rfl, hp⟩ := r1
    exact .inl ⟨p, rfl, ⟨_, hp.sq⟩, o1 _ m1 H1 (.refl _ _) rh1 (isIt_ro hp)⟩
  | str z =>
    unfold RepV at r1
    exact .inr (.inr ⟨z, r1, o1 _ m1 H1 (.refl _ _) rh1 isIt_str⟩)
  | loc l =>
    unfold RepV at r1
    obtain ⟨p, hp, rfl⟩ := r1
    cases q : h1[l]? with
    | none => simp only [itsF, q] at o1; exact o1.elim
    | some ao =>
      cases ao with
      | lst xs =>
        obtain ⟨vs, hv, rl⟩ := rh1.lst hp q
        simp only [itsF, q] at o1
        exact .inl ⟨p, rfl, ⟨vs, SqL.of hv⟩, o1 _ m1 H1 (.refl _ _) rh1 (isIt_lst hp)⟩
      | _ => simp only [itsF, q] at o1; exact o1.elim
  | _ => exact (show False from o1).elim
theorem repL1 {K : PySem.W.Frag} {m : List Addr} {H : Hp} {d : D} {vs : List V} (r : RepL K m H [d] vs) : ∃ v, vs = [v] ∧ RepV K m H d v := by
  unfold RepL at r
  obtain ⟨x, r, rfl, h1, h2⟩ := r
  unfold RepL at h2
  exact ⟨x, by rw [h2], h1⟩
theorem im_rng1 {As : AM} {p : Pos} (hg : Gl X "range") (hm : X.mg "range" = none) (ha : PA X [a] (tA g As)) (hs : starEach [a] X.env = [(false, eval a X.env)] := by rfl) : PI X tg (.Call (.Name "range" p) [a] [] pos) (tI g (rngI rng1 As)) := by
  refine PI.weak (pi_range1 hg hm ha hs) fun σ H R ⟨m, ds, h, hs, rh, o⟩ => ⟨m, ds, h, hs, rh, OutA.toI o fun xs h1 vs m1 H1 g1 rl rh1 o1 => ?_⟩
  cases q : rng1 xs with
  | none => simp only [q] at o1; exact o1.elim
  | some its =>
    simp only [q] at o1
    obtain ⟨j, rfl, hj, rfl⟩ := rng1_inv q
    obtain ⟨v, rfl, r1⟩ := repL1 rl
    unfold RepV at r1
    subst r1
    refine ⟨j, rfl, hj.1, hj.2, o1 _ m1 H1 (.refl _ _) rh1 ?_⟩
    have := isIt_rng (K := g.K) (lo := 0) (n := j.toNat) (m := m1) (H := H1)
    simpa only [Int.zero_add] using this
end
end DV
namespace DV
open PySem PySem.Spec PyProof.Rows L2
def wipeD (ds : Sl) : List Nat → Sl
  | [] => ds
  | v :: vs => (wipeD ds vs).set v none
theorem RepS.wipe {K : PySem.W.Frag} {m : List Addr} {H : Hp} {ds : Sl} {σ : St} (r : RepS K m H ds σ) : ∀ vs : List Nat, RepS K m H (wipeD ds vs) (wipe σ vs)
  | [] => r
  | v :: vs => (RepS.wipe r vs).forget v none
/-- no exception -/
def R.noX {α : Type} : R α → R α
  | .ok a h => .ok a h
  | _ => .bad
@[simp] theorem R.noX_ok {α : Type} (a : α) (h : Hs) : (R.ok a h).noX = .ok a h := rfl
open Classical in
/-- l: the new list's number -/
noncomputable def lcLoop (gd : Hs → Prop) (l : Nat) (T : GM) (C : TM) (A : EM) (ds : Sl) : List D → Hs → R D
  | [], h => if gd h then .ok (.loc l) h else .bad
  | d :: r, h => if gd h then (match T d ds h with
    | .nx ds1 h1 => (C ds1 h1).noX.bind fun b h2 => if b = true then (A ds1 h2).noX.bind fun y h3 => (match h3[l]? with
        | some (.lst acc) => if acc.length < LIM then lcLoop gd l T C A ds r (h3.set l (.lst (acc ++ [y]))) else .bad
        | _ => .bad) else lcLoop gd l T C A ds r h2
    | _ => .bad) else .bad
/-- [A for T in I if C], own: the slots of its own names -/
noncomputable def lcM (own : List Nat) (I : IM) (T : GM) (C : TM) (A : EM) : EM := fun ds h => (I ds h).bind fun p h => lcLoop p.2 h.length T C A (wipeD ds own) p.1 (h ++ [.lst []])
def yesM : TM := fun _ h => .ok true h
theorem OutI.toE {g : Cfg} {m : List Addr} {H : Hp} {σ : St} {Q : VK} {Q' : It → Hp → Prop} {r : R (List D × (Hs → Prop))} {k : (List D × (Hs → Prop)) → Hs → R D} (o : OutE g m H σ Q (r.bind k))
    (f : ∀ p h' J m' H', Grow m H m' H' → RepH g.K m' H' h' → IsIt g.K J p.1 p.2 m' H' → OutE g m' H' σ Q (k p h') → Q' J H') : OutI g m H σ Q' r := by
  cases r with
  | ok p h => exact fun J m' H' w rh it => f p h J m' H' w rh it (OutE.mono o w)
  | exc c h => exact o
  | bad => exact o
/-- no exception leaves a comprehension's block -/
def noW (K : PySem.W.Frag) : Cfg := ⟨K, fun _ _ _ _ => False⟩
theorem IsIt.mono {K : PySem.W.Frag} {J : It} {its : List D} {gd : Hs → Prop} {m m' : List Addr} {H H' : Hp} (x : IsIt K J its gd m H) (w : Grow m H m' H') : IsIt K J its gd m' H' :=
  fun i m2 H2 h2 g2 => x i m2 H2 h2 (w.trans g2)
/-- a target of own names: its reading t, its maker T -/
structure CT (K : PySem.W.Frag) (own : List Nat) (t : TG) (T : GM) : Prop where
  keep : ∀ d ds h ds' h', T d ds h = .nx ds' h' → h' = h
  run : ∀ (m : List Addr) (d : D) (ds ds' : Sl) (h h' : Hs) (v : V) (σ : St) (H : Hp) (Q : St → Hp → Prop), RepV K m H d v → RepS K m H ds (wipe σ own) → T d ds h = .nx ds' h' →
    (∀ σ', wipe σ' own = wipe σ own → RepS K m H ds' σ' → Q σ' H) → t v (wipe σ own) H fun σ2 H2 => wipe σ2 own = wipe σ own ∧ Q σ2 H2
theorem ct_name (K : PySem.W.Frag) (i : Nat) : CT K [i] (gName i) (nameG i) where
  keep := fun d ds h ds' h' e => by cases e; rfl
  run := by
    intro m d ds ds' h h' v σ H Q rv rs e o
    cases e
    have e : wipe ((wipe σ [i]).set i (some v)) [i] = wipe σ [i] := by
      show (((σ.set i none).set i (some v)).set i none) = σ.set i none
      rw [List.set_set, List.set_set]
    exact ⟨e, o _ e (rs.put i rv)⟩
theorem lc_read {g : Cfg} {own : List Nat} {I : IM} {T : GM} {C : TM} {A : EM} {σ : St} {H : Hp} {Q : VK} (q : tM g (lcM own I T C A) σ H Q)
    {t : TG} (ct : CT g.K own t T) :
    tLc (tI g I) t (tT (noW g.K) C) (tM (noW g.K) A) own σ H Q := by
  obtain ⟨m, ds, h, hs, rh, o⟩ := q
  refine ⟨m, ds, h, hs, rh, OutI.toE o fun p h1 J m1 H1 g1 rh1 it o1 => ?_⟩
  obtain ⟨its, gd⟩ := p
  intro L hL
  -- the new list
  have rh2 : RepH g.K (m1 ++ [L]) (upd H1 L (.lst [])) (h1 ++ [.lst []]) := (new_lst (g := g) (.nil) rh1 hL).2
  have g2 : Grow m1 H1 (m1 ++ [L]) (upd H1 L (.lst [])) := .app hL
  have hl : (m1 ++ [L])[h1.length]? = some L := by rw [← rh1.len]; simp
  have s2 := (hs.mono g1).mono g2
  have it2 := it.mono g2
  have o2 : OutE g (m1 ++ [L]) (upd H1 L (.lst [])) σ Q (lcLoop gd h1.length T C A (wipeD ds own) its (h1 ++ [.lst []])) := OutE.mono o1 g2
  generalize (m1 ++ [L]) = m2 at rh2 g2 hl s2 it2 o2
  generalize (upd H1 L (.lst [])) = H2 at rh2 g2 s2 it2 o2 ⊢
  generalize h1.length = l at hl o2
  generalize (h1 ++ [AO.lst []]) = h2 at rh2 o2
  refine ⟨fun i k H => k = its.length - i ∧ i ≤ its.length ∧ ∃ m h, Grow m2 H2 m H ∧ RepH g.K m H h ∧ OutE g m H σ Q (lcLoop gd l T C A (wipeD ds own) (its.drop i) h), ⟨_, rfl, Nat.zero_le _, m2, h2, .refl _ _, rh2, o2⟩, ?_⟩
  rintro i k H3 ⟨rfl, hi, m3, h3, g3, rh3, o3⟩
  have hl3 : m3[l]? = some L := by
    obtain ⟨⟨r, rfl⟩, _, _, _⟩ := g3
    obtain ⟨q, _⟩ := List.getElem?_eq_some_iff.mp hl
    rw [List.getElem?_append_left q]; exact hl
  by_cases hlt : i < its.length
  · have hd : its.drop i = its[i] :: its.drop (i + 1) := List.drop_eq_getElem_cons hlt
    rw [hd] at o3
    unfold lcLoop at o3
    by_cases hgd : gd h3
    · rw [if_pos hgd] at o3
      obtain ⟨f1, _⟩ := it2 i m3 H3 h3 g3 rh3 hgd
      obtain ⟨go, yl⟩ := f1 its[i] (List.getElem?_eq_getElem hlt)
      refine .inr ⟨go, fun H => ∃ m h, Grow m2 H2 m H ∧ RepH g.K m H h ∧ OutE g m H σ Q (lcLoop gd l T C A (wipeD ds own) (its.drop (i + 1)) h), fun H' ⟨m', h', w⟩ => ⟨its.length - (i + 1), by omega, rfl, hlt, m', h', w⟩, fun x H4 y => ?_⟩
      obtain ⟨g4, r4, rh4⟩ := yl x H4 y
      cases w : T its[i] (wipeD ds own) h3 with
      | nx ds5 h5 =>
        rw [w] at o3
        obtain rfl := ct.keep _ _ _ _ _ w
        refine ct.run m3 its[i] (wipeD ds own) ds5 h5 h5 x σ H4 _ r4 (((s2.mono g3).mono g4).wipe own) w fun σ5 hw5 s5 => ?_
        have o5 := OutE.mono o3 g4
        refine ⟨m3, ds5, h5, s5, rh4, ?_⟩
        have gg := g3.trans g4
        change OutE g m3 H4 σ Q ((C ds5 h5).noX.bind _) at o5
        cases c5 : C ds5 h5 with
        | exc c h6 => rw [c5] at o5; exact o5.elim
        | bad => rw [c5] at o5; exact o5
        | ok b h6 =>
          rw [c5, R.noX_ok, R.bind_ok] at o5
          intro m6 H6 g6 rh6
          cases b with
          | false =>
            rw [if_neg Bool.false_ne_true] at o5 ⊢
            exact ⟨m6, h6, gg.trans g6, rh6, OutE.mono o5 g6⟩
          | true =>
            rw [if_pos rfl] at o5 ⊢
            refine ⟨m6, ds5, h6, s5.mono g6, rh6, ?_⟩
            cases a6 : A ds5 h6 with
            | exc c h7 => rw [a6] at o5; exact o5.elim
            | bad => rw [a6] at o5; exact o5
            | ok yd h7 =>
              rw [a6, R.noX_ok, R.bind_ok] at o5
              intro yv m7 H7 g7 r7 rh7
              have hl7 : m7[l]? = some L := by
                obtain ⟨⟨r, rfl⟩, _, _, _⟩ := g4.trans (g6.trans g7)
                obtain ⟨q, _⟩ := List.getElem?_eq_some_iff.mp hl3
                rw [List.getElem?_append_left q]; exact hl3
              cases e7 : h7[l]? with
              | none => rw [e7] at o5; exact o5.elim
              | some ao =>
                cases ao with
                | lst acc =>
                  rw [e7] at o5
                  change OutE g m3 H4 σ Q (if acc.length < LIM then _ else _) at o5
                  by_cases hz : acc.length < LIM
                  · rw [if_pos hz] at o5
                    obtain ⟨vs, hv, rl⟩ := rh7.lst hl7 e7
                    have w8 : Grow m7 H7 m7 (upd H7 L (.lst (vs ++ [yv]))) := .write hv (fun _ z => nomatch z) (fun _ _ z => nomatch z) (fun _ z => nomatch z)
                    have rh8 : RepH g.K m7 (upd H7 L (.lst (vs ++ [yv]))) (h7.set l (.lst (acc ++ [yd]))) :=
                      rh7.write hl7 hv (fun _ z => nomatch z) (fun _ _ z => nomatch z) (fun _ z => nomatch z) ⟨_, upd_same, (rl.append (.cons r7 .nil)).mono w8⟩
                    refine ⟨vs, hv, ?_, m7, _, (gg.trans (g6.trans g7)).trans w8, rh8, OutE.mono o5 ((g6.trans g7).trans w8)⟩
                    rw [rl.length, sizeLine_eq]; exact hz
                  · rw [if_neg hz] at o5; exact o5.elim
                | _ => rw [e7] at o5; exact (show False from o5).elim
      | _ => rw [w] at o3; exact (show False from o3).elim
    · rw [if_neg hgd] at o3; exact o3.elim
  · have e : i = its.length := by omega
    subst e
    rw [List.drop_length] at o3
    unfold lcLoop at o3
    by_cases hgd : gd h3
    · rw [if_pos hgd] at o3
      exact .inl ⟨(it2 _ m3 H3 h3 g3 rh3 hgd).2 (Nat.le_refl _), o3 _ m3 H3 (.refl _ _) (by unfold RepV; exact ⟨L, hl3, rfl⟩) rh3⟩
    · rw [if_neg hgd] at o3; exact o3.elim
/-- tests of a clause -/
theorem tms_nil {X : Cx} {g : Cfg} : PTs X [] (tT g yesM) := ⟨fun _ _ _ H _ I ⟨m, ds, h, hs, rh, o⟩ => wpAny_tests_nil ⟨H, I, o m H (.refl _ _) rh⟩⟩
theorem tms_one {X : Cx} {g : Cfg} {c : Expr} {C : TM} (h : PT X c (tT g C)) : PTs X [c] (tT g C) := pts_one h
section
variable {X : Cx} {g : Cfg} {tg elt iter : Expr} {ifs : List Expr} {scope : Scope} {own : List (Str × Nat)} {pos spos py : Pos} {I : IM} {T : GM} {C : TM} {A : EM} {t : TG}
theorem em_lc (hc : X.calm = true) (hN : X.N.Nodup) (hi : PI X tg iter (tI g I)) (ok : BlkOk X.N X.env.scope scope own) (ct : CT g.K (own.map (·.2)) t T)
    (hg : ∀ (s : Shared) (H : Hp) (C : Addr) (cl : List (Str × Addr)) (fp : List Addr), PG (X.blk s H scope (compEnvC scope cl C X.env) fp) tg t)
    (ht : ∀ (s : Shared) (H : Hp) (Ca : Addr) (cl : List (Str × Addr)) (fp : List Addr), PTs (X.blk s H scope (compEnvC scope cl Ca X.env) fp) ifs (tT (noW g.K) C))
    (he : ∀ (s : Shared) (H : Hp) (C : Addr) (cl : List (Str × Addr)) (fp : List Addr), PE (X.blk s H scope (compEnvC scope cl C X.env) fp) elt (tM (noW g.K) A)) (hs : ∀ x, foldedSetIterable iter X.env x = pure x := by intro _; rfl) :
    PE X (.ListComp elt [⟨tg, iter, ifs, 0⟩] scope pos) (tM g (lcM (own.map (·.2)) I T C A)) := PE.weak (pe_lc hc hN hi ok hg ht he hs) fun σ H Q q => lc_read q ct
theorem sm_setLc {i : Nat} {y : Str} (hc : X.calm = true) (hN : X.N.Nodup) (hy : X.N[i]? = some y) (hyl : X.env.scope.names.lookup y = some .local)
    (hsw : swapsWith (.ListComp elt [⟨tg, iter, ifs, 0⟩] scope pos) (some (.Name y py)) spos.line X.env = pure true) (hi : PI X tg iter (tI g I)) (ok : BlkOk X.N X.env.scope scope own) (ct : CT g.K (own.map (·.2)) t T)
    (hg : ∀ (s : Shared) (H : Hp) (C : Addr) (cl : List (Str × Addr)) (fp : List Addr), PG (X.blk s H scope (compEnvC scope cl C X.env) fp) tg t)
    (ht : ∀ (s : Shared) (H : Hp) (Ca : Addr) (cl : List (Str × Addr)) (fp : List Addr), PTs (X.blk s H scope (compEnvC scope cl Ca X.env) fp) ifs (tT (noW g.K) C))
    (he : ∀ (s : Shared) (H : Hp) (C : Addr) (cl : List (Str × Addr)) (fp : List Addr), PE (X.blk s H scope (compEnvC scope cl C X.env) fp) elt (tM (noW g.K) A)) (hs : ∀ x, foldedSetIterable iter X.env x = pure x := by intro _; rfl) :
    PS X (.Assign [.Name y py] (.ListComp elt [⟨tg, iter, ifs, 0⟩] scope pos) spos) (tS g (setM i (lcM (own.map (·.2)) I T C A))) :=
  PS.weak (ps_setLc hc hN hy hyl hsw hi ok hg ht he hs) fun N σ H ⟨m, ds, h, hs, rh, o⟩ => lc_read (Q := fun x H1 => gName i x σ H1 N.nx) ⟨m, ds, h, hs, rh, OutE.toS hs o fun d h1 v m1 H1 g1 r1 rh1 o1 => o1 _ m1 H1 (.refl _ _) ((hs.mono g1).put i r1) rh1⟩ ct
end
/-- what a def makes of its arguments and the objects -/
abbrev Fm := List D → Hs → R D
def OutC (K : PySem.W.Frag) (m : List Addr) (H : Hp) (Q : VK) (E : XK) : R D → Prop
  | .ok d h' => ∀ v m' H', Grow m H m' H' → RepV K m' H' d v → RepH K m' H' h' → Q v H'
  | .exc c h' => ∀ m' H', Grow m H m' H' → RepH K m' H' h' → E (.ref (He.ga K c)) none H'
  | .bad => False
def spM (K : PySem.W.Frag) (n : Nat) (φ : Fm) : Sp := fun vs H Q E => vs.length = n ∧ ∃ m ds h, RepL K m H ds vs ∧ RepH K m H h ∧ OutC K m H Q E (φ ds h)
def callM (φ : Fm) (A : AM) : EM := fun ds h => (A ds h).bind fun xs h => φ xs h
theorem callS_read {g : Cfg} {n : Nat} {φ : Fm} {As : AM} {σ : St} {H : Hp} {Q : VK} (ar : ∀ xs h, xs.length ≠ n → φ xs h = .bad) (q : tM g (callM φ As) σ H Q) : tCallS (spM g.K n φ) (WE g.W) (tA g As) σ H Q := by
  obtain ⟨m, ds, h, hs, rh, o⟩ := q
  refine ⟨m, ds, h, hs, rh, OutA.toE o fun xs h' vs m' H' w rl rh' o' => ?_⟩
  by_cases hl : xs.length = n
  · refine ⟨by rw [rl.length]; exact hl, m', xs, h', rl, rh', ?_⟩
    cases e : φ xs h' with
    | ok d h2 => rw [e] at o'; exact o'
    | exc c h2 => rw [e] at o'; exact o'
    | bad => rw [e] at o'; exact o'
  · rw [ar _ _ hl] at o'; exact o'.elim
/-- a def of the top, as its callers see it: at this level it does φ -/
structure FnAt (P : Program) (w : World) (K : PySem.W.Frag) (mg : Str → Option Value) (base : Heap) (k : Nat) (x : Str) (ps : List Str) (φ : Fm) : Prop where
  ex : ∃ f fd, mg x = some (.ref f) ∧ PySem.W.keepIn K (.ref f) = true ∧ Binds K fd ps [] ∧ FnOk P w K mg base (L2.CX P w) k f fd ps (spM K ps.length φ)
  ar : ∀ xs h, xs.length ≠ ps.length → φ xs h = .bad
section
variable {X : Cx} {g : Cfg} {e : Expr} {es : List Expr} {As : AM} {x : Str} {p pos : Pos} {k : Nat} {ps : List Str} {φ : Fm}
theorem em_call (F : FnAt X.prog X.w X.K X.mg X.base k x ps φ) (hK : X.K = g.K) (hr : Room k X.A) (tk : Takes X g.W) (hg : Gl X x) (ha : PA X (e :: es) (tA g As)) (hdb : (x == ("__debug__" : Str)) = false := by decide) (he : starEach (e :: es) X.env = (false, eval e X.env) :: starEach es X.env := by rfl) (hpl : (backTo pos (starEach es X.env)).any (·.1) = false := by rfl) :
    PE X (.Call (.Name x p) (e :: es) [] pos) (tM g (callM φ As)) := by
  obtain ⟨f, fd, hm, hk, hb, G⟩ := F.ex
  rw [hK] at G
  refine PE.weak (pe_callS (E := WE g.W) (by rw [hK]; exact G) hr hg hm hk hb (passAt tk) ha hdb he hpl) fun σ H Q q => callS_read F.ar q
end
end DV
namespace DV
open PySem PySem.Spec PyProof.Rows L2
mutual
def noloc : D → Bool
  | .loc _ => false
  | .tup ds => nolocL ds
  | .non => true
  | .bl _ => true
  | .int _ => true
  | .str _ => true
  | .ro _ => true
  | .exn _ => true
def nolocL : List D → Bool
  | [] => true
  | d :: ds => noloc d && nolocL ds
end
section
variable {K : PySem.W.Frag}
mutual
theorem RepV.free {m m' : List Addr} {H : Hp} : ∀ {d : D} {v : V}, noloc d = true → RepV K m H d v → RepV K m' H d v
  | .non, _, _, h => h
  | .bl _, _, _, h => h
  | .int _, _, _, h => h
  | .str _, _, _, h => h
  | .ro _, _, _, h => h
  | .exn _, _, _, h => h
  | .tup ds, v, n, h => by
    unfold RepV at h ⊢
    obtain ⟨a, xs, e, ha, hl⟩ := h
    exact ⟨a, xs, e, ha, RepL.free (by unfold noloc at n; exact n) hl⟩
  | .loc l, v, n, h => by unfold noloc at n; cases n
theorem RepL.free {m m' : List Addr} {H : Hp} : ∀ {ds : List D} {xs : List V}, nolocL ds = true → RepL K m H ds xs → RepL K m' H ds xs
  | [], _, _, h => h
  | d :: ds, xs, n, h => by
    unfold RepL at h ⊢
    unfold nolocL at n
    obtain ⟨n1, n2⟩ := Bool.and_eq_true_iff.mp n
    obtain ⟨x, r, e, h1, h2⟩ := h
    exact ⟨x, r, e, RepV.free n1 h1, RepL.free n2 h2⟩
end
mutual
/-- what stood for it by fewer numbers still does -/
theorem RepV.shrink {m0 r : List Addr} {H0 H : Hp} : ∀ {d : D} {v0 v : V}, RepV K m0 H0 d v0 → RepV K (m0 ++ r) H d v → RepV K m0 H d v
  | .non, _, _, _, h => h
  | .bl _, _, _, _, h => h
  | .int _, _, _, _, h => h
  | .str _, _, _, _, h => h
  | .ro _, _, _, _, h => h
  | .exn _, _, _, _, h => h
  | .tup ds, v0, v, n, h => by
    unfold RepV at h n ⊢
    obtain ⟨a0, xs0, _, _, hl0⟩ := n
    obtain ⟨a, xs, e, ha, hl⟩ := h
    exact ⟨a, xs, e, ha, RepL.shrink hl0 hl⟩
  | .loc l, v0, v, n, h => by
    unfold RepV at h n ⊢
    obtain ⟨a0, ha0, _⟩ := n
    obtain ⟨a, ha, e⟩ := h
    obtain ⟨hl, _⟩ := List.getElem?_eq_some_iff.mp ha0
    rw [List.getElem?_append_left hl] at ha
    exact ⟨a, ha, e⟩
theorem RepL.shrink {m0 r : List Addr} {H0 H : Hp} : ∀ {ds : List D} {xs0 xs : List V}, RepL K m0 H0 ds xs0 → RepL K (m0 ++ r) H ds xs → RepL K m0 H ds xs
  | [], _, _, _, h => h
  | d :: ds, xs0, xs, n, h => by
    unfold RepL at h n ⊢
    obtain ⟨x0, r0, _, n1, n2⟩ := n
    obtain ⟨x, r, e, h1, h2⟩ := h
    exact ⟨x, r, e, RepV.shrink n1 h1, RepL.shrink n2 h2⟩
end
theorem RepO.shrink {m0 r : List Addr} {H0 H : Hp} {a a0 : Addr} {o : AO} (n : RepO K m0 H0 a0 o) (h : RepO K (m0 ++ r) H a o) : RepO K m0 H a o := by
  cases o with
  | lst ds => obtain ⟨xs0, _, n⟩ := n; obtain ⟨xs, e, h⟩ := h; exact ⟨xs, e, n.shrink h⟩
  | dct kvs => obtain ⟨xs0, _, _, n⟩ := n; obtain ⟨xs, e, k, h⟩ := h; exact ⟨xs, e, k, n.shrink h⟩
  | fdc kvs => obtain ⟨_, xs0, _, _, n⟩ := n; obtain ⟨ob, xs, e, k, h⟩ := h; exact ⟨ob, xs, e, k, n.shrink h⟩
  | dcT kvs => obtain ⟨xs0, _, _, n⟩ := n; obtain ⟨xs, e, k, h⟩ := h; exact ⟨xs, e, k, n.shrink h⟩
  | ins C fs => obtain ⟨_, xs0, _, _, n⟩ := n; obtain ⟨dx, xs, e, k, h⟩ := h; exact ⟨dx, xs, e, k, n.shrink h⟩
/-- an object without numbers in it -/
def nolocO : AO → Bool
  | .lst ds => nolocL ds
  | .dct kvs => nolocL (kvs.map (·.2))
  | .fdc kvs => nolocL (kvs.map (·.2))
  | .dcT kvs => nolocL (kvs.map (·.2))
  | .ins _ fs => nolocL (fs.map (·.2))
theorem RepO.free {m m' : List Addr} {H : Hp} {a : Addr} {o : AO} (n : nolocO o = true) (h : RepO K m H a o) : RepO K m' H a o := by
  cases o with
  | lst ds => obtain ⟨xs, e, h⟩ := h; exact ⟨xs, e, h.free n⟩
  | dct kvs => obtain ⟨xs, e, k, h⟩ := h; exact ⟨xs, e, k, h.free n⟩
  | fdc kvs => obtain ⟨ob, xs, e, k, h⟩ := h; exact ⟨ob, xs, e, k, h.free n⟩
  | dcT kvs => obtain ⟨xs, e, k, h⟩ := h; exact ⟨xs, e, k, h.free n⟩
  | ins C fs => obtain ⟨dx, xs, e, k, h⟩ := h; exact ⟨dx, xs, e, k, h.free n⟩
theorem Grow.cut {m m' : List Addr} {H H' : Hp} (g : Grow m H m' H') : Grow m H m H' := ⟨⟨[], by simp⟩, g.tup, g.frz, g.ext⟩
/-- back to the old objects, each as it was or without numbers -/
theorem RepH.cut {m m' : List Addr} {H H' : Hp} {h h' : Hs} (r0 : RepH K m H h) (r : RepH K m' H' h') (g : Grow m H m' H') (c : ∀ (i : Nat) (o : AO), i < h.length → h'[i]? = some o → h[i]? = some o ∨ nolocO o = true) : RepH K m H' (h'.take h.length) := by
  obtain ⟨⟨q, rfl⟩, _, _⟩ := g
  have l1 := r.len
  have l0 := r0.len
  rw [List.length_append] at l1
  refine ⟨by rw [List.length_take]; omega, (List.nodup_append.mp r.nd).1, fun i a o hi ho => ?_⟩
  obtain ⟨hl, _⟩ := List.getElem?_eq_some_iff.mp hi
  have hlt : i < h.length := by omega
  rw [List.getElem?_take_of_lt hlt] at ho
  have ro := r.at_ i a o (by rw [List.getElem?_append_left hl]; exact hi) ho
  rcases c i o hlt ho with e | e
  · exact (r0.at_ i a o hi e).shrink ro
  · exact ro.free e
end
open Classical in
/-- nothing is changed, a value without objects comes back -/
noncomputable def nPure (φ : Fm) : Fm := fun xs h => match φ xs h with
  | .ok d h' => if noloc d = true ∧ h'.take h.length = h then .ok d h else .bad
  | .exc c h' => if h'.take h.length = h then .exc c h else .bad
  | .bad => .bad
open Classical in
/-- nothing is changed, a new list or dict comes back, without objects in it -/
noncomputable def nNew (φ : Fm) : Fm := fun xs h => match φ xs h with
  | .ok (.loc l) h' => (match h'[l]? with
    | some o => if h.length ≤ l ∧ h'.take h.length = h ∧ nolocO o = true then .ok (.loc h.length) (h ++ [o]) else .bad
    | none => .bad)
  | .exc c h' => if h'.take h.length = h then .exc c h else .bad
  | _ => .bad
section
variable {K : PySem.W.Frag} {m : List Addr} {H : Hp} {Q : VK} {E : XK} {φ : Fm} {xs : List D} {h : Hs}
theorem take_same {h h' : Hs} (e : h'.take h.length = h) : ∀ (i : Nat) (o : AO), i < h.length → h'[i]? = some o → h[i]? = some o ∨ nolocO o = true := fun i o hl ho => .inl (by
  rw [← List.getElem?_take_of_lt hl, e] at ho; exact ho)
theorem nPure_ok (rh : RepH K m H h) (o : OutC K m H Q E (nPure φ xs h)) : OutC K m H Q E (φ xs h) := by
  unfold nPure at o
  cases q : φ xs h with
  | ok d h' =>
    rw [q] at o
    simp only at o
    split at o
    · rename_i c
      intro v m' H' g rv rh'
      have := rh.cut rh' g (take_same c.2)
      rw [c.2] at this
      exact o v m H' g.cut (rv.free c.1) this
    · exact o.elim
  | exc c h' =>
    rw [q] at o
    simp only at o
    split at o
    · rename_i e
      intro m' H' g rh'
      have := rh.cut rh' g (take_same e)
      rw [e] at this
      exact o m H' g.cut this
    · exact o.elim
  | bad => rw [q] at o; exact o
theorem nNew_ok (rh : RepH K m H h) (o : OutC K m H Q E (nNew φ xs h)) : OutC K m H Q E (φ xs h) := by
  unfold nNew at o
  cases q : φ xs h with
  | ok d h' =>
    rw [q] at o
    cases d with
    | loc l =>
      cases e : h'[l]? with
      | none => simp only [e] at o; exact o.elim
      | some ob =>
        simp only [e] at o
        split at o
        · rename_i c
          obtain ⟨c1, c2, c3⟩ := c
          intro v m' H' g rv rh'
          unfold RepV at rv
          obtain ⟨a, ha, rfl⟩ := rv
          have r1 := rh.cut rh' g (take_same c2)
          rw [c2] at r1
          have ro : RepO K (m ++ [a]) H' a ob := (rh'.at_ l a ob ha e).free c3
          have hn : a ∉ m := fun hm => by
            obtain ⟨⟨q, rfl⟩, _, _⟩ := g
            obtain ⟨i, hi⟩ := List.mem_iff_getElem?.mp hm
            obtain ⟨hl, e1⟩ := List.getElem?_eq_some_iff.mp hi
            have hi' : (m ++ q)[i]? = some a := by rw [List.getElem?_append_left hl]; exact hi
            obtain ⟨q1, e1⟩ := List.getElem?_eq_some_iff.mp hi'
            obtain ⟨q2, e2⟩ := List.getElem?_eq_some_iff.mp ha
            have := (List.getElem_inj rh'.nd).mp (e1.trans e2.symm)
            have := rh.len
            omega
          refine o (.ref a) (m ++ [a]) H' ⟨⟨[a], rfl⟩, g.tup, g.frz, g.ext⟩ (by unfold RepV; exact ⟨a, by rw [← rh.len]; simp, rfl⟩) ⟨by simp [rh.len], ?_, fun i b ob' hi hb => ?_⟩
          · exact List.nodup_append.mpr ⟨r1.nd, by simp, fun x hx y hy z => hn (by simp at hy; rw [← hy, ← z]; exact hx)⟩
          · by_cases hl : i < m.length
            · rw [List.getElem?_append_left hl] at hi
              rw [List.getElem?_append_left (by rw [← rh.len]; exact hl)] at hb
              exact (r1.at_ i b ob' hi hb).keep ⟨⟨[a], rfl⟩, fun _ _ z => z, fun _ _ _ z => z, fun _ _ z => z⟩ rfl
            · have hz : i = m.length := by
                obtain ⟨q, _⟩ := List.getElem?_eq_some_iff.mp hi
                simp at q; omega
              subst hz
              simp at hi
              rw [rh.len] at hb
              simp at hb
              subst hi hb
              exact ro
        · exact o.elim
    | _ => exact (show False from o).elim
  | exc c h' =>
    rw [q] at o
    simp only at o
    split at o
    · rename_i e
      intro m' H' g rh'
      have := rh.cut rh' g (take_same e)
      rw [e] at this
      exact o m H' g.cut this
    · exact o.elim
  | bad => rw [q] at o; exact o
end
/-- a kind of end -/
structure Nrm where
  f : Fm → Fm
  ok : ∀ (K : PySem.W.Frag) (m : List Addr) (H : Hp) (Q : VK) (E : XK) (φ : Fm) (xs : List D) (h : Hs), RepH K m H h → OutC K m H Q E (f φ xs h) → OutC K m H Q E (φ xs h)
  ar : ∀ (φ : Fm) (n : Nat), (∀ xs h, xs.length ≠ n → φ xs h = .bad) → ∀ xs h, xs.length ≠ n → f φ xs h = .bad
noncomputable def kPure : Nrm := ⟨nPure, fun _ _ _ _ _ _ _ _ => nPure_ok, fun φ n a xs h l => by unfold nPure; rw [a xs h l]⟩
noncomputable def kNew : Nrm := ⟨nNew, fun _ _ _ _ _ _ _ _ => nNew_ok, fun φ n a xs h l => by unfold nNew; rw [a xs h l]⟩
def kRaw : Nrm := ⟨fun φ => φ, fun _ _ _ _ _ _ _ _ _ o => o, fun _ _ a => a⟩
def startD (nN : Nat) (xs : List D) : Sl := xs.map some ++ List.replicate (nN - xs.length) none
def runM (np nN : Nat) (M : SM) : Fm := fun xs h => if xs.length = np then (match M (startD nN xs) h with
  | .nx _ h => .ok .non h
  | .rt d h => .ok d h
  | .exc c _ h => .exc c h
  | _ => .bad) else .bad
theorem runM_ar (np nN : Nat) (M : SM) : ∀ xs h, xs.length ≠ np → runM np nN M xs h = .bad := fun xs h l => if_neg l
theorem repS_start {K : PySem.W.Frag} {m : List Addr} {H : Hp} {N : List Str} : ∀ {xs : List D} {vs : List V}, RepL K m H xs vs → RepS K m H (startD N.length xs) (start N vs) := by
  intro xs vs r
  have rep : ∀ n : Nat, RepS K m H (List.replicate n none) (List.replicate n none) := fun n => by
    induction n with
    | zero => exact trivial
    | succ n ih => exact ⟨fun d e => (nomatch e), ih⟩
  have gen : ∀ (n : Nat) (xs : List D) (vs : List V), RepL K m H xs vs → RepS K m H (xs.map some ++ List.replicate n none) (vs.map some ++ List.replicate n none) := by
    intro n xs
    induction xs with
    | nil => intro vs r; unfold RepL at r; subst r; exact rep n
    | cons x xs ih =>
      intro vs r
      unfold RepL at r
      obtain ⟨v, vr, rfl, h1, h2⟩ := r
      exact ⟨fun d e => by cases e; exact ⟨v, rfl, h1⟩, ih vr h2⟩
  unfold startD L2.start
  rw [r.length]
  exact gen _ xs vs r
section
variable {P : Program} {w : World} {K : PySem.W.Frag} {mg : Str → Option Value} {base : Heap} {x qual : Str} {params : Arguments} {body : List Stmt} {scope : Scope} {f : Addr} {fd : FuncData}
theorem def_ok {N ps : List Str} {k : Nat} {M : SM} (kd : Nrm) (F : FunD K x qual params body scope [] [] f fd) (S : FnScope N ps scope)
    (hb : ∀ (cdv : Value) (A : Around) (outer : List Env) (s : Shared) (H : Hp) (E : XK) (W : WX), Room k (A.deeper (envOfC qual scope s.heap.objs.size f cdv)) → Takes (cxOf (L2.CX P w) P w K mg base N qual scope f cdv A outer s H E) W →
      PSs (cxOf (L2.CX P w) P w K mg base N qual scope f cdv A outer s H E) body (tS ⟨K, W⟩ M)) : FnOk P w K mg base (L2.CX P w) (k + 1) f fd ps (spM K ps.length (kd.f (runM ps.length N.length M))) := by
  refine F.ok S (fun vs H Q E h => h.1) fun cdv A outer s H vs Q E hr h => ?_
  obtain ⟨hl, m, ds, hs, rl, rh, o⟩ := h
  have o := kd.ok K m H Q E _ ds hs rh o
  refine ⟨_, hb cdv A outer s H E (fun cls d _ H => E cls d H) hr (takes_of rfl rfl rfl rfl), m, startD N.length ds, hs, repS_start rl, rh, ?_⟩
  unfold runM at o
  rw [if_pos (by rw [← rl.length]; exact hl)] at o
  cases q : M (startD N.length ds) hs with
  | nx ds1 h1 => rw [q] at o; exact fun σ' m' H' g r rh' => o .non m' H' g (by unfold RepV; rfl) rh'
  | rt d h1 => rw [q] at o; exact fun v m' H' g r rh' => o v m' H' g r rh'
  | exc c ds1 h1 => rw [q] at o; exact fun σ' m' H' g r rh' => o m' H' g rh'
  | bk ds1 h1 => rw [q] at o; exact o.elim
  | ct ds1 h1 => rw [q] at o; exact o.elim
  | bad => rw [q] at o; exact o.elim
/-- nothing is told at level 0 -/
theorem fnAt_zero {ps : List Str} (F : FunD K x qual params body scope [] [] f fd) (hm : mg x = some (.ref f)) (hb : Binds K fd ps []) : FnAt P w K mg base 0 x ps fun _ _ => .bad :=
  ⟨⟨f, fd, hm, F.kp, hb, ⟨fun vs H Q E h => h.1, fun A outer s H args us vs Q E _ _ _ _ h => by obtain ⟨_, m, ds, hs, _, _, o⟩ := h; exact o.elim⟩⟩, fun _ _ _ => rfl⟩
end
end DV
namespace DV
open PySem PySem.Spec PyProof.Rows L2
def intF (g : Int → Int → Option D) : VF2
  | .int i, .int j, h => (g i j).map fun d => (d, h)
  | _, _, _ => none
theorem intF_inv {g : Int → Int → Option D} {x y : D} {h : Hs} {p : D × Hs} (e : intF g x y h = some p) : ∃ i j d, x = .int i ∧ y = .int j ∧ g i j = some d ∧ p = (d, h) := by
  unfold intF at e
  split at e
  · rename_i i j
    cases q : g i j with
    | none => rw [q] at e; cases e
    | some d => rw [q] at e; exact ⟨i, j, d, rfl, rfl, q, (Option.some.inj e).symm⟩
  · cases e
def ipF (C : Int → Int → Bool) (g : Int → Int → Int) : VF2 := intF fun i j => if C i j = true then some (.int (g i j)) else none
def cmpF (p : Int → Int → Bool) : VF2 := intF fun i j => some (.bl (p i j))
noncomputable def cMul (i j : Int) : Bool := cB ((-18446744073709551616 < i ∧ i < 18446744073709551616) ∨ (-18446744073709551616 < j ∧ j < 18446744073709551616))
noncomputable def cDiv (_ j : Int) : Bool := cB (0 < j ∧ j < 1073741824)
noncomputable def cMod (_ j : Int) : Bool := cB (0 < j)
noncomputable def cPow (i j : Int) : Bool := cB (0 ≤ j ∧ j ≤ 1000000 ∧ i.natAbs < 18446744073709551616)
def subF : VF2 := ipF (fun _ _ => true) fun i j => i - j
noncomputable def fdivF : VF2 := ipF cDiv fun i j => i / j
noncomputable def modF : VF2 := ipF cMod fun i j => i % j
noncomputable def powF : VF2 := ipF cPow fun i j => i ^ j.toNat
def ltF : VF2 := cmpF fun i j => decide (i < j)
def gtF : VF2 := cmpF fun i j => decide (j < i)
def geF : VF2 := cmpF fun i j => decide (j ≤ i)
def negF : D → Hs → Res
  | .int i, h => some (.int (-i), h)
  | _, _ => none
section
variable {X : Cx} {K : PySem.W.Frag} {f : Value → Value → Sem Value}
theorem ip_ok {C : Int → Int → Bool} {P : Int → Int → Prop} {g : Int → Int → Int} (op : OpR X f (rI P fun i j => .int (g i j))) (hc : ∀ i j, C i j = true → P i j) : OpR X f (rV K (ipF C g)) := by
  intro pns s σ H x y v u Q I rx ry h
  obtain ⟨m, hs, dx, dy, r1, r2, rh, o⟩ := h
  cases e : ipF C g dx dy hs with
  | none => rw [e] at o; exact o.elim
  | some p =>
    rw [e] at o
    obtain ⟨i, j, d, rfl, rfl, q, rfl⟩ := intF_inv e
    unfold RepV at r1 r2
    subst r1 r2
    split at q
    · rename_i c
      cases q
      exact op pns s σ H _ _ v u Q I rx ry ⟨i, j, rfl, rfl, hc i j c, o _ m H (.refl _ _) (by unfold RepV; rfl) rh⟩
    · cases q
theorem cmp_ok {p : Int → Int → Bool} (op : OpR X f (rI0 fun i j => .bl (p i j))) : OpR X f (rV K (cmpF p)) := by
  intro pns s σ H x y v u Q I rx ry h
  obtain ⟨m, hs, dx, dy, r1, r2, rh, o⟩ := h
  cases e : cmpF p dx dy hs with
  | none => rw [e] at o; exact o.elim
  | some q =>
    rw [e] at o
    obtain ⟨i, j, d, rfl, rfl, q, rfl⟩ := intF_inv e
    unfold RepV at r1 r2
    subst r1 r2
    cases q
    exact op pns s σ H _ _ v u Q I rx ry ⟨i, j, rfl, rfl, o _ m H (.refl _ _) (by unfold RepV; rfl) rh⟩
theorem o_sub : OpR X (binaryOp .Sub) (rV K subF) := ip_ok (P := fun _ _ => True) (fun pns s σ H x y v u Q I rx ry ⟨i, j, e1, e2, _, q⟩ => op_sub pns s σ H x y v u Q I rx ry ⟨i, j, e1, e2, q⟩) fun _ _ _ => trivial
theorem o_fdiv : OpR X (binaryOp .FloorDiv) (rV K fdivF) := ip_ok op_fdiv fun i j h => cB_iff.mp h
theorem o_mod : OpR X (binaryOp .Mod) (rV K modF) := ip_ok op_mod fun i j h => cB_iff.mp h
theorem o_pow : OpR X (binaryOp .Pow) (rV K powF) := ip_ok op_pow fun i j h => cB_iff.mp h
theorem o_lt : OpR X (compareOp .Lt) (rV K ltF) := cmp_ok op_lt
theorem o_gt : OpR X (compareOp .Gt) (rV K gtF) := cmp_ok op_gt
theorem o_ge : OpR X (compareOp .GtE) (rV K geF) := cmp_ok op_ge
end
theorem em_neg {X : Cx} {g : Cfg} {a : Expr} {A : EM} {pos : Pos} (ha : PE X a (tM g A)) : PE X (.UnaryOp .USub a pos) (tM g (unM negF A)) := by
  refine PE.weak (pe_un un_neg ha) fun σ H Q ⟨m, ds, h, hs, rh, o⟩ => ⟨m, ds, h, hs, rh, OutE.toE o fun d h1 v m1 H1 g1 r1 rh1 o1 => ?_⟩
  cases d with
  | int i => unfold RepV at r1; exact ⟨i, r1, o1 _ m1 H1 (.refl _ _) (by unfold RepV; rfl) rh1⟩
  | _ => exact (show False from o1).elim
def addF : VF2
  | .int i, .int j, h => some (.int (i + j), h)
  | .str a, .str b, h => if a.length + b.length ≤ LIM then some (.str (a ++ b), h) else none
  | .tup xs, .tup ys, h => if xs.length + ys.length ≤ LIM then some (.tup (xs ++ ys), h) else none
  | .loc a, .loc b, h => match h[a]?, h[b]? with
    | some (.lst xs), some (.lst ys) => if xs.length + ys.length ≤ LIM then some (.loc h.length, h ++ [.lst (xs ++ ys)]) else none
    | _, _ => none
  | .ro ns, .loc b, h => match h[b]? with
    | some (.lst ys) => if ns.length + ys.length ≤ LIM then some (.loc h.length, h ++ [.lst (ns.map D.int ++ ys)]) else none
    | _ => none
  | _, _, _ => none
section
variable {X : Cx} {K : PySem.W.Frag}
/-- list + list, read at any list -/
theorem op_catL : OpR X (binaryOp .Add) (fun x y H Q => ∃ l b xs zs, x = .ref l ∧ y = .ref b ∧ SqL X.K H l xs ∧ SqL X.K H b zs ∧ xs.length + zs.length ≤ sizeLine ∧ ∀ p, H p = none → Q (.ref p) (upd H p (.lst (xs ++ zs)))) := by
  intro pns s σ H x y v u Q I rx ry h
  obtain ⟨l, b, xs, zs, rfl, rfl, hH, hB, hz, q⟩ := h
  cases rx
  cases ry
  obtain ⟨its, r, pl, z⟩ := I.list hH
  obtain ⟨its2, r2, pl2, z2⟩ := I.list hB
  have hl := r.length
  have hl2 := r2.length
  obtain ⟨⟨cls, dd, data, sl⟩, ho, hc, n, hd⟩ := pl.isList
  obtain ⟨⟨cls2, dd2, data2, sl2⟩, ho2, hc2, n2, hd2⟩ := pl2.isList
  simp only at hc hd hc2 hd2
  subst hc hd hc2 hd2
  have e : its.toArray ++ its2.toArray = (its ++ its2).toArray := by simp
  refine concat_meets ⟨_, ho, rfl⟩ ⟨_, ho2, rfl⟩ noFill_list_add seq_list_add PySem.F.slot_list_add PySem.F.entry_list_add (PySem.F.args_list_add_2 _ _) (list_addW l b its.toArray its2.toArray n n2 dd dd2 sl sl2 (by simp only [List.size_toArray]; omega)) ⟨ho, ho2, ?_⟩
  rw [e]
  exact ⟨.ref _, _, I.lnew (t' := s.toks) (r.append r2) (by rw [List.length_append]; omega), rfl, q _ I.fresh⟩
theorem repL_ints {m : List Addr} {H : Hp} : ∀ ns : List Int, RepL K m H (ns.map D.int) (ns.map V.int)
  | [] => RepL.nil
  | n :: ns => .cons (by unfold RepV; rfl) (repL_ints ns)
/-- a list told, at its number -/
theorem new_lst' {m : List Addr} {H : Hp} {h : Hs} {xs : List D} {vs : List V} {p : Addr} {Q : VK} (rl : RepL K m H xs vs) (rh : RepH K m H h) (hp : H p = none) (o : OutV K m H Q (some (.loc h.length, h ++ [.lst xs]))) : Q (.ref p) (upd H p (.lst vs)) :=
  let ⟨q1, q2⟩ := new_lst (g := ⟨K, fun _ _ _ _ => False⟩) rl rh hp
  o _ _ _ (.app hp) q1 q2
theorem LIM_eq : sizeLine = LIM := sizeLine_eq
theorem o_add : OpR X (binaryOp .Add) (rV X.K addF) := by
  intro pns s σ H x y v u Q I rx ry h
  obtain ⟨m, hs, dx, dy, r1, r2, rh, o⟩ := h
  unfold addF at o
  split at o
  · unfold RepV at r1 r2
    subst r1 r2
    exact op_add pns s σ H _ _ v u Q I rx ry ⟨_, _, rfl, rfl, o _ m H (.refl _ _) (by unfold RepV; rfl) rh⟩
  · unfold RepV at r1 r2
    subst r1 r2
    split at o
    · rename_i hz
      exact op_add_str pns s σ H _ _ v u Q I rx ry ⟨_, _, rfl, rfl, by rw [LIM_eq]; exact hz, o _ m H (.refl _ _) (by unfold RepV; rfl) rh⟩
    · exact o.elim
  · unfold RepV at r1 r2
    obtain ⟨a, vs, rfl, ha, rl⟩ := r1
    obtain ⟨b, ws, rfl, hb, rl2⟩ := r2
    split at o
    · rename_i hz
      refine op_catA pns s σ H _ _ v u Q I rx ry ⟨a, b, vs, ws, rfl, rfl, SqT.of ha, SqT.of hb, by rw [LIM_eq, rl.length, rl2.length]; exact hz, fun e => ?_, fun e1 e => ?_, fun _ _ p hp => ?_⟩
      · have := rl.nil_iff.mp e
        subst this
        exact o _ m H (.refl _ _) (by unfold RepV; exact ⟨b, ws, rfl, hb, rl2⟩) rh
      · have := rl2.nil_iff.mp e
        subst this
        refine o _ m H (.refl _ _) ?_ rh
        show RepV X.K m H (.tup (_ ++ [])) _
        rw [List.append_nil]
        unfold RepV
        exact ⟨a, vs, rfl, ha, rl⟩
      · exact o _ m _ (.put hp) (by unfold RepV; exact ⟨p, _, rfl, upd_same, (rl.append rl2).mono (.put hp)⟩) (rh.put hp)
    · exact o.elim
  · unfold RepV at r1 r2
    obtain ⟨a, ha, rfl⟩ := r1
    obtain ⟨b, hb, rfl⟩ := r2
    split at o
    · rename_i xs ys e1 e2
      obtain ⟨vs, hv, rl⟩ := rh.lst ha e1
      obtain ⟨ws, hw, rl2⟩ := rh.lst hb e2
      split at o
      · rename_i hz
        exact op_catL pns s σ H _ _ v u Q I rx ry ⟨a, b, vs, ws, rfl, rfl, SqL.of hv, SqL.of hw, by rw [LIM_eq, rl.length, rl2.length]; exact hz, fun p hp => new_lst' (rl.append rl2) rh hp o⟩
      · exact o.elim
    · exact o.elim
  · unfold RepV at r1 r2
    obtain ⟨a, rfl, ha⟩ := r1
    obtain ⟨b, hb, rfl⟩ := r2
    split at o
    · rename_i ys e2
      obtain ⟨ws, hw, rl2⟩ := rh.lst hb e2
      split at o
      · rename_i hz
        exact op_catL pns s σ H _ _ v u Q I rx ry ⟨a, b, _, ws, rfl, rfl, ha.sq, SqL.of hw, by rw [LIM_eq, List.length_map, rl2.length]; exact hz, fun p hp => new_lst' ((repL_ints _).append rl2) rh hp o⟩
      · exact o.elim
    · exact o.elim
  · exact o.elim
/-- a text n times -/
def repS (z : Str) (n : Nat) : Str := ⟨((List.replicate n z.cps.toList).flatten).toArray⟩
theorem rep_fold (l : List Nat) : ∀ (k : Nat) (acc : List Nat), (List.replicate k l.toArray).foldl (fun p q => p ++ q) acc.toArray = (acc ++ (List.replicate k l).flatten).toArray
  | 0, acc => by simp
  | k + 1, acc => by
    have ih := rep_fold l k (acc ++ l)
    have e : acc.toArray ++ l.toArray = (acc ++ l).toArray := by simp
    rw [List.replicate_succ, List.foldl_cons, e, ih, List.replicate_succ, List.flatten_cons, List.append_assoc]
theorem rep_len (l : List Nat) (k : Nat) : (List.replicate k l).flatten.length = l.length * k := by
  induction k with
  | zero => simp
  | succ k ih => rw [List.replicate_succ, List.flatten_cons, List.length_append, ih, Nat.mul_succ, Nat.add_comm]
noncomputable def mulF : VF2
  | .int i, .int j, h => if cMul i j = true then some (.int (i * j), h) else none
  | .str z, .int j, h => if cB (-1000000 ≤ j ∧ j ≤ 1000000 ∧ z.length ≤ 1000000 ∧ z.length * j.toNat ≤ LIM) = true then some (.str (repS z j.toNat), h) else none
  | _, _, _ => none
theorem mul_strD {A : Around} {E : Value → Shared → Prop} {P : Program} {w : World} {s : Shared} {z : Str} {j : Int} {t u : Tok} {Q : Value → Shared → Prop} (c1 : -1000000 ≤ j) (c2 : j ≤ 1000000) (c3 : z.length ≤ 1000000) (c4 : z.length * j.toNat ≤ LIM)
    (q : ∀ t' tk, Q (.str (repS z j.toNat) t') { s with toks := tk }) : wpAny (model P w) A (binaryOp .Mult (.str z t) (.int j u)) Q E s := by
  have hz : z.length = z.cps.toList.length := by rw [Array.length_toList]; rfl
  refine PySem.P.mul_str (by rw [decide_eq_false (by omega), decide_eq_false (by omega)]; rfl) (fun h1 h2 h3 => ?_) (fun h1 h2 => ?_) ?_
  · have h5 : (1000000 : Int) ≤ (2 ^ 63 - 1) / j := (Int.le_ediv_iff_mul_le (by omega)).mpr (by omega)
    omega
  · show decide (_ > sizeLine) = false
    rw [LIM_eq]
    exact decide_eq_false (by omega)
  · have e1 : sizeLine = LIM := LIM_eq
    by_cases h1 : j < 1
    · rw [if_pos h1]
      have : j.toNat = 0 := by omega
      rw [this] at q
      exact ⟨by rw [e1]; decide, q _ _⟩
    · rw [if_neg h1]
      by_cases h2 : (j == 1 || z.length == 0) = true
      · rw [if_pos h2]
        have er : repS z j.toNat = z := by
          rcases Bool.or_eq_true_iff.mp h2 with h | h
          · have : j = 1 := eq_of_beq h
            subst this
            show (⟨((List.replicate 1 z.cps.toList).flatten).toArray⟩ : Str) = z
            simp
          · have h : z.length = 0 := eq_of_beq h
            have hl : z.cps.toList = [] := List.eq_nil_of_length_eq_zero (by omega)
            have hn : z.cps = #[] := Array.toList_inj.mp hl
            cases z with
            | mk cps => subst hn; unfold repS; simp
        have := q t s.toks
        rw [er] at this
        exact this
      · rw [if_neg h2]
        have ef : (List.replicate j.toNat z.cps).foldl (fun p q => p ++ q) #[] = ((List.replicate j.toNat z.cps.toList).flatten).toArray := by
          have := rep_fold z.cps.toList j.toNat []
          simpa using this
        refine ⟨?_, ?_⟩
        · rw [e1]
          show Array.size _ ≤ LIM
          rw [ef, List.size_toArray, rep_len, ← hz]
          exact c4
        · have := q s.toks (s.toks + 1)
          unfold repS at this
          rw [← ef] at this
          exact this
theorem o_mul : OpR X (binaryOp .Mult) (rV K mulF) := by
  intro pns s σ H x y v u Q I rx ry h
  obtain ⟨m, hs, dx, dy, r1, r2, rh, o⟩ := h
  unfold mulF at o
  split at o
  · unfold RepV at r1 r2
    subst r1 r2
    split at o
    · rename_i c
      refine op_mul pns s σ H _ _ v u Q I rx ry ⟨_, _, rfl, rfl, ?_, o _ m H (.refl _ _) (by unfold RepV; rfl) rh⟩
      exact cB_iff.mp c
    · exact o.elim
  · unfold RepV at r1 r2
    subst r1 r2
    split at o
    · rename_i c
      have c := cB_iff.mp c
      obtain ⟨t, rfl⟩ := rx
      obtain ⟨t', rfl⟩ := ry
      exact mul_strD c.1 c.2.1 c.2.2.1 c.2.2.2 fun t' tk => ⟨.str _, H, I.tok _, ⟨_, rfl⟩, o _ m H (.refl _ _) (by unfold RepV; rfl) rh⟩
    · exact o.elim
  · exact o.elim
end
mutual
/-- texts, numbers, None, and tuples of them -/
def pyOk : D → Bool
  | .non => true
  | .int _ => true
  | .str s => PyData.strOk s
  | .tup ds => pyOkL ds
  | .bl _ => false
  | .loc _ => false
  | .ro _ => false
  | .exn _ => false
def pyOkL : List D → Bool
  | [] => true
  | d :: ds => pyOk d && pyOkL ds
end
mutual
def depD : D → Nat
  | .tup ds => depL ds + 1
  | .non => 0
  | .int _ => 0
  | .str _ => 0
  | .bl _ => 0
  | .loc _ => 0
  | .ro _ => 0
  | .exn _ => 0
def depL : List D → Nat
  | [] => 0
  | d :: ds => max (depD d) (depL ds)
end
mutual
def toPy : D → PyData
  | .non => .none
  | .int i => .int i
  | .str s => .str s
  | .tup ds => .tuple (toPyL ds)
  | .bl b => .bool b
  | .loc _ => .none
  | .ro _ => .none
  | .exn _ => .none
def toPyL : List D → List PyData
  | [] => []
  | d :: ds => toPy d :: toPyL ds
end
mutual
theorem canLay_of : ∀ {d : D}, pyOk d = true → (toPy d).canLay0 = true
  | .non, _ => rfl
  | .int _, _ => rfl
  | .str s, k => by unfold pyOk at k; exact k
  | .tup ds, k => by unfold pyOk at k; exact canLay_ofL k
  | .bl _, _ => rfl
  | .loc _, _ => rfl
  | .ro _, _ => rfl
  | .exn _, _ => rfl
theorem canLay_ofL : ∀ {ds : List D}, pyOkL ds = true → PyData.canLayAll0 (toPyL ds) = true
  | [], _ => rfl
  | d :: ds, k => by
    unfold pyOkL at k
    obtain ⟨k1, k2⟩ := Bool.and_eq_true_iff.mp k
    show ((toPy d).canLay0 && PyData.canLayAll0 (toPyL ds)) = true
    rw [canLay_of k1, canLay_ofL k2]; rfl
end
mutual
theorem dep_toPy : ∀ d : D, (toPy d).depth = depD d
  | .non => rfl
  | .int _ => rfl
  | .str _ => rfl
  | .tup ds => by
    show PyData.depthAll (toPyL ds) + 1 = depL ds + 1
    rw [dep_toPyL ds]
  | .bl _ => rfl
  | .loc _ => rfl
  | .ro _ => rfl
  | .exn _ => rfl
theorem dep_toPyL : ∀ ds : List D, PyData.depthAll (toPyL ds) = depL ds
  | [] => rfl
  | d :: ds => by
    show max (toPy d).depth (PyData.depthAll (toPyL ds)) = max (depD d) (depL ds)
    rw [dep_toPy d, dep_toPyL ds]
end
mutual
theorem eqv_iff : ∀ {d e : D}, pyOk d = true → pyOk e = true → (PyData.eqv (toPy d) (toPy e) = true ↔ d = e)
  | .non, .non, _, _ => by simp [toPy, PyData.eqv]
  | .int i, .int j, _, _ => by simp [toPy, PyData.eqv]
  | .str i, .str j, _, _ => by simp [toPy, PyData.eqv]
  | .tup ds, .tup es, k1, k2 => by
    unfold pyOk at k1 k2
    have := eqv_iffL k1 k2
    simp only [toPy, PyData.eqv, D.tup.injEq]
    exact this
  | .non, .int _, _, _ => by simp [toPy, PyData.eqv]
  | .non, .str _, _, _ => by simp [toPy, PyData.eqv]
  | .non, .tup _, _, _ => by simp [toPy, PyData.eqv]
  | .int _, .non, _, _ => by simp [toPy, PyData.eqv]
  | .int _, .str _, _, _ => by simp [toPy, PyData.eqv]
  | .int _, .tup _, _, _ => by simp [toPy, PyData.eqv]
  | .str _, .non, _, _ => by simp [toPy, PyData.eqv]
  | .str _, .int _, _, _ => by simp [toPy, PyData.eqv]
  | .str _, .tup _, _, _ => by simp [toPy, PyData.eqv]
  | .tup _, .non, _, _ => by simp [toPy, PyData.eqv]
  | .tup _, .int _, _, _ => by simp [toPy, PyData.eqv]
  | .tup _, .str _, _, _ => by simp [toPy, PyData.eqv]
  | .bl _, _, k, _ => by unfold pyOk at k; cases k
  | .loc _, _, k, _ => by unfold pyOk at k; cases k
  | .ro _, _, k, _ => by unfold pyOk at k; cases k
  | .exn _, _, k, _ => by unfold pyOk at k; cases k
  | _, .bl _, _, k => by unfold pyOk at k; cases k
  | _, .loc _, _, k => by unfold pyOk at k; cases k
  | _, .ro _, _, k => by unfold pyOk at k; cases k
  | _, .exn _, _, k => by unfold pyOk at k; cases k
theorem eqv_iffL : ∀ {ds es : List D}, pyOkL ds = true → pyOkL es = true → (PyData.eqvAll (toPyL ds) (toPyL es) = true ↔ ds = es)
  | [], [], _, _ => by simp [toPyL, PyData.eqvAll]
  | [], _ :: _, _, _ => by simp [toPyL, PyData.eqvAll]
  | _ :: _, [], _, _ => by simp [toPyL, PyData.eqvAll]
  | d :: ds, e :: es, k1, k2 => by
    unfold pyOkL at k1 k2
    obtain ⟨a1, a2⟩ := Bool.and_eq_true_iff.mp k1
    obtain ⟨b1, b2⟩ := Bool.and_eq_true_iff.mp k2
    show (PyData.eqv (toPy d) (toPy e) && PyData.eqvAll (toPyL ds) (toPyL es)) = true ↔ _
    rw [Bool.and_eq_true_iff, eqv_iff a1 b1, eqv_iffL a2 b2, List.cons.injEq]
end
mutual
def pyW (φ : Nat → Option PyData) : D → Option PyData
  | .non => some .none
  | .bl b => some (.bool b)
  | .int i => some (.int i)
  | .str s => some (.str s)
  | .tup ds => (pyWL φ ds).map .tuple
  | .loc l => φ l
  | .ro ns => some (.list (ns.map .int))
  | .exn _ => none
def pyWL (φ : Nat → Option PyData) : List D → Option (List PyData)
  | [] => some []
  | d :: ds => (pyW φ d).bind fun p => (pyWL φ ds).map fun ps => p :: ps
end
def pyLoc : Nat → Hs → Nat → Option PyData
  | 0, _, _ => none
  | n + 1, h, l => match h[l]? with
    | some (.lst ds) => (pyWL (pyLoc n h) ds).map .list
    | _ => none
def pyH (h : Hs) (d : D) : Option PyData := pyW (pyLoc 4 h) d
section
variable {K : PySem.W.Frag} {m : List Addr} {H : Hp}
theorem dp_ints : ∀ ns : List Int, DpAll K H (ns.map V.int) (ns.map .int)
  | [] => .nil
  | n :: ns => .cons (.int n) (dp_ints ns)
mutual
theorem pyW_dp {φ : Nat → Option PyData} (hφ : ∀ l p v, φ l = some p → RepV K m H (.loc l) v → Dp K H v p) : ∀ {d : D} {v : V} {p : PyData}, pyW φ d = some p → RepV K m H d v → Dp K H v p
  | .non, _, _, e, r => by unfold RepV at r; subst r; cases e; exact .non
  | .bl b, _, _, e, r => by unfold RepV at r; subst r; cases e; exact .bl b
  | .int i, _, _, e, r => by unfold RepV at r; subst r; cases e; exact .int i
  | .str s, _, _, e, r => by unfold RepV at r; subst r; cases e; exact .str s
  | .tup ds, _, _, e, r => by
    unfold RepV at r
    obtain ⟨a, xs, rfl, ha, rl⟩ := r
    unfold pyW at e
    cases q : pyWL φ ds with
    | none => rw [q] at e; cases e
    | some ps => rw [q] at e; cases e; exact .tup (SqT.of ha) (pyWL_dp hφ q rl)
  | .loc l, _, _, e, r => hφ _ _ _ (by unfold pyW at e; exact e) r
  | .ro ns, _, _, e, r => by
    unfold RepV at r
    obtain ⟨a, rfl, q⟩ := r
    cases e
    exact .lst q.sq (dp_ints ns)
  | .exn _, _, _, e, _ => by cases e
theorem pyWL_dp {φ : Nat → Option PyData} (hφ : ∀ l p v, φ l = some p → RepV K m H (.loc l) v → Dp K H v p) : ∀ {ds : List D} {vs : List V} {ps : List PyData}, pyWL φ ds = some ps → RepL K m H ds vs → DpAll K H vs ps
  | [], _, _, e, r => by unfold RepL at r; subst r; cases e; exact .nil
  | d :: ds, _, _, e, r => by
    unfold RepL at r
    obtain ⟨x, xs, rfl, r1, r2⟩ := r
    unfold pyWL at e
    cases q1 : pyW φ d with
    | none => rw [q1] at e; cases e
    | some p =>
      cases q2 : pyWL φ ds with
      | none => rw [q1, q2] at e; cases e
      | some ps => rw [q1, q2] at e; cases e; exact .cons (pyW_dp hφ q1 r1) (pyWL_dp hφ q2 r2)
end
theorem pyLoc_dp {h : Hs} (rh : RepH K m H h) : ∀ (n l : Nat) (p : PyData) (v : V), pyLoc n h l = some p → RepV K m H (.loc l) v → Dp K H v p
  | 0, _, _, _, e, _ => by cases e
  | n + 1, l, p, v, e, r => by
    unfold RepV at r
    obtain ⟨a, ha, rfl⟩ := r
    unfold pyLoc at e
    cases q : h[l]? with
    | none => rw [q] at e; cases e
    | some o =>
      rw [q] at e
      cases o with
      | lst ds =>
        simp only at e
        obtain ⟨vs, hv, rl⟩ := rh.lst ha q
        cases q2 : pyWL (pyLoc n h) ds with
        | none => rw [q2] at e; cases e
        | some ps => rw [q2] at e; cases e; exact .lst (SqL.of hv) (pyWL_dp (fun l p v => pyLoc_dp rh n l p v) q2 rl)
      | _ => cases e
theorem pyH_dp {h : Hs} (rh : RepH K m H h) {d : D} {v : V} {p : PyData} (e : pyH h d = some p) (r : RepV K m H d v) : Dp K H v p := pyW_dp (fun l p v => pyLoc_dp rh 4 l p v) e r
end
mutual
theorem pyW_of (φ : Nat → Option PyData) : ∀ {d : D}, pyOk d = true → pyW φ d = some (toPy d)
  | .non, _ => rfl
  | .int _, _ => rfl
  | .str _, _ => rfl
  | .tup ds, k => by
    unfold pyOk at k
    unfold pyW toPy
    rw [pyWL_of φ k]; rfl
  | .bl _, _ => rfl
  | .loc _, k => by unfold pyOk at k; cases k
  | .ro _, k => by unfold pyOk at k; cases k
  | .exn _, k => by unfold pyOk at k; cases k
theorem pyWL_of (φ : Nat → Option PyData) : ∀ {ds : List D}, pyOkL ds = true → pyWL φ ds = some (toPyL ds)
  | [], _ => rfl
  | d :: ds, k => by
    unfold pyOkL at k
    obtain ⟨a, b⟩ := Bool.and_eq_true_iff.mp k
    unfold pyWL toPyL
    rw [pyW_of φ a, pyWL_of φ b]; rfl
end
/-- two lists of different lengths -/
def lenNe (d e : D) (h : Hs) : Bool := match d, e with
  | .loc a, .loc b => (match h[a]?, h[b]? with
    | some (.lst xs), some (.lst ys) => decide (xs.length ≠ ys.length)
    | _, _ => false)
  | _, _ => false
/-- d == e, where it is told -/
noncomputable def eqB (d e : D) (h : Hs) : Option Bool := if lenNe d e h = true then some false else match pyH h d, pyH h e with
  | some p, some q => if p.canLay0 = true ∧ q.canLay0 = true ∧ p.depth ≤ 190 then some (PyData.eqv p q) else none
  | _, _ => none
noncomputable def eqF : VF2 := fun d e h => (eqB d e h).map fun b => (.bl b, h)
noncomputable def neF : VF2 := fun d e h => (eqB d e h).map fun b => (.bl (!b), h)
section
variable {X : Cx}
theorem decide_iff {p : Prop} {b : Bool} (h : b = true ↔ p) : b = @decide p (Classical.propDecidable p) := by
  letI := Classical.propDecidable p
  by_cases hp : p
  · rw [decide_eq_true hp, h.mpr hp]
  · rw [decide_eq_false hp]
    cases b with
    | true => exact absurd (h.mp rfl) hp
    | false => rfl
/-- both comparisons at once -/
theorem eq_core {pns : List (Addr × Obj)} {s : Shared} {σ : St} {H : Hp} {x y : V} {v u : Value} {m : List Addr} {hs : Hs} {dx dy : D} {b : Bool} (hu : X.A.units + 195 < cLine) (I : Inv X pns σ H s) (rx : RelV x v) (ry : RelV y u) (r1 : RepV X.K m H dx x) (r2 : RepV X.K m H dy y)
    (rh : RepH X.K m H hs) (e : eqB dx dy hs = some b) {Q : Value → Shared → Prop} {Q' : Value → Shared → Prop} {E : Value → Shared → Prop} (q : Q (.bool b) s) (q' : Q' (.bool (!b)) s) :
    wpAny (model X.prog X.w) X.A (compareOp .Eq v u) Q E s ∧ wpAny (model X.prog X.w) X.A (compareOp .NotEq v u) Q' E s := by
  unfold eqB at e
  split at e
  · rename_i c
    cases e
    unfold lenNe at c
    split at c
    · rename_i i j
      unfold RepV at r1 r2
      obtain ⟨a, ha, rfl⟩ := r1
      obtain ⟨c2, hc, rfl⟩ := r2
      split at c
      · rename_i xs ys e1 e2
        have hne := of_decide_eq_true c
        obtain ⟨vs, hv, rl⟩ := rh.lst ha e1
        obtain ⟨ws, hw, rl2⟩ := rh.lst hc e2
        cases rx; cases ry
        obtain ⟨its, r, pl, z⟩ := I.list (SqL.of hv)
        obtain ⟨its2, r2, pl2, z2⟩ := I.list (SqL.of hw)
        have hsz : (its.toArray.size != its2.toArray.size) = true := by
          have l1 := rl.length
          have l2 := rl2.length
          have l3 := r.length
          have l4 := r2.length
          simp only [List.size_toArray, bne_iff_ne, ne_eq]
          omega
        exact ⟨SeqAt.eq_list_lengthsAt pl.isList pl2.isList hsz (by omega) q, SeqAt.RcNeAt.lists_lengths pl.isList pl2.isList hsz (by omega) _ _ _ _ q'⟩
      · cases c
    · cases c
  · split at e
    · rename_i p p' e1 e2
      split at e
      · rename_i c
        obtain ⟨c1, c2, c3⟩ := c
        obtain ⟨as, q1⟩ := Dp.reads I _ x v (pyH_dp rh e1 r1) rx
        obtain ⟨bs, q2⟩ := Dp.reads I _ y u (pyH_dp rh e2 r2) ry
        have room : X.A.units + min p.depth p'.depth < cLine := by
          have : min p.depth p'.depth ≤ p.depth := Nat.min_le_left _ _
          omega
        have e3 : PyData.eqv p p' = b := Option.some.inj e
        exact ⟨SeqAt.compareEq_reads q1 q2 c1 c2 room (by rw [e3]; exact q), SeqAt.compareNe_reads q1 q2 c1 c2 room (by rw [e3]; exact q')⟩
      · cases e
    · cases e
theorem o_eq (hu : X.A.units + 195 < cLine) : OpR X (compareOp .Eq) (rV X.K eqF) := by
  intro pns s σ H x y v u Q I rx ry h
  obtain ⟨m, hs, dx, dy, r1, r2, rh, o⟩ := h
  unfold eqF at o
  cases e : eqB dx dy hs with
  | none => rw [e] at o; exact o.elim
  | some b =>
    rw [e] at o
    exact (eq_core (E := X.xe) (Q' := fun _ _ => True) hu I rx ry r1 r2 rh e ⟨.bl b, H, I, rfl, o _ m H (.refl _ _) (by unfold RepV; rfl) rh⟩ trivial).1
theorem o_ne (hu : X.A.units + 195 < cLine) : OpR X (compareOp .NotEq) (rV X.K neF) := by
  intro pns s σ H x y v u Q I rx ry h
  obtain ⟨m, hs, dx, dy, r1, r2, rh, o⟩ := h
  unfold neF at o
  cases e : eqB dx dy hs with
  | none => rw [e] at o; exact o.elim
  | some b =>
    rw [e] at o
    exact (eq_core (E := X.xe) (Q := fun _ _ => True) hu I rx ry r1 r2 rh e trivial ⟨.bl (!b), H, I, rfl, o _ m H (.refl _ _) (by unfold RepV; rfl) rh⟩).2
end
open Classical in
theorem eqB_of {d e : D} {h : Hs} (a : pyOk d = true) (b : pyOk e = true) (z : depD d ≤ 190) : eqB d e h = some (decide (d = e)) := by
  have n : lenNe d e h = false := by
    unfold lenNe
    split
    · unfold pyOk at a; cases a
    · rfl
  have e1 : pyH h d = some (toPy d) := pyW_of _ a
  have e2 : pyH h e = some (toPy e) := pyW_of _ b
  unfold eqB
  rw [n, if_neg Bool.false_ne_true, e1, e2]
  simp only
  rw [if_pos ⟨canLay_of a, canLay_of b, by rw [dep_toPy]; exact z⟩, decide_iff (eqv_iff a b)]
open Classical in
theorem eqB_lst {i j : Nat} {xs ys : List D} {h : Hs} (ei : h[i]? = some (.lst xs)) (ej : h[j]? = some (.lst ys)) (a : pyOkL xs = true) (b : pyOkL ys = true) (z : depL xs ≤ 189) : eqB (.loc i) (.loc j) h = some (decide (xs = ys)) := by
  unfold eqB lenNe
  simp only [ei, ej]
  split
  · rename_i c
    have c := of_decide_eq_true c
    rw [decide_eq_false fun e => c (by rw [e])]
  · have e1 : pyH h (.loc i) = some (.list (toPyL xs)) := by
      unfold pyH pyW pyLoc
      simp only [ei, pyWL_of _ a]; rfl
    have e2 : pyH h (.loc j) = some (.list (toPyL ys)) := by
      unfold pyH pyW pyLoc
      simp only [ej, pyWL_of _ b]; rfl
    rw [e1, e2]
    simp only
    have d1 : (PyData.list (toPyL xs)).depth = depL xs + 1 := by
      show PyData.depthAll (toPyL xs) + 1 = _
      rw [dep_toPyL]
    rw [if_pos ⟨canLay_ofL a, canLay_ofL b, by rw [d1]; omega⟩]
    congr 1
    show PyData.eqvAll (toPyL xs) (toPyL ys) = _
    rw [decide_iff (eqv_iffL a b)]
    congr
theorem eqB_len {i j : Nat} {xs ys : List D} {h : Hs} (ei : h[i]? = some (.lst xs)) (ej : h[j]? = some (.lst ys)) (c : xs.length ≠ ys.length) : eqB (.loc i) (.loc j) h = some false := by
  unfold eqB lenNe
  simp only [ei, ej]
  rw [if_pos (decide_eq_true c)]
end DV
namespace DV
open PySem PySem.Spec PyProof.Rows L2
section
variable {K : PySem.W.Frag} {m : List Addr} {H : Hp}
theorem RepL.at_ {ds : List D} {vs : List V} {i : Int} {d : D} (r : RepL K m H ds vs) (e : atI ds i = some d) : ∃ v, atI vs i = some v ∧ RepV K m H d v := by
  unfold atI at e ⊢
  rw [r.length]
  cases q : ixN ds.length i with
  | none => rw [q] at e; cases e
  | some j =>
    rw [q] at e
    obtain ⟨v, hv, rv⟩ := r.get e
    exact ⟨v, hv, rv⟩
end
def valD {κ : Type} [DecidableEq κ] (kvs : List (κ × D)) (k : κ) : Option D := (kvs.find? fun p => decide (p.1 = k)).map (·.2)
theorem kV_keyD {K : PySem.W.Frag} {m : List Addr} {H : Hp} {d : D} {v : V} {k : Key} (r : RepV K m H d v) (e : keyD d = some k) : v = kV k := by
  cases d with
  | int i => cases e; unfold RepV at r; exact r
  | str i => cases e; unfold RepV at r; exact r
  | _ => cases e
def keysD : List D → Option (List Key)
  | [] => some []
  | d :: ds => (keyD d).bind fun k => (keysD ds).map fun ks => k :: ks
theorem kV_keysD {K : PySem.W.Frag} {m : List Addr} {H : Hp} : ∀ {ds : List D} {vs : List V} {ks : List Key}, RepL K m H ds vs → keysD ds = some ks → vs = ks.map kV
  | [], vs, ks, r, e => by cases e; unfold RepL at r; exact r
  | d :: ds, vs, ks, r, e => by
    unfold RepL at r
    obtain ⟨x, xs, rfl, h1, h2⟩ := r
    unfold keysD at e
    cases q : keyD d with
    | none => rw [q] at e; cases e
    | some k =>
      cases q2 : keysD ds with
      | none => rw [q, q2] at e; cases e
      | some ks2 =>
        rw [q, q2] at e
        cases e
        rw [kV_keyD h1 q, kV_keysD h2 q2]
        rfl
section
variable {κ : Type} [DecidableEq κ] {K : PySem.W.Frag} {m : List Addr} {H : Hp}
theorem valD_rep (k : κ) : ∀ {kvs : List (κ × D)} {ks : List (κ × V)}, kvs.map (·.1) = ks.map (·.1) → RepL K m H (kvs.map (·.2)) (ks.map (·.2)) →
    (valD kvs k = none ∧ valV ks k = none) ∨ ∃ d v, valD kvs k = some d ∧ valV ks k = some v ∧ RepV K m H d v
  | [], [], _, _ => .inl ⟨rfl, rfl⟩
  | [], _ :: _, e, _ => by cases e
  | _ :: _, [], e, _ => by cases e
  | (k1, d) :: kvs, (k2, v) :: ks, e, r => by
    simp only [List.map_cons, List.cons.injEq] at e
    obtain ⟨e1, e2⟩ := e
    subst e1
    simp only [List.map_cons] at r
    unfold RepL at r
    obtain ⟨x, xs, q, h1, h2⟩ := r
    injection q with q1 q2
    subst q1 q2
    by_cases c : k1 = k
    · subst c
      exact .inr ⟨d, v, by simp [valD], by simp [valV], h1⟩
    · rcases valD_rep k e2 h2 with ⟨a, b⟩ | ⟨d', v', a, b, w⟩
      · exact .inl ⟨by unfold valD at a ⊢; rw [List.find?_cons]; simp [c]; simpa using a, by unfold valV at b ⊢; rw [List.find?_cons]; simp [c]; simpa using b⟩
      · exact .inr ⟨d', v', by unfold valD at a ⊢; rw [List.find?_cons]; simpa [c] using a, by unfold valV at b ⊢; rw [List.find?_cons]; simpa [c] using b, w⟩
end
def ixF : VF2
  | .loc l, k, h => match h[l]? with
    | some (.lst ds) => (match k with
      | .int i => (atI ds i).map fun d => (d, h)
      | _ => none)
    | some (.dct kvs) => (keyD k).bind fun k => (valD kvs k).map fun d => (d, h)
    | some (.fdc kvs) => (keyD k).bind fun k => (valD kvs k).map fun d => (d, h)
    | some (.dcT kvs) => (match k with
      | .tup ks => (keysD ks).bind fun k => (valD kvs k).map fun d => (d, h)
      | _ => none)
    | _ => none
  | .ro ns, .int i, h => (atI ns i).map fun n => (.int n, h)
  | .tup ds, .int i, h => (atI ds i).map fun d => (d, h)
  | .str z, .int i, h => if z.length ≤ LIM then (atI z.cps.toList i).map fun c => (.str ⟨#[c]⟩, h) else none
  | _, _, _ => none
theorem atI_map {α β : Type} (f : α → β) (xs : List α) (i : Int) : atI (xs.map f) i = (atI xs i).map f := by
  unfold atI
  rw [List.length_map]
  cases ixN xs.length i with
  | none => rfl
  | some j => simp
section
variable {X : Cx}
theorem o_ix (hu : X.A.units + 1 < cLine) : IxR X (rV X.K ixF) := by
  intro value slice pns s σ H x y v u Q I rx ry h hsl
  obtain ⟨m, hs, dx, dy, r1, r2, rh, o⟩ := h
  unfold ixF at o
  split at o
  · unfold RepV at r1
    obtain ⟨a, ha, rfl⟩ := r1
    have got : ∀ {d : D} {w : V}, OutV X.K m H Q (some (d, hs)) → RepV X.K m H d w → DGet H a y (some w) → wpAny (model X.prog X.w) X.A (subscriptTail value slice v u) (EP X pns σ Q) X.xe s := fun o' rw' g => by
      cases rx
      exact tail_any (dict_typeIs I g) PySem.F.slot_dict_getitem.lookup (d_getItem hu I g ry fun w2 s2 I2 r2' => ⟨_, H, I2, r2', OutV.keep o' rw' rh⟩) hsl
    split at o
    · rename_i ds e1
      obtain ⟨vs, hv, rl⟩ := rh.lst ha e1
      split at o
      · unfold RepV at r2
        subst r2
        cases q : atI ds _ with
        | none => rw [q] at o; exact o.elim
        | some d =>
          rw [q] at o
          obtain ⟨w, hw, rw'⟩ := rl.at_ q
          exact ix_list value slice pns s σ H _ _ v u Q I rx ry ⟨a, vs, _, w, rfl, rfl, SqL.of hv, hw, OutV.keep o rw' rh⟩ hsl
      · exact o.elim
    · rename_i kvs e1
      obtain ⟨ks, hk, kk, rk⟩ := rh.at_ _ a _ ha e1
      cases q : keyD dy with
      | none => rw [q] at o; exact o.elim
      | some k =>
        rw [q, Option.bind_some] at o
        have ey := kV_keyD r2 q
        subst ey
        rcases valD_rep k kk rk with ⟨z, _⟩ | ⟨d, w, z, z2, rw'⟩
        · rw [z] at o; exact o.elim
        · rw [z] at o
          refine got o rw' ?_
          rw [← z2]
          exact DGet.k hk
    · rename_i kvs e1
      obtain ⟨ob, ks, hk, kk, rk⟩ := rh.at_ _ a _ ha e1
      cases q : keyD dy with
      | none => rw [q] at o; exact o.elim
      | some k =>
        rw [q, Option.bind_some] at o
        have ey := kV_keyD r2 q
        subst ey
        rcases valD_rep k kk rk with ⟨z, _⟩ | ⟨d, w, z, z2, rw'⟩
        · rw [z] at o; exact o.elim
        · rw [z] at o
          refine got o rw' ?_
          rw [← z2]
          exact .inl ⟨ks, k, .inr ⟨ob, hk⟩, rfl, rfl⟩
    · rename_i kvs e1
      obtain ⟨ks, hk, kk, rk⟩ := rh.at_ _ a _ ha e1
      split at o
      · rename_i kd
        cases q : keysD kd with
        | none => rw [q] at o; exact o.elim
        | some k =>
          rw [q, Option.bind_some] at o
          unfold RepV at r2
          obtain ⟨b, xs, rfl, hb, rl⟩ := r2
          have ey := kV_keysD rl q
          subst ey
          rcases valD_rep k kk rk with ⟨z, _⟩ | ⟨d, w, z, z2, rw'⟩
          · rw [z] at o; exact o.elim
          · rw [z] at o
            refine got o rw' ?_
            rw [← z2]
            exact DGet.t hk hb
      · exact o.elim
    · exact o.elim
  · unfold RepV at r1 r2
    obtain ⟨a, rfl, ha⟩ := r1
    subst r2
    rename_i ns i
    cases q : atI ns i with
    | none => rw [q] at o; exact o.elim
    | some n =>
      rw [q] at o
      exact ix_list value slice pns s σ H _ _ v u Q I rx ry ⟨a, _, i, .int n, rfl, rfl, ha.sq, by rw [atI_map, q]; rfl, OutV.keep o (by unfold RepV; rfl) rh⟩ hsl
  · unfold RepV at r1 r2
    obtain ⟨a, vs, rfl, ha, rl⟩ := r1
    subst r2
    rename_i ds i
    cases q : atI ds i with
    | none => rw [q] at o; exact o.elim
    | some d =>
      rw [q] at o
      obtain ⟨w, hw, rw'⟩ := rl.at_ q
      exact ix_tup value slice pns s σ H _ _ v u Q I rx ry ⟨a, vs, _, w, rfl, rfl, SqT.of ha, hw, OutV.keep o rw' rh⟩ hsl
  · unfold RepV at r1 r2
    subst r1 r2
    rename_i z i
    split at o
    · rename_i hz
      cases q : atI z.cps.toList i with
      | none => rw [q] at o; exact o.elim
      | some c =>
        rw [q] at o
        exact ix_str value slice pns s σ H _ _ v u Q I rx ry ⟨z, i, c, rfl, rfl, by rw [LIM_eq]; exact hz, q, OutV.keep o (by unfold RepV; rfl) rh⟩ hsl
    · exact o.elim
  · exact o.elim
end
abbrev OM := Sl → Hs → R (Option Int)
def noP : OM := fun _ h => .ok none h
def someP (A : EM) : OM := fun ds h => (A ds h).bind fun d h => match d with
  | .int i => .ok (some i) h
  | _ => .bad
def cutL {α : Type} (xs : List α) (lo hi : Option Int) : List α := (xs.drop (HT.sIx xs.length 0 lo)).take (HT.sIx xs.length xs.length hi - HT.sIx xs.length 0 lo)
def slF (d : D) (lo hi : Option Int) (h : Hs) : Res := match d with
  | .loc l => match h[l]? with
    | some (.lst ds) => some (.loc h.length, h ++ [.lst (cutL ds lo hi)])
    | _ => none
  | .ro ns => some (.loc h.length, h ++ [.lst ((cutL ns lo hi).map D.int)])
  | .tup ds => some (.tup (cutL ds lo hi), h)
  | .str z => if z.length ≤ LIM then some (.str (cutS z lo hi), h) else none
  | _ => none
def slM (A : EM) (lo hi : OM) : EM := fun ds h => (A ds h).bind fun d h => (lo ds h).bind fun l h => (hi ds h).bind fun u h => .ofO (slF d l u h)
def OutP (g : Cfg) (m : List Addr) (H : Hp) (σ : St) (Q : Option Int → Hp → Prop) : R (Option Int) → Prop
  | .ok o h' => ∀ m' H', Grow m H m' H' → RepH g.K m' H' h' → Q o H'
  | .exc c h' => ∀ m' H', Grow m H m' H' → RepH g.K m' H' h' → g.W (.ref (He.ga g.K c)) none σ H'
  | .bad => False
def tP (g : Cfg) (M : OM) : TO := fun σ H Q => ∃ m ds h, RepS g.K m H ds σ ∧ RepH g.K m H h ∧ OutP g m H σ Q (M ds h)
theorem OutP.toE {g : Cfg} {m : List Addr} {H : Hp} {σ : St} {Q : VK} {Q' : Option Int → Hp → Prop} {r : R (Option Int)} {k : Option Int → Hs → R D} (o : OutE g m H σ Q (r.bind k))
    (f : ∀ b h' m' H', Grow m H m' H' → RepH g.K m' H' h' → OutE g m' H' σ Q (k b h') → Q' b H') : OutP g m H σ Q' r := by
  cases r with
  | ok d h => exact fun m' H' w rh => f d h m' H' w rh (OutE.mono o w)
  | exc c h => exact o
  | bad => exact o
theorem PO.weak {X : Cx} {e : Option Expr} {t t' : TO} (p : PO X e t) (w : ∀ σ H Q, t' σ H Q → t σ H Q) : PO X e t' := ⟨fun pns s σ H Q I h => p.run pns s σ H Q I (w σ H Q h)⟩
section
variable {X : Cx} {g : Cfg} {e : Expr} {lo hi : Option Expr} {A : EM} {L U : OM} {pos p2 : Pos}
theorem pm_no : PO X none (tP g noP) := PO.weak po_none fun σ H Q ⟨m, ds, h, hs, rh, o⟩ => o m H (.refl _ _) rh
theorem pm_some (ha : PE X e (tM g A)) : PO X (some e) (tP g (someP A)) := by
  refine PO.weak (po_some ha) fun σ H Q ⟨m, ds, h, hs, rh, o⟩ => ⟨m, ds, h, hs, rh, ?_⟩
  unfold someP at o
  cases q : A ds h with
  | ok d h1 =>
    rw [q, R.bind_ok] at o
    intro v m1 H1 g1 r1 rh1
    cases d with
    | int i => unfold RepV at r1; exact ⟨i, r1, o m1 H1 g1 rh1⟩
    | _ => exact (show False from o).elim
  | exc c h1 => rw [q] at o; exact o
  | bad => rw [q] at o; exact o
theorem cutL_map {α β : Type} (f : α → β) (xs : List α) (lo hi : Option Int) : cutL (xs.map f) lo hi = (cutL xs lo hi).map f := by
  unfold cutL
  rw [List.length_map, List.map_take, List.map_drop]
theorem RepL.cut {K : PySem.W.Frag} {m : List Addr} {H : Hp} {ds : List D} {vs : List V} (r : RepL K m H ds vs) (lo hi : Option Int) : RepL K m H (cutL ds lo hi) (cutV vs lo hi) := by
  unfold cutL cutV
  rw [r.length]
  exact (r.drop _).take _
theorem em_slice (hK : X.K = g.K) (ha : PE X e (tM g A)) (hl : PO X lo (tP g L)) (hu : PO X hi (tP g U)) : PE X (.Subscript e (.Slice lo hi none p2) pos) (tM g (slM A L U)) := by
  have hr : SlR X (fun x lo hi H Q => (rSlL X.K x lo hi H Q ∨ rSlA X.K x lo hi H Q) ∨ rSlS x lo hi H Q) := (sl_list.or sl_tupA).or sl_str
  refine PE.weak (pe_slice hr ha hl hu) fun σ H Q ⟨m, ds, h, hs, rh, o⟩ => ⟨m, ds, h, hs, rh, OutE.toE o fun d h1 v m1 H1 g1 r1 rh1 o1 => ?_⟩
  refine ⟨m1, ds, h1, hs.mono g1, rh1, OutP.toE o1 fun l h2 m2 H2 g2 rh2 o2 => ?_⟩
  refine ⟨m2, ds, h2, (hs.mono g1).mono g2, rh2, OutP.toE o2 fun u h3 m3 H3 g3 rh3 o3 => ?_⟩
  have r3 := r1.mono (g2.trans g3)
  have o3 : OutV g.K m3 H3 Q (slF d l u h3) := .of o3
  rw [hK]
  unfold slF at o3
  split at o3
  · unfold RepV at r3
    obtain ⟨a, hq, rfl⟩ := r3
    split at o3
    · rename_i xs e1
      obtain ⟨vs, hv, rl⟩ := rh3.lst hq e1
      exact .inl (.inl ⟨a, vs, rfl, SqL.of hv, fun p hp => new_lst' (rl.cut _ _) rh3 hp o3⟩)
    · exact o3.elim
  · unfold RepV at r3
    obtain ⟨a, rfl, hq⟩ := r3
    rename_i ns _
    refine .inl (.inl ⟨a, _, rfl, hq.sq, fun p hp => new_lst' ?_ rh3 hp o3⟩)
    have := (repL_ints (K := g.K) (m := m3) (H := H3) ns).cut l u
    rwa [cutL_map] at this
  · unfold RepV at r3
    obtain ⟨a, vs, rfl, hq, rl⟩ := r3
    rename_i xs _
    refine .inl (.inr ⟨a, vs, rfl, SqT.of hq, fun hw => ?_, fun _ p hp => ?_⟩)
    · have e : cutL xs l u = xs := by
        have hl := rl.length
        rw [hl] at hw
        unfold cutL
        rw [hw.1, hw.2, List.drop_zero, Nat.sub_zero, List.take_length]
      rw [e] at o3
      exact o3 _ m3 H3 (.refl _ _) (by unfold RepV; exact ⟨a, vs, rfl, hq, rl⟩) rh3
    · exact o3 _ m3 _ (.put hp) (by unfold RepV; exact ⟨p, _, rfl, upd_same, (rl.cut _ _).mono (.put hp)⟩) (rh3.put hp)
  · unfold RepV at r3
    subst r3
    split at o3
    · rename_i hz
      exact .inr ⟨_, rfl, by rw [LIM_eq]; exact hz, OutV.keep o3 (by unfold RepV; rfl) rh3⟩
    · exact o3.elim
  · exact o3.elim
end
def lenF : List D → Hs → Res
  | [.loc l], h => match h[l]? with
    | some (.lst ds) => some (.int ds.length, h)
    | some (.dct kvs) => some (.int kvs.length, h)
    | some (.fdc kvs) => some (.int kvs.length, h)
    | _ => none
  | [.ro ns], h => some (.int ns.length, h)
  | [.tup ds], h => some (.int ds.length, h)
  | [.str z], h => if z.length ≤ LIM then some (.int z.length, h) else none
  | _, _ => none
def intT : List D → Hs → Res
  | [.int i], h => some (.int i, h)
  | [.bl b], h => some (.int (if b then 1 else 0), h)
  | _, _ => none
def tupT : List D → Hs → Res
  | [.loc l], h => match h[l]? with
    | some (.lst ds) => some (.tup ds, h)
    | _ => none
  | [.tup ds], h => some (.tup ds, h)
  | _, _ => none
def lstT : List D → Hs → Res
  | [.loc l], h => match h[l]? with
    | some (.lst ds) => some (.loc h.length, h ++ [.lst ds])
    | _ => none
  | [.ro ns], h => some (.loc h.length, h ++ [.lst (ns.map D.int)])
  | [.tup ds], h => some (.loc h.length, h ++ [.lst ds])
  | _, _ => none
def intsOf : List D → Option (List Int)
  | [] => some []
  | .int i :: r => (intsOf r).map fun ns => i :: ns
  | _ => none
@[simp] theorem intsOf_map (ns : List Int) : intsOf (ns.map D.int) = some ns := by
  induction ns with
  | nil => rfl
  | cons n ns ih => rw [List.map_cons]; unfold intsOf; rw [ih]; rfl
def maxI (x : Int) (xs : List Int) : Int := xs.foldl (fun a y => if a < y then y else a) x
section
variable {X : Cx}
theorem c_len : CallR X (.builtin "len") (rC X.K lenF) := by
  intro pns s σ H vs us Q I rl h
  obtain ⟨m, hs, ds, r, rh, o⟩ := h
  unfold lenF at o
  split at o
  · obtain ⟨x, rfl, r1⟩ := repL1 r
    unfold RepV at r1
    obtain ⟨a, ha, rfl⟩ := r1
    split at o
    · rename_i xs e1
      obtain ⟨vs, hv, rl2⟩ := rh.lst ha e1
      exact call_len pns s σ H _ us Q I rl ⟨_, _, rfl, .inl ⟨vs, SqL.of hv, rl2.length.symm⟩, OutV.keep o (by unfold RepV; rfl) rh⟩
    · rename_i kvs e1
      obtain ⟨ks, hk, kk, rk⟩ := rh.at_ _ a _ ha e1
      obtain ⟨u, rfl, ru⟩ := vals1 rl
      cases ru
      refine d_len I (.inl hk) fun t s' I' => ⟨.int ks.length, H, I', ⟨t, rfl⟩, ?_⟩
      have e : ks.length = kvs.length := by have := congrArg List.length kk; simpa using this.symm
      rw [e]
      exact OutV.keep o (by unfold RepV; rfl) rh
    · rename_i kvs e1
      obtain ⟨ob, ks, hk, kk, rk⟩ := rh.at_ _ a _ ha e1
      obtain ⟨u, rfl, ru⟩ := vals1 rl
      cases ru
      refine d_len I (.inr ⟨ob, hk⟩) fun t s' I' => ⟨.int ks.length, H, I', ⟨t, rfl⟩, ?_⟩
      have e : ks.length = kvs.length := by have := congrArg List.length kk; simpa using this.symm
      rw [e]
      exact OutV.keep o (by unfold RepV; rfl) rh
    · exact o.elim
  · obtain ⟨x, rfl, r1⟩ := repL1 r
    unfold RepV at r1
    obtain ⟨a, rfl, ha⟩ := r1
    exact call_len pns s σ H _ us Q I rl ⟨_, _, rfl, .inl ⟨_, ha.sq, (List.length_map _).symm⟩, OutV.keep o (by unfold RepV; rfl) rh⟩
  · obtain ⟨x, rfl, r1⟩ := repL1 r
    unfold RepV at r1
    obtain ⟨a, xs, rfl, ha, rl2⟩ := r1
    exact call_len pns s σ H _ us Q I rl ⟨_, _, rfl, .inr ⟨xs, SqT.of ha, rl2.length.symm⟩, OutV.keep o (by unfold RepV; rfl) rh⟩
  · obtain ⟨x, rfl, r1⟩ := repL1 r
    unfold RepV at r1
    subst r1
    split at o
    · rename_i hz
      exact call_len pns s σ H _ us Q I rl ⟨_, _, rfl, ⟨by rw [LIM_eq]; exact hz, rfl⟩, OutV.keep o (by unfold RepV; rfl) rh⟩
    · exact o.elim
  · exact o.elim
theorem c_int : CallR X (.type "int") (rC X.K intT) := by
  intro pns s σ H vs us Q I rl h
  obtain ⟨m, hs, ds, r, rh, o⟩ := h
  unfold intT at o
  split at o
  · obtain ⟨x, rfl, r1⟩ := repL1 r
    unfold RepV at r1; subst r1
    exact call_int1 pns s σ H _ us Q I rl (.inl ⟨_, rfl, OutV.keep o (by unfold RepV; rfl) rh⟩)
  · obtain ⟨x, rfl, r1⟩ := repL1 r
    unfold RepV at r1; subst r1
    exact call_int1 pns s σ H _ us Q I rl (.inr ⟨_, rfl, OutV.keep o (by unfold RepV; rfl) rh⟩)
  · exact o.elim
theorem c_tuple : CallR X (.type "tuple") (rC X.K tupT) := by
  intro pns s σ H vs us Q I rl h
  obtain ⟨m, hs, ds, r, rh, o⟩ := h
  unfold tupT at o
  split at o
  · obtain ⟨x, rfl, r1⟩ := repL1 r
    unfold RepV at r1
    obtain ⟨a, ha, rfl⟩ := r1
    split at o
    · rename_i xs e1
      obtain ⟨vs, hv, rl2⟩ := rh.lst ha e1
      refine call_tuple_of pns s σ H _ us Q I rl ⟨a, vs, rfl, .inl ⟨SqL.of hv, fun p hp => ?_⟩⟩
      exact o _ m _ (.put hp) (by unfold RepV; exact ⟨p, _, rfl, upd_same, rl2.mono (.put hp)⟩) (rh.put hp)
    · exact o.elim
  · obtain ⟨x, rfl, r1⟩ := repL1 r
    have r0 := r1
    unfold RepV at r1
    obtain ⟨a, xs, rfl, ha, rl2⟩ := r1
    exact call_tuple_of pns s σ H _ us Q I rl ⟨a, xs, rfl, .inr ⟨SqT.of ha, OutV.keep o r0 rh⟩⟩
  · exact o.elim
theorem c_list : CallR X (.type "list") (rC X.K lstT) := by
  intro pns s σ H vs us Q I rl h
  obtain ⟨m, hs, ds, r, rh, o⟩ := h
  unfold lstT at o
  split at o
  · obtain ⟨x, rfl, r1⟩ := repL1 r
    unfold RepV at r1
    obtain ⟨a, ha, rfl⟩ := r1
    split at o
    · rename_i xs e1
      obtain ⟨vs, hv, rl2⟩ := rh.lst ha e1
      exact call_list_of pns s σ H _ us Q I rl ⟨a, vs, rfl, .inl (SqL.of hv), fun p hp => new_lst' rl2 rh hp o⟩
    · exact o.elim
  · obtain ⟨x, rfl, r1⟩ := repL1 r
    unfold RepV at r1
    obtain ⟨a, rfl, ha⟩ := r1
    exact call_list_of pns s σ H _ us Q I rl ⟨a, _, rfl, .inl ha.sq, fun p hp => new_lst' (repL_ints _) rh hp o⟩
  · obtain ⟨x, rfl, r1⟩ := repL1 r
    unfold RepV at r1
    obtain ⟨a, xs, rfl, ha, rl2⟩ := r1
    exact call_list_of pns s σ H _ us Q I rl ⟨a, xs, rfl, .inr (SqT.of ha), fun p hp => new_lst' rl2 rh hp o⟩
  · exact o.elim
end
def tyD : D → Hs → Option String
  | .non, _ => some "NoneType"
  | .bl _, _ => some "bool"
  | .int _, _ => some "int"
  | .str _, _ => some "str"
  | .tup _, _ => some "tuple"
  | .ro _, _ => some "list"
  | .exn _, _ => none
  | .loc l, h => match h[l]? with
    | some (.lst _) => some "list"
    | some (.dct _) => some "dict"
    | some (.fdc _) => some "dict"
    | _ => none
def isB (t T : String) : Bool := t == T || (t == "bool" && T == "int")
def isF (T : String) (d : D) (h : Hs) : Res := (tyD d h).map fun t => (.bl (isB t T), h)
theorem kitB_ok {t T : String} (ht : t ∈ ["NoneType", "bool", "int", "str", "tuple", "list", "dict"]) (hT : T ∈ ["bool", "int", "str", "tuple", "list", "dict"]) : kitB t T = some (isB t T) := by
  simp only [List.mem_cons, List.not_mem_nil, or_false] at ht hT
  rcases ht with rfl | rfl | rfl | rfl | rfl | rfl | rfl <;> rcases hT with rfl | rfl | rfl | rfl | rfl | rfl <;> decide +kernel
theorem tyD_mem {d : D} {h : Hs} {t : String} (e : tyD d h = some t) : t ∈ ["NoneType", "bool", "int", "str", "tuple", "list", "dict"] := by
  unfold tyD at e
  split at e
  all_goals first
    | (cases e; simp; done)
    | (cases e; done)
    | (split at e <;> first | (cases e; simp; done) | cases e)
theorem tyX_of {X : Cx} {m : List Addr} {H : Hp} {h : Hs} {d : D} {v : V} {t : String} (r : RepV X.K m H d v) (rh : RepH X.K m H h) (e : tyD d h = some t) : TyX X.K H v (.type t) := by
  unfold tyD at e
  split at e
  · cases e; unfold RepV at r; subst r; exact .base .non
  · cases e; unfold RepV at r; subst r; exact .base (.bl _)
  · cases e; unfold RepV at r; subst r; exact .base (.int _)
  · cases e; unfold RepV at r; subst r; exact .base (.str _)
  · cases e; unfold RepV at r; obtain ⟨a, xs, rfl, ha, _⟩ := r; exact .base (.tup ha)
  · cases e
    unfold RepV at r
    obtain ⟨a, rfl, ha⟩ := r
    rcases ha with ⟨o, ha⟩ | ⟨o, its, n, hk, hc, _⟩
    · exact .base (.frz ha)
    · exact .kList hk hc
  · cases e
  · unfold RepV at r
    obtain ⟨a, ha, rfl⟩ := r
    split at e
    · rename_i e1
      cases e
      obtain ⟨vs, hv, _⟩ := rh.lst ha e1
      exact .base (.lst hv)
    · rename_i e1
      cases e
      obtain ⟨ks, hk, _⟩ := rh.at_ _ a _ ha e1
      exact .base (.dK hk)
    · rename_i e1
      cases e
      obtain ⟨ob, ks, hk, _⟩ := rh.at_ _ a _ ha e1
      exact .fDict hk
    · cases e
theorem em_isi {X : Cx} {g : Cfg} {e : Expr} {A : EM} {T : String} {Tn : Str} {p p2 pos : Pos} (hK : X.K = g.K) (hT : T ∈ ["bool", "int", "str", "tuple", "list", "dict"]) (hg : Gl X "isinstance") (hm : X.mg "isinstance" = none) (hgT : Gl X Tn) (hmT : X.mg Tn = none) (hv : bootBuiltins Tn = some (.type T))
    (ha : PE X e (tM g A)) (hn : Tn ≠ "__name__" := by decide) (hd : (Tn == ("__debug__" : Str)) = false := by decide)
    (he : starEach [e, .Name Tn p2] X.env = (false, eval e X.env) :: starEach [.Name Tn p2] X.env := by rfl) (hpl : (backTo pos (starEach [.Name Tn p2] X.env)).any (·.1) = false := by rfl) : PE X (.Call (.Name "isinstance" p) [e, .Name Tn p2] [] pos) (tM g (unM (isF T) A)) := by
  refine PE.weak (pe_callB call_isi hg hm (by decide +kernel) (pa_cons ha (pa_cons (pe_bltn (v := .ty T) hgT hmT hv rfl hn hd) pa_nil) he) (by decide) (by decide) he hpl) fun σ H Q ⟨m, ds, h, hs, rh, o⟩ => ⟨m, ds, h, hs, rh, OutE.toE o fun d h1 v m1 H1 g1 r1 rh1 o1 => ?_⟩
  unfold isF at o1
  cases q : tyD d h1 with
  | none => rw [q] at o1; exact o1.elim
  | some t =>
    rw [q] at o1
    have ty : TyX X.K H1 v (.type t) := tyX_of (X := X) (by rw [hK]; exact r1) (by rw [hK]; exact rh1) q
    exact ⟨v, .ty T, .type t, .type T, isB t T, rfl, .ty T, ty, kit_ty (kitB_ok (tyD_mem q) hT), o1 _ m1 H1 (.refl _ _) (by unfold RepV; rfl) rh1⟩
end DV
namespace DV
open PySem PySem.Spec PyProof.Rows L2
noncomputable def rng3 : List D → Option (List D)
  | [.int i, .int j, .int k] => if k = -1 ∧ inR i = true ∧ inR j = true then some ((List.range (i - j).toNat).map fun (t : Nat) => .int (i - (t : Int))) else none
  | _ => none
/-- the receiver is of that type when it has been read -/
def mtMc (ck : D → Hs → Bool) (F : D → List D → Hs → Res) (O : EM) (As : AM) : EM := fun ds h => (O ds h).bind fun d h => if ck d h = true then (As ds h).bind fun xs h => .ofO (F d xs h) else .bad
def ckList : D → Hs → Bool
  | .loc l, h => match h[l]? with
    | some (.lst _) => true
    | _ => false
  | .ro _, _ => true
  | _, _ => false
def ckStr : D → Hs → Bool
  | .str _, _ => true
  | _, _ => false
theorem ckList_ty {K : PySem.W.Frag} {m : List Addr} {H : Hp} {h : Hs} {d : D} {v : V} (r : RepV K m H d v) (rh : RepH K m H h) (c : ckList d h = true) : tyV K "list" v H := by
  unfold ckList at c
  split at c
  · unfold RepV at r
    obtain ⟨a, ha, rfl⟩ := r
    split at c
    · rename_i e
      obtain ⟨vs, hv, _⟩ := rh.lst ha e
      exact .inl ⟨rfl, vs, SqL.of hv⟩
    · cases c
  · unfold RepV at r
    obtain ⟨a, rfl, ha⟩ := r
    exact .inl ⟨rfl, _, ha.sq⟩
  · cases c
theorem ckStr_ty {K : PySem.W.Frag} {m : List Addr} {H : Hp} {h : Hs} {d : D} {v : V} (r : RepV K m H d v) (c : ckStr d h = true) : tyV K "str" v H := by
  unfold ckStr at c
  split at c
  · unfold RepV at r; subst r; rfl
  · cases c
/-- a method's rule by values -/
def rMt (K : PySem.W.Frag) (F : D → List D → Hs → Res) : V → List V → Hp → VK → Prop := fun x vs H Q => ∃ m h d ds, RepV K m H d x ∧ RepL K m H ds vs ∧ RepH K m H h ∧ OutV K m H Q (F d ds h)
section
variable {X : Cx} {g : Cfg} {o e : Expr} {es : List Expr} {O : EM} {As : AM} {name : Str} {apos cpos : Pos} {T id : String} {F : D → List D → Hs → Res} {ck : D → Hs → Bool}
theorem em_bm (hK : X.K = g.K) (pa : PlainAttrs T) (slot : Slot T name id) (hty : typeOf (.builtin id) = pure (.type "method_descriptor")) (hm : MtR X id (rMt g.K F))
    (hck : ∀ m H h d v, RepV g.K m H d v → RepH g.K m H h → ck d h = true → tyV g.K T v H) (ho : PE X o (tM g O)) (ha : PA X (e :: es) (tA g As))
    (hbase : attributeBase o name X.env (eval o X.env) = eval o X.env := by rfl)
    (hfew : ((backTo cpos (starEach (e :: es) X.env)).all (fun x => !x.1) && (backToKw cpos (keywordEach [] X.env)).all (fun x => x.1.isSome)
      && decide ((e :: es).length + ([] : List Keyword).length + (if ([] : List Keyword).isEmpty then 0 else 1) < 30)) = true := by rfl)
    (hline : (apos.endLine == cpos.line) = true := by rfl) (hs : starEach (e :: es) X.env = (false, eval e X.env) :: starEach es X.env := by rfl) (hplain : (backTo cpos (starEach es X.env)).any (·.1) = false := by rfl) :
    PE X (.Call (.Attribute o name apos) (e :: es) [] cpos) (tM g (mtMc ck F O As)) := by
  refine PE.weak (pe_bm pa slot hty hm ho ha hbase hfew hline hs hplain) fun σ H Q ⟨m, ds, h, hs, rh, o⟩ => ⟨m, ds, h, hs, rh, OutE.toE o fun d h1 v m1 H1 g1 r1 rh1 o1 => ?_⟩
  by_cases c : ck d h1 = true
  · rw [if_pos c] at o1
    refine ⟨by rw [hK]; exact hck m1 H1 h1 d v r1 rh1 c, m1, ds, h1, hs.mono g1, rh1, OutA.toE o1 fun xs h2 vs m2 H2 g2 rl rh2 o2 => ?_⟩
    exact ⟨m2, h2, d, xs, r1.mono g2, rl, rh2, .of o2⟩
  · rw [if_neg c] at o1; exact o1.elim
end
def appendF : D → List D → Hs → Res
  | .loc l, [d], h => match h[l]? with
    | some (.lst ds) => if ds.length < LIM then some (.non, h.set l (.lst (ds ++ [d]))) else none
    | _ => none
  | _, _, _ => none
/-- a list written -/
theorem write_lst {K : PySem.W.Frag} {m : List Addr} {H : Hp} {h : Hs} {l : Nat} {a : Addr} {xs ys : List V} {ds : List D} {Q : VK} {d : D} {v : V} (rh : RepH K m H h) (ha : m[l]? = some a) (hv : H a = some (.lst xs)) (rl : RepL K m H ds ys) (rv : RepV K m H d v)
    (o : OutV K m H Q (some (d, h.set l (.lst ds)))) : Q v (upd H a (.lst ys)) :=
  have w : Grow m H m (upd H a (.lst ys)) := .write hv (fun _ z => nomatch z) (fun _ _ z => nomatch z) (fun _ z => nomatch z)
  o v m _ w (rv.mono w) (rh.write ha hv (fun _ z => nomatch z) (fun _ _ z => nomatch z) (fun _ z => nomatch z) ⟨ys, upd_same, rl.mono w⟩)
section
variable {X : Cx}
theorem k_append : MtR X "list.append" (rMt X.K appendF) := by
  intro pns s σ H x vs v us Q I rx rv h
  obtain ⟨m, hs, d, ds, r1, rl, rh, o⟩ := h
  unfold appendF at o
  split at o
  · unfold RepV at r1
    obtain ⟨a, ha, rfl⟩ := r1
    obtain ⟨y, rfl, r2⟩ := repL1 rl
    split at o
    · rename_i xs e
      obtain ⟨ws, hw, rl2⟩ := rh.lst ha e
      split at o
      · rename_i hz
        exact mt_append pns s σ H _ _ v us Q I rx rv ⟨a, ws, y, rfl, rfl, hw, by rw [LIM_eq, rl2.length]; exact hz, write_lst rh ha hw (rl2.append (.cons r2 .nil)) (by unfold RepV; rfl) o⟩
      · exact o.elim
    · exact o.elim
  · exact o.elim
end
def setIxM (F : D → D → D → Hs → Option Hs) (V O I : EM) : SM := fun ds h => lift (V ds h) ds fun v h => lift (O ds h) ds fun o h => lift (I ds h) ds fun i h => match F o i v h with
  | some h' => .nx ds h'
  | none => .bad
def maxdR (d e : D) (h : Hs) : R D := match d, e with
  | .loc l, .int k => match h[l]? with
    | some (.lst xs) => match intsOf xs with
      | some [] => .ok (.int k) h
      | some (n :: ns) => .ok (.int (maxI n ns)) h
      | none => .bad
    | _ => .bad
  | _, _ => .bad
def maxdF (A B : EM) : EM := fun ds h => (A ds h).bind fun d h => (B ds h).bind fun e h => maxdR d e h
end DV
namespace DV
open PySem PySem.Spec PyProof.Rows L2
structure Blt (mg : Str → Option Value) : Prop where
  z_len : mg "len" = none
  z_range : mg "range" = none
  z_int : mg "int" = none
  z_str : mg "str" = none
  z_sum : mg "sum" = none
  z_max : mg "max" = none
  z_min : mg "min" = none
  z_enumerate : mg "enumerate" = none
  z_isinstance : mg "isinstance" = none
  z_tuple : mg "tuple" = none
  z_list : mg "list" = none
  z_dict : mg "dict" = none
  z_sorted : mg "sorted" = none
  z_abs : mg "abs" = none
  z_all : mg "all" = none
  z_set : mg "set" = none
  z_bool : mg "bool" = none
theorem hu1 {k : Nat} {A : Around} (hr : Room k A) : A.units + 1 < cLine := hu_of hr
theorem hu195 {k : Nat} {A : Around} (hr : Room k A) : A.units + 195 < cLine := by have := hr.un; omega
def flatD : D → Bool
  | .non => true
  | .bl _ => true
  | .int _ => true
  | .str _ => true
  | _ => false
def toV : D → V
  | .non => .non
  | .bl b => .bl b
  | .int i => .int i
  | .str s => .str s
  | _ => .non
theorem flat_toV {K : PySem.W.Frag} {m : List Addr} {H : Hp} {d : D} {v : V} (r : RepV K m H d v) (f : flatD d = true) : v = toV d ∧ flatV v = true := by
  cases d with
  | non => unfold RepV at r; subst r; exact ⟨rfl, rfl⟩
  | bl b => unfold RepV at r; subst r; exact ⟨rfl, rfl⟩
  | int b => unfold RepV at r; subst r; exact ⟨rfl, rfl⟩
  | str b => unfold RepV at r; subst r; exact ⟨rfl, rfl⟩
  | tup _ => cases f
  | loc _ => cases f
  | ro _ => cases f
  | exn _ => cases f
theorem flat_toVL {K : PySem.W.Frag} {m : List Addr} {H : Hp} : ∀ {ds : List D} {vs : List V}, RepL K m H ds vs → ds.all flatD = true → vs = ds.map toV ∧ vs.all flatV = true
  | [], vs, r, _ => by unfold RepL at r; subst r; exact ⟨rfl, rfl⟩
  | d :: ds, vs, r, f => by
    unfold RepL at r
    obtain ⟨x, xs, rfl, h1, h2⟩ := r
    rw [List.all_cons, Bool.and_eq_true] at f
    obtain ⟨e1, e2⟩ := flat_toV h1 f.1
    obtain ⟨e3, e4⟩ := flat_toVL h2 f.2
    exact ⟨by rw [e1, e3]; rfl, by rw [List.all_cons, e2, e4]; rfl⟩
def inFlat (x : D) (ds : List D) : Bool := ds.any fun d => eqV (toV d) (toV x)
theorem inV_map (x : D) (ds : List D) : inV (toV x) (ds.map toV) = inFlat x ds := by
  unfold inV inFlat
  rw [List.any_map]; rfl
/-- x in y -/
def inB : D → D → Hs → Option Bool
  | .str i, .str j, _ => match i.cps.toList with
    | [c] => some (decide (c ∈ j.cps.toList))
    | _ => none
  | x, .loc l, h => match h[l]? with
    | some (.lst ds) => if flatD x && ds.all flatD then some (inFlat x ds) else none
    | some (.dct kvs) => (keyD x).map fun k => (valD kvs k).isSome
    | some (.fdc kvs) => (keyD x).map fun k => (valD kvs k).isSome
    | _ => none
  | x, .tup ds, _ => if flatD x && ds.all flatD then some (inFlat x ds) else none
  | _, _, _ => none
def inF : VF2 := fun x y h => (inB x y h).map fun b => (.bl b, h)
def ninF : VF2 := fun x y h => (inB x y h).map fun b => (.bl (!b), h)
section
variable {X : Cx} {K : PySem.W.Frag}
theorem in_core (hu : X.A.units + 1 < cLine) {pns : List (Addr × Obj)} {s : Shared} {σ : St} {H : Hp} {x y : V} {v u : Value} {m : List Addr} {hs : Hs} {dx dy : D} {b : Bool} (I : Inv X pns σ H s) (rx : RelV x v) (ry : RelV y u) (r1 : RepV X.K m H dx x) (r2 : RepV X.K m H dy y)
    (rh : RepH X.K m H hs) (e : inB dx dy hs = some b) {Q : VK} :
    (Q (.bl b) H → wpAny (model X.prog X.w) X.A (compareOp .In v u) (EP X pns σ Q) X.xe s) ∧ (Q (.bl (!b)) H → wpAny (model X.prog X.w) X.A (compareOp .NotIn v u) (EP X pns σ Q) X.xe s) := by
  unfold inB at e
  split at e
  · rename_i i j
    unfold RepV at r1 r2
    subst r1 r2
    split at e
    · rename_i c hc
      cases e
      have hi : i = ⟨#[c]⟩ := by
        cases i with
        | mk a => congr; exact Array.toList_inj.mp (by simpa using hc)
      subst hi
      exact ⟨fun q => op_in_sign pns s σ H _ _ v u Q I rx ry ⟨c, j, rfl, rfl, q⟩, fun q => op_notIn_sign pns s σ H _ _ v u Q I rx ry ⟨c, j, rfl, rfl, q⟩⟩
    · cases e
  · rename_i l
    unfold RepV at r2
    obtain ⟨a, ha, rfl⟩ := r2
    split at e
    · rename_i ds e1
      obtain ⟨vs, hv, rl⟩ := rh.lst ha e1
      split at e
      · rename_i c
        cases e
        obtain ⟨c1, c2⟩ := Bool.and_eq_true_iff.mp c
        obtain ⟨q1, q2⟩ := flat_toV r1 c1
        obtain ⟨q3, q4⟩ := flat_toVL rl c2
        have ei : inV x vs = inFlat dx ds := by rw [q1, q3, inV_map]
        exact ⟨fun q => op_in_seq pns s σ H _ _ v u Q I rx ry ⟨a, vs, rfl, .inl (SqL.of hv), q2, q4, by rw [if_neg Bool.false_ne_true, ei]; exact q⟩, fun q => op_notIn_seq pns s σ H _ _ v u Q I rx ry ⟨a, vs, rfl, .inl (SqL.of hv), q2, q4, by rw [if_pos rfl, ei]; exact q⟩⟩
      · cases e
    · rename_i kvs e1
      obtain ⟨ks, hk, kk, rk⟩ := rh.at_ _ a _ ha e1
      cases q : keyD dx with
      | none => rw [q] at e; cases e
      | some k =>
        rw [q] at e
        cases e
        have hx := kV_keyD r1 q
        subst hx
        have es : (valV ks k).isSome = (valD kvs k).isSome := by
          rcases valD_rep k kk rk with ⟨a, b⟩ | ⟨d, v, a, b, _⟩ <;> rw [a, b] <;> rfl
        have g : DGet H a (kV k) (valV ks k) := DGet.k hk
        cases ry
        exact ⟨fun q => d_in hu I g rx fun s' I' => ⟨.bl (valV ks k).isSome, H, I', rfl, by rw [es]; exact q⟩, fun q => d_notIn hu I g rx fun s' I' => ⟨.bl (!(valV ks k).isSome), H, I', rfl, by rw [es]; exact q⟩⟩
    · rename_i kvs e1
      obtain ⟨ob, ks, hk, kk, rk⟩ := rh.at_ _ a _ ha e1
      cases q : keyD dx with
      | none => rw [q] at e; cases e
      | some k =>
        rw [q] at e
        cases e
        have hx := kV_keyD r1 q
        subst hx
        have es : (valV ks k).isSome = (valD kvs k).isSome := by
          rcases valD_rep k kk rk with ⟨a, b⟩ | ⟨d, v, a, b, _⟩ <;> rw [a, b] <;> rfl
        have g : DGet H a (kV k) (valV ks k) := .inl ⟨ks, k, .inr ⟨ob, hk⟩, rfl, rfl⟩
        cases ry
        exact ⟨fun q => d_in hu I g rx fun s' I' => ⟨.bl (valV ks k).isSome, H, I', rfl, by rw [es]; exact q⟩, fun q => d_notIn hu I g rx fun s' I' => ⟨.bl (!(valV ks k).isSome), H, I', rfl, by rw [es]; exact q⟩⟩
    · cases e
  · rename_i ds
    unfold RepV at r2
    obtain ⟨a, vs, rfl, ha, rl⟩ := r2
    split at e
    · rename_i c
      cases e
      obtain ⟨c1, c2⟩ := Bool.and_eq_true_iff.mp c
      obtain ⟨q1, q2⟩ := flat_toV r1 c1
      obtain ⟨q3, q4⟩ := flat_toVL rl c2
      have ei : inV x vs = inFlat dx ds := by rw [q1, q3, inV_map]
      exact ⟨fun q => op_in_seq pns s σ H _ _ v u Q I rx ry ⟨a, vs, rfl, .inr (SqT.of ha), q2, q4, by rw [if_neg Bool.false_ne_true, ei]; exact q⟩, fun q => op_notIn_seq pns s σ H _ _ v u Q I rx ry ⟨a, vs, rfl, .inr (SqT.of ha), q2, q4, by rw [if_pos rfl, ei]; exact q⟩⟩
    · cases e
  · cases e
theorem o_in (hu : X.A.units + 195 < cLine) : OpR X (compareOp .In) (rV X.K inF) := by
  intro pns s σ H x y v u Q I rx ry h
  obtain ⟨m, hs, dx, dy, r1, r2, rh, o⟩ := h
  unfold inF at o
  cases e : inB dx dy hs with
  | none => rw [e] at o; exact o.elim
  | some b =>
    rw [e] at o
    exact (in_core (by omega) I rx ry r1 r2 rh e).1 (o _ m H (.refl _ _) (by unfold RepV; rfl) rh)
theorem o_nin (hu : X.A.units + 195 < cLine) : OpR X (compareOp .NotIn) (rV X.K ninF) := by
  intro pns s σ H x y v u Q I rx ry h
  obtain ⟨m, hs, dx, dy, r1, r2, rh, o⟩ := h
  unfold ninF at o
  cases e : inB dx dy hs with
  | none => rw [e] at o; exact o.elim
  | some b =>
    rw [e] at o
    exact (in_core (by omega) I rx ry r1 r2 rh e).2 (o _ m H (.refl _ _) (by unfold RepV; rfl) rh)
end
end DV
namespace DV
open PySem PySem.Spec PyProof.Rows L2
/-- no exception leaves where none is let -/
theorem cx_none {P : Program} {w : World} {H : Hp} {s : Shared} {e : Value} {s' : Shared} (c : L2.CX P w [] H s (fun _ _ _ => False) e s') : False := by
  obtain ⟨_, _, _, _, _, _, _, _, _, _, _, _, z⟩ := c
  exact z
theorem spM_ro {K : PySem.W.Frag} {φ : Fm} {H : Hp} {a : Addr} {ns : List Int} {h' : Hs} (hO : Only H) (hS : SqL K H a (ns.map V.int)) (e : φ [.ro ns] [] = .ok (.bl true) h') : spM K 1 φ [.ref a] H (fun v _ => v = .bl true) (fun _ _ _ => False) := by
  have hq : SqR K H a (ns.map V.int) := by
    rcases hS with h | h
    · rcases h with h | ⟨o, h⟩
      · rcases hO a with z | ⟨o, xs, z⟩
        · rw [z] at h; cases h
        · rw [z] at h; cases h
      · exact .inl ⟨o, h⟩
    · exact .inr h
  refine ⟨rfl, [], [.ro ns], [], .cons (by unfold RepV; exact ⟨a, rfl, hq⟩) .nil, ⟨rfl, List.nodup_nil, fun i b o hi => by simp at hi⟩, ?_⟩
  rw [e]
  intro v m' H' _ rv _
  unfold RepV at rv
  exact rv
theorem law_end {l : PySem.W.OpenLaw} {k : Nat} {q : Program} {loose : List Str} {XP : (Str → Option Value) → Heap → Prop} {YP : World → Heap → Prop} {d : DefRec} {φ : Fm}
    (hn : l.most = some 63) (hdf : d.params.defaults = []) (hr : Room k callerA) (hφ : ∀ ns : List Int, ns.length ≤ 63 → ∃ h', φ [.ro ns] [] = .ok (.bl true) h')
    (G : ∀ (w : World) (mg : Str → Option Value) (fa : Addr) (h : Heap), YP w h → h.Ns mainGlobals mg → mg d.name = some (.ref fa) →
      ∃ (K : PySem.W.Frag) (fd : FuncData), K.In h ∧ (∀ (s : Shared) (u : Value), BindsTo s fd ⟨[u], []⟩ [("script", u)]) ∧
        ∀ base : Heap, K.In base → base.Ns mainGlobals mg → FnOk l.prog w K mg base (L2.CX l.prog w) k fa fd ["script"] (spM K 1 φ)) :
    PySem.W.WalkO q loose XP YP l.row.toRowW d [] (fun f vs => PySem.call f vs) := by
  refine Att.attach_call hn hdf fun w sA sB mg mb fa o pm cd doc a vs ns T Y ho hd hcd hmg hobj hints hlen hg => ?_
  obtain ⟨K, fd, KX, hb, hF⟩ := G w mg fa _ Y T.T.g hmg
  refine law_call KX T.T.g T.T.b T.T.builtins T.T.nolimit hg hobj hints (Nat.le_trans hlen (by rw [sizeLine_eq]; decide)) hr hF hb (fun H hO hS => ?_) fun H e s' => cx_none
  obtain ⟨h', e⟩ := hφ ns hlen
  exact spM_ro hO hS e
theorem fnAt_by {P : Program} {w : World} {K : PySem.W.Frag} {mg : Str → Option Value} {base : Heap} {x qual : Str} {params : Arguments} {body : List Stmt} {scope : Scope} {f : Addr} {fd : FuncData} {ps : List Str} {k np nN : Nat} {M : SM} (kd : Nrm) (hp : ps.length = np)
    (F : FunD K x qual params body scope [] [] f fd) (hm : mg x = some (.ref f)) (hb : Binds K fd ps []) (G : FnOk P w K mg base (L2.CX P w) (k + 1) f fd ps (spM K np (kd.f (runM np nN M)))) : FnAt P w K mg base (k + 1) x ps (kd.f (runM np nN M)) := by
  subst hp
  exact ⟨⟨f, fd, hm, F.kp, hb, G⟩, kd.ar _ _ (runM_ar _ _ _)⟩
end DV
namespace DV
open PySem PySem.Spec PyProof.Rows L2
abbrev QX := Str → Hs → Prop
def R.wp {α : Type} (r : R α) (Q : α → Hs → Prop) (X : QX) : Prop := match r with
  | .ok a h => Q a h
  | .exc c h => X c h
  | .bad => False
def RS.wp (r : RS) (N : Sl → Hs → Prop) (Q : D → Hs → Prop) (X : QX) : Prop := match r with
  | .nx ds h => N ds h
  | .rt d h => Q d h
  | .exc c _ h => X c h
  | _ => False
def xF : QX := fun _ _ => False
@[simp] theorem wp_ok {α : Type} (a : α) (h : Hs) (Q : α → Hs → Prop) (X : QX) : (R.ok a h).wp Q X = Q a h := rfl
@[simp] theorem wp_exc {α : Type} (c : Str) (h : Hs) (Q : α → Hs → Prop) (X : QX) : (R.exc c h : R α).wp Q X = X c h := rfl
@[simp] theorem wp_bad {α : Type} (Q : α → Hs → Prop) (X : QX) : (R.bad : R α).wp Q X = False := rfl
@[simp] theorem wp_bind {α β : Type} (r : R α) (k : α → Hs → R β) (Q : β → Hs → Prop) (X : QX) : (r.bind k).wp Q X = r.wp (fun a h => (k a h).wp Q X) X := by cases r <;> rfl
@[simp] theorem ws_lift {α : Type} (r : R α) (ds : Sl) (k : α → Hs → RS) (N : Sl → Hs → Prop) (Q : D → Hs → Prop) (X : QX) : (lift r ds k).wp N Q X = r.wp (fun a h => (k a h).wp N Q X) X := by cases r <;> rfl
theorem R.wp_mono {α : Type} {r : R α} {Q Q' : α → Hs → Prop} {X X' : QX} (w : r.wp Q X) (f : ∀ a h, Q a h → Q' a h) (g : ∀ c h, X c h → X' c h) : r.wp Q' X' := by
  cases r with
  | ok a h => exact f a h w
  | exc c h => exact g c h w
  | bad => exact w
theorem RS.wp_mono {r : RS} {N N' : Sl → Hs → Prop} {Q Q' : D → Hs → Prop} {X X' : QX} (w : r.wp N Q X) (e : ∀ ds h, N ds h → N' ds h) (f : ∀ a h, Q a h → Q' a h) (g : ∀ c h, X c h → X' c h) : r.wp N' Q' X' := by
  cases r with
  | nx ds h => exact e ds h w
  | rt a h => exact f a h w
  | exc c ds h => exact g c h w
  | bk _ _ => exact w
  | ct _ _ => exact w
  | bad => exact w
/-- a told end -/
theorem R.wp_eq {α : Type} {r : R α} {a : α} {h : Hs} : r.wp (fun a' h' => a' = a ∧ h' = h) xF ↔ r = .ok a h := by
  cases r with
  | ok a' h' => exact ⟨fun ⟨e1, e2⟩ => by rw [e1, e2], fun e => by cases e; exact ⟨rfl, rfl⟩⟩
  | exc c h => exact ⟨fun e => e.elim, fun e => nomatch e⟩
  | bad => exact ⟨fun e => e.elim, fun e => nomatch e⟩
theorem R.wp_ex {α : Type} {r : R α} {Q : α → Hs → Prop} (w : r.wp Q xF) : ∃ a h, r = .ok a h ∧ Q a h := by
  cases r with
  | ok a h => exact ⟨a, h, rfl, w⟩
  | exc c h => exact w.elim
  | bad => exact w.elim
section
variable {N : Sl → Hs → Prop} {Q : D → Hs → Prop} {X : QX} {ds : Sl} {h : Hs}
@[simp] theorem wp_c (d : D) : (cM d ds h).wp Q X = Q d h := rfl
theorem wp_v (i : Nat) : (vM i ds h).wp Q X = (match ds[i]? with | some (some d) => Q d h | _ => False) := by
  unfold vM
  rcases ds[i]? with _ | _ | d <;> rfl
@[simp] theorem wp_ofO (o : Res) : (R.ofO o).wp Q X = (match o with | some p => Q p.1 p.2 | none => False) := by cases o <;> rfl
@[simp] theorem wp_bin (F : VF2) (A B : EM) : (binM F A B ds h).wp Q X = (A ds h).wp (fun x h => (B ds h).wp (fun y h => (R.ofO (F x y h)).wp Q X) X) X := by simp only [binM, wp_bind]
@[simp] theorem wp_un (F : D → Hs → Res) (A : EM) : (unM F A ds h).wp Q X = (A ds h).wp (fun x h => (R.ofO (F x h)).wp Q X) X := by simp only [unM, wp_bind]
@[simp] theorem wp_nilA {P : List D → Hs → Prop} : (nilA ds h).wp P X = P [] h := rfl
@[simp] theorem wp_consA {P : List D → Hs → Prop} (A : EM) (B : AM) : (consA A B ds h).wp P X = (A ds h).wp (fun x h => (B ds h).wp (fun xs h => P (x :: xs) h) X) X := by simp only [consA, wp_bind, wp_ok]
@[simp] theorem wp_arg (F : List D → Hs → Res) (A : AM) : (argM F A ds h).wp Q X = (A ds h).wp (fun xs h => (R.ofO (F xs h)).wp Q X) X := by simp only [argM, wp_bind]
@[simp] theorem wp_call (φ : Fm) (A : AM) : (callM φ A ds h).wp Q X = (A ds h).wp (fun xs h => (φ xs h).wp Q X) X := by simp only [callM, wp_bind]
@[simp] theorem wp_mt (ck : D → Hs → Bool) (F : D → List D → Hs → Res) (O : EM) (A : AM) : (mtMc ck F O A ds h).wp Q X = (O ds h).wp (fun d h => ck d h = true ∧ (A ds h).wp (fun xs h => (R.ofO (F d xs h)).wp Q X) X) X := by
  simp only [mtMc, wp_bind]
  congr 1
  funext d h
  by_cases c : ck d h = true
  · simp [c]
  · simp [c]
@[simp] theorem wp_ifE (T : TM) (A B : EM) : (ifE T A B ds h).wp Q X = (T ds h).wp (fun b h => if b = true then (A ds h).wp Q X else (B ds h).wp Q X) X := by
  simp only [ifE, wp_bind]
  congr 1
  funext b h
  split <;> rfl
@[simp] theorem wp_sl (A : EM) (lo hi : OM) : (slM A lo hi ds h).wp Q X = (A ds h).wp (fun d h => (lo ds h).wp (fun l h => (hi ds h).wp (fun u h => (R.ofO (slF d l u h)).wp Q X) X) X) X := by simp only [slM, wp_bind]
@[simp] theorem wp_noP {P : Option Int → Hs → Prop} : (noP ds h).wp P X = P none h := rfl
@[simp] theorem wp_someP {P : Option Int → Hs → Prop} (A : EM) : (someP A ds h).wp P X = (A ds h).wp (fun d h => match d with | .int i => P (some i) h | _ => False) X := by
  simp only [someP, wp_bind]
  congr 1
  funext d h
  cases d <;> rfl
def isBl (d : D) (P : Bool → Prop) : Prop := match d with
  | .bl b => P b
  | _ => False
@[simp] theorem isBl_bl (b : Bool) (P : Bool → Prop) : isBl (.bl b) P = P b := rfl
@[simp] theorem wp_tb {P : Bool → Hs → Prop} (A : EM) : (tbM A ds h).wp P X = (A ds h).wp (fun d h => isBl d fun b => P b h) X := by
  simp only [tbM, wp_bind]
  congr 1
  funext d h
  cases d <;> rfl
@[simp] theorem wp_tru {P : Bool → Hs → Prop} (A : EM) : (truM A ds h).wp P X = (A ds h).wp (fun d h => match truD d h with | some b => P b h | none => False) X := by
  simp only [truM, wp_bind]
  congr 1
  funext d h
  cases truD d h <;> rfl
@[simp] theorem wp_yes {P : Bool → Hs → Prop} : (yesM ds h).wp P X = P true h := rfl
@[simp] theorem wp_and {P : Bool → Hs → Prop} (A B : TM) : (andM A B ds h).wp P X = (A ds h).wp (fun b h => if b = true then (B ds h).wp P X else P false h) X := by
  simp only [andM, wp_bind]
  congr 1
  funext b h
  split <;> rfl
@[simp] theorem wp_or {P : Bool → Hs → Prop} (A B : TM) : (orM A B ds h).wp P X = (A ds h).wp (fun b h => if b = true then P true h else (B ds h).wp P X) X := by
  simp only [orM, wp_bind]
  congr 1
  funext b h
  split <;> rfl
@[simp] theorem wp_not {P : Bool → Hs → Prop} (A : TM) : (notM A ds h).wp P X = (A ds h).wp (fun b h => P (!b) h) X := by simp only [notM, wp_bind, wp_ok]
@[simp] theorem wp_andV (A B : EM) : (andV A B ds h).wp Q X = (A ds h).wp (fun d h => isBl d fun b => if b = true then (B ds h).wp Q X else Q (.bl false) h) X := by
  simp only [andV, wp_bind]
  congr 1
  funext d h
  cases d with
  | bl b => simp only [isBl]; split <;> rfl
  | _ => rfl
@[simp] theorem wp_orV (A B : EM) : (orV A B ds h).wp Q X = (A ds h).wp (fun d h => isBl d fun b => if b = true then Q (.bl true) h else (B ds h).wp Q X) X := by
  simp only [orV, wp_bind]
  congr 1
  funext d h
  cases d with
  | bl b => simp only [isBl]; split <;> rfl
  | _ => rfl
@[simp] theorem wp_notV (A : EM) : (notV A ds h).wp Q X = (A ds h).wp (fun d h => isBl d fun b => Q (.bl (!b)) h) X := by
  simp only [notV, wp_bind]
  congr 1
  funext d h
  cases d <;> rfl
@[simp] theorem wp_chain (F G : VF2) (A B C : EM) : (chainM F G A B C ds h).wp Q X = (A ds h).wp (fun x h => (B ds h).wp (fun y h => (R.ofO (F x y h)).wp (fun z h => isBl z fun b => if b = true then (C ds h).wp (fun w h => (R.ofO (G y w h)).wp Q X) X else Q (.bl false) h) X) X) X := by
  simp only [chainM, wp_bind]
  congr 1
  funext x h
  congr 1
  funext y h
  congr 1
  funext z h
  cases z with
  | bl b => simp only [isBl]; split <;> simp only [wp_bind, wp_ok]
  | _ => rfl
@[simp] theorem ws_pass : (passM ds h).wp N Q X = N ds h := rfl
@[simp] theorem ws_seq (A B : SM) : (seqM A B ds h).wp N Q X = (A ds h).wp (fun ds h => (B ds h).wp N Q X) Q X := by
  unfold seqM
  cases e : A ds h <;> rfl
@[simp] theorem ws_set (i : Nat) (A : EM) : (setM i A ds h).wp N Q X = (A ds h).wp (fun d h => N (ds.set i (some d)) h) X := by simp only [setM, ws_lift]; rfl
@[simp] theorem ws_expr (A : EM) : (exprM A ds h).wp N Q X = (A ds h).wp (fun _ h => N ds h) X := by simp only [exprM, ws_lift]; rfl
@[simp] theorem ws_ret (A : EM) : (retM A ds h).wp N Q X = (A ds h).wp Q X := by simp only [retM, ws_lift]; rfl
@[simp] theorem ws_retN : (retN ds h).wp N Q X = Q .non h := rfl
@[simp] theorem ws_raise (c : Str) : (raiseM c ds h).wp N Q X = X c h := rfl
@[simp] theorem ws_if (T : TM) (A B : SM) : (ifM T A B ds h).wp N Q X = (T ds h).wp (fun b h => if b = true then (A ds h).wp N Q X else (B ds h).wp N Q X) X := by
  simp only [ifM, ws_lift]
  congr 1
  funext b h
  split <;> rfl
@[simp] theorem ws_asg (A : EM) (T : GM) : (asgM A (okG T) ds h).wp N Q X = (A ds h).wp (fun d h => (T d ds h).wp N (fun _ _ => False) xF) X := by
  simp only [asgM, ws_lift]
  congr 1
  funext d h
  unfold okG
  cases T d ds h <;> rfl
@[simp] theorem ws_nameG (i : Nat) (d : D) {Qr : D → Hs → Prop} : (nameG i d ds h).wp N Qr X = N (ds.set i (some d)) h := rfl
@[simp] theorem ws_nilG {Qr : D → Hs → Prop} : (nilG [] ds h).wp N Qr X = N ds h := rfl
@[simp] theorem ws_consG (T : GM) (U : List D → Sl → Hs → RS) (d : D) (xs : List D) : (consG T U (d :: xs) ds h).wp N (fun _ _ => False) xF = (T d ds h).wp (fun ds h => (U xs ds h).wp N (fun _ _ => False) xF) (fun _ _ => False) xF := by
  show (match T d ds h with | .nx ds h => U xs ds h | _ => .bad).wp N (fun _ _ => False) xF = _
  cases T d ds h <;> rfl
@[simp] theorem ws_tupG (n : Nat) (U : List D → Sl → Hs → RS) (xs : List D) {Qr : D → Hs → Prop} : (tupG n U (.tup xs) ds h).wp N Qr X = (xs.length = n ∧ (U xs ds h).wp N Qr X) := by
  unfold tupG
  simp only
  split
  · rename_i c; simp [c]
  · rename_i c; simp only [c, false_and]; rfl
@[simp] theorem ws_setIx (F : D → D → D → Hs → Option Hs) (V O I : EM) : (setIxM F V O I ds h).wp N Q X = (V ds h).wp (fun v h => (O ds h).wp (fun o h => (I ds h).wp (fun i h => match F o i v h with | some h' => N ds h' | none => False) X) X) X := by
  simp only [setIxM, ws_lift]
  congr 1; funext v h
  congr 1; funext o h
  congr 1; funext i h
  cases F o i v h <;> rfl
/-- a loop with what holds ahead of each turn -/
theorem ws_loop {gd : Hs → Prop} {T : GM} {B : SM} (its : List D) (J : Nat → Sl → Hs → Prop) (start : J 0 ds h) (guard : ∀ i ds h, J i ds h → gd h)
    (turn : ∀ i d ds h, its[i]? = some d → J i ds h → (T d ds h).wp (fun ds h => (B ds h).wp (J (i + 1)) Q X) (fun _ _ => False) xF) (done : ∀ ds h, J its.length ds h → N ds h) : (loopM gd T B its ds h).wp N Q X := by
  have gen : ∀ (r : List D) (k : Nat) (ds : Sl) (h : Hs), its.drop k = r → k ≤ its.length → J k ds h → (loopM gd T B r ds h).wp N Q X := by
    intro r
    induction r with
    | nil =>
      intro k ds h e hk j
      have : k = its.length := by have := congrArg List.length e; simp at this; omega
      subst this
      unfold loopM
      rw [if_pos (guard _ _ _ j)]
      exact done ds h j
    | cons d r ih =>
      intro k ds h e hk j
      have hlt : k < its.length := by
        by_cases c : k < its.length
        · exact c
        · rw [List.drop_eq_nil_of_le (by omega)] at e; cases e
      rw [List.drop_eq_getElem_cons hlt] at e
      injection e with e1 e2
      have t := turn k d ds h (by rw [List.getElem?_eq_getElem hlt, e1]) j
      unfold loopM
      rw [if_pos (guard _ _ _ j)]
      cases q : T d ds h with
      | nx ds1 h1 =>
        rw [q] at t
        have t : (B ds1 h1).wp (J (k + 1)) Q X := t
        simp only
        cases q2 : B ds1 h1 with
        | nx ds2 h2 => rw [q2] at t; exact ih (k + 1) ds2 h2 e2 hlt t
        | rt d h2 => rw [q2] at t; exact t
        | exc c ds2 h2 => rw [q2] at t; exact t
        | bk _ _ => rw [q2] at t; exact t.elim
        | ct _ _ => rw [q2] at t; exact t.elim
        | bad => rw [q2] at t; exact t.elim
      | _ => rw [q] at t; exact (show False from t).elim
  exact gen its 0 ds h rfl (Nat.zero_le _) start
@[simp] theorem ws_for (I : IM) (T : GM) (B : SM) : (forM I T B ds h).wp N Q X = (I ds h).wp (fun p h => (loopM p.2 T B p.1 ds h).wp N Q X) X := by simp only [forM, ws_lift]
@[simp] theorem wp_valI {P : List D × (Hs → Prop) → Hs → Prop} (A : EM) : (valI A ds h).wp P X = (A ds h).wp (fun d h => match itsF d h with | some p => P p h | none => False) X := by
  simp only [valI, wp_bind]
  congr 1; funext d h
  cases itsF d h <;> rfl
@[simp] theorem wp_rngI {P : List D × (Hs → Prop) → Hs → Prop} (F : List D → Option (List D)) (A : AM) : (rngI F A ds h).wp P X = (A ds h).wp (fun xs h => match F xs with | some its => P (its, fun _ => True) h | none => False) X := by
  simp only [rngI, wp_bind]
  congr 1; funext d h
  cases F d <;> rfl
theorem wp_run (np nN : Nat) (M : SM) (xs : List D) : (runM np nN M xs h).wp Q X = (xs.length = np ∧ (M (startD nN xs) h).wp (fun _ h => Q .non h) Q X) := by
  unfold runM
  by_cases c : xs.length = np
  · rw [if_pos c]
    simp only [c, true_and]
    cases M (startD nN xs) h <;> rfl
  · rw [if_neg c]; simp [c]
theorem wp_pure (φ : Fm) (xs : List D) : (kPure.f φ xs h).wp Q X = (φ xs h).wp (fun d h' => (noloc d = true ∧ h'.take h.length = h) ∧ Q d h) (fun c h' => h'.take h.length = h ∧ X c h) := by
  show (nPure φ xs h).wp Q X = _
  unfold nPure
  cases φ xs h with
  | ok d h' =>
    simp only [wp_ok]
    split
    · rename_i c; simp [c]
    · rename_i c; simp [c]
  | exc c h' =>
    simp only [wp_exc]
    split
    · rename_i c; simp [c]
    · rename_i c; simp [c]
  | bad => rfl
end
end DV
namespace DV
open PySem PySem.Spec PyProof.Rows L2
section
variable {h : Hs} {i j : Int} {a b : Str} {xs ys : List D}
@[simp] theorem add_int : addF (.int i) (.int j) h = some (.int (i + j), h) := rfl
@[simp] theorem add_strs : addF (.str a) (.str b) h = if a.length + b.length ≤ LIM then some (.str (a ++ b), h) else none := rfl
@[simp] theorem add_tup : addF (.tup xs) (.tup ys) h = if xs.length + ys.length ≤ LIM then some (.tup (xs ++ ys), h) else none := rfl
@[simp] theorem sub_int : subF (.int i) (.int j) h = some (.int (i - j), h) := rfl
@[simp] theorem mul_int' : mulF (.int i) (.int j) h = if cMul i j = true then some (.int (i * j), h) else none := rfl
@[simp] theorem mul_strn : mulF (.str a) (.int j) h = if cB (-1000000 ≤ j ∧ j ≤ 1000000 ∧ a.length ≤ 1000000 ∧ a.length * j.toNat ≤ LIM) = true then some (.str (repS a j.toNat), h) else none := rfl
theorem ipF_int {C : Int → Int → Bool} {g : Int → Int → Int} : ipF C g (.int i) (.int j) h = if C i j = true then some (.int (g i j), h) else none := by
  unfold ipF intF
  simp only
  split <;> rfl
@[simp] theorem mod_int' : modF (.int i) (.int j) h = if cMod i j = true then some (.int (i % j), h) else none := ipF_int
@[simp] theorem fdiv_int : fdivF (.int i) (.int j) h = if cDiv i j = true then some (.int (i / j), h) else none := ipF_int
@[simp] theorem pow_int : powF (.int i) (.int j) h = if cPow i j = true then some (.int (i ^ j.toNat), h) else none := ipF_int
theorem cMul_l (h1 : -18446744073709551616 < i) (h2 : i < 18446744073709551616) : cMul i j = true := cB_of (.inl ⟨h1, h2⟩)
theorem cMod_of (h1 : 0 < j) : cMod i j = true := cB_of h1
theorem cDiv_of (h1 : 0 < j) (h2 : j < 1073741824) : cDiv i j = true := cB_of ⟨h1, h2⟩
theorem cPow_of (h1 : 0 ≤ j) (h2 : j ≤ 1000000) (h3 : i.natAbs < 18446744073709551616) : cPow i j = true := cB_of ⟨h1, h2, h3⟩
@[simp] theorem lt_int : ltF (.int i) (.int j) h = some (.bl (decide (i < j)), h) := rfl
@[simp] theorem gt_int : gtF (.int i) (.int j) h = some (.bl (decide (j < i)), h) := rfl
@[simp] theorem ge_int : geF (.int i) (.int j) h = some (.bl (decide (j ≤ i)), h) := rfl
@[simp] theorem neg_int : negF (.int i) h = some (.int (-i), h) := rfl
@[simp] theorem tup_F : tupF xs h = if xs.length ≤ LIM then some (.tup xs, h) else none := rfl
@[simp] theorem lst_F : lstF xs h = if xs.length ≤ LIM then some (.loc h.length, h ++ [.lst xs]) else none := rfl
@[simp] theorem le_LIM {n : Nat} : (n ≤ LIM) = (n ≤ 16777216) := rfl
@[simp] theorem lt_LIM {n : Nat} : (n < LIM) = (n < 16777216) := rfl
theorem eq_of {d e : D} (a : pyOk d = true) (b : pyOk e = true) (z : depD d ≤ 190) [Decidable (d = e)] : eqF d e h = some (.bl (decide (d = e)), h) := by
  unfold eqF; rw [eqB_of a b z, Option.map_some]; congr
theorem ne_of' {d e : D} (a : pyOk d = true) (b : pyOk e = true) (z : depD d ≤ 190) [Decidable (d = e)] : neF d e h = some (.bl (!decide (d = e)), h) := by
  unfold neF; rw [eqB_of a b z, Option.map_some]; congr
open Classical in
@[simp] theorem eq_int : eqF (.int i) (.int j) h = some (.bl (decide (i = j)), h) := by rw [eq_of rfl rfl (Nat.zero_le _)]; simp
open Classical in
@[simp] theorem ne_int' : neF (.int i) (.int j) h = some (.bl (!decide (i = j)), h) := by rw [ne_of' rfl rfl (Nat.zero_le _)]; simp
@[simp] theorem eq_bool' {c d : Bool} : eqF (.bl c) (.bl d) h = some (.bl (c == d), h) := by simp [eqF, eqB, lenNe, pyH, pyW, PyData.canLay0, PyData.depth, PyData.eqv]
@[simp] theorem ne_bool' {c d : Bool} : neF (.bl c) (.bl d) h = some (.bl (!(c == d)), h) := by simp [neF, eqB, lenNe, pyH, pyW, PyData.canLay0, PyData.depth, PyData.eqv]
open Classical in
theorem eq_strs (ha : PyData.strOk a = true) (hb : PyData.strOk b = true) : eqF (.str a) (.str b) h = some (.bl (decide (a = b)), h) := by rw [eq_of (by unfold pyOk; exact ha) (by unfold pyOk; exact hb) (Nat.zero_le _)]; simp
open Classical in
theorem ne_strs (ha : PyData.strOk a = true) (hb : PyData.strOk b = true) : neF (.str a) (.str b) h = some (.bl (!decide (a = b)), h) := by rw [ne_of' (by unfold pyOk; exact ha) (by unfold pyOk; exact hb) (Nat.zero_le _)]; simp
@[simp] theorem ix_tup' : ixF (.tup xs) (.int i) h = (atI xs i).map fun d => (d, h) := rfl
@[simp] theorem ix_str' : ixF (.str a) (.int i) h = if a.length ≤ LIM then (atI a.cps.toList i).map (fun c => (.str ⟨#[c]⟩, h)) else none := rfl
@[simp] theorem len_tup : lenF [.tup xs] h = some (.int xs.length, h) := rfl
@[simp] theorem len_ro {ns : List Int} : lenF [.ro ns] h = some (.int ns.length, h) := rfl
@[simp] theorem len_str' : lenF [.str a] h = if a.length ≤ LIM then some (.int a.length, h) else none := rfl
@[simp] theorem int_int : intT [.int i] h = some (.int i, h) := rfl
@[simp] theorem int_bool {c : Bool} : intT [.bl c] h = some (.int (if c then 1 else 0), h) := rfl
theorem ix_lst {l : Nat} (e : h[l]? = some (.lst xs)) : ixF (.loc l) (.int i) h = (atI xs i).map fun d => (d, h) := by simp [ixF, e]
theorem len_lst {l : Nat} (e : h[l]? = some (.lst xs)) : lenF [.loc l] h = some (.int xs.length, h) := by simp [lenF, e]
theorem its_lst {l : Nat} (e : h[l]? = some (.lst xs)) : itsF (.loc l) h = some (xs, fun h => h[l]? = some (.lst xs)) := by simp [itsF, e]
@[simp] theorem its_tup : itsF (.tup xs) h = some (xs, fun _ => True) := rfl
@[simp] theorem its_str : itsF (.str a) h = some (a.cps.toList.map fun c => .str ⟨#[c]⟩, fun _ => True) := rfl
@[simp] theorem its_ro {ns : List Int} : itsF (.ro ns) h = some (ns.map D.int, fun _ => True) := rfl
@[simp] theorem in_sign {c : Nat} : inF (.str ⟨#[c]⟩) (.str b) h = some (.bl (decide (c ∈ b.cps.toList)), h) := rfl
@[simp] theorem nin_sign {c : Nat} : ninF (.str ⟨#[c]⟩) (.str b) h = some (.bl (!decide (c ∈ b.cps.toList)), h) := rfl
theorem atI_nat {α : Type} {zs : List α} {k : Nat} (hk : k < zs.length) : atI zs (k : Int) = zs[k]? := by
  unfold atI ixN
  simp [hk]
theorem pw62 : (2 : Int) ^ 62 = 4611686018427387904 := by decide +kernel
theorem inR_of (h1 : -1000000000000 ≤ j) (h2 : j ≤ 1000000000000) : inR j = true := by
  unfold inR
  rw [pw62]
  exact cB_of ⟨by omega, by omega⟩
@[simp] theorem rng1_int : rng1 [.int j] = if inR j = true then some ((List.range j.toNat).map fun (i : Nat) => .int (i : Int)) else none := rfl
@[simp] theorem rng2_int : rng2 [.int i, .int j] = if inR i = true ∧ inR j = true then some ((List.range (j - i).toNat).map fun (k : Nat) => .int (i + (k : Int))) else none := rfl
end
section
variable {h r : Hs} {o : AO} {l k : Nat}
theorem get_app (e : h[l]? = some o) : (h ++ r)[l]? = some o := by
  obtain ⟨q, _⟩ := List.getElem?_eq_some_iff.mp e
  rw [List.getElem?_append_left q]; exact e
@[simp] theorem get_new : (h ++ r)[h.length + k]? = r[k]? := by rw [List.getElem?_append_right (by omega)]; congr 1; omega
@[simp] theorem get_new0 : (h ++ r)[h.length]? = r[0]? := by rw [List.getElem?_append_right (by omega)]; congr 1; omega
@[simp] theorem set_new : (h ++ r).set (h.length + k) o = h ++ r.set k o := (List.set_append_right _ _ (by omega)).trans (by rw [Nat.add_sub_cancel_left])
@[simp] theorem set_new0 : (h ++ r).set h.length o = h ++ r.set 0 o := (List.set_append_right _ _ (Nat.le_refl _)).trans (by rw [Nat.sub_self])
end
end DV
namespace DV
open PySem PySem.Spec PyProof.Rows L2
structure ExcF (K : PySem.W.Frag) (mg : Str → Option Value) (c : Str) : Prop where
  q : PySem.W.excIn K (He.ga K c) He.veBase "ValueError.__new__" = true
  g : mg c = some (.ref (He.ga K c))
  k : PySem.W.keepIn K (.ref (He.ga K c)) = true
  b : PySem.W.subIn K (.ref (He.ga K c)) (.type "BaseException") = some true
  t : PySem.W.typeIn K (.ref (He.ga K c)) = some (.type "type")
section
variable {X : Cx} {g : Cfg} {c m : Str} {j : Option Str} {p p2 pos pos' : Pos}
theorem sm_raise {jj} (E : ExcF X.K X.mg c) (hK : X.K = g.K) (hc : X.calm = true) (tk : Takes X g.W) (hg : Gl X c) (hdb : (c == ("__debug__" : Str)) = false := by decide) : PS X (.Raise (some (.Call (.Name c p) [.Constant (.str m) jj p2] [] pos)) none pos') (tS g (raiseM c)) := by
  refine PS.weak (ps_raise hc tk (pmk_own PySem.F.excBase_ValueError E.q E.g E.k (raises_own E.b E.t) hg hdb)) fun N σ H ⟨m, ds, h, hs, rh, o⟩ => ?_
  rw [hK]
  exact o σ m H (.refl _ _) hs rh
end
end DV
namespace DV
open PySem PySem.Spec PyProof.Rows L2
/-- the tuple at a, each item in a new pair with jts number -/
def Itm (K : PySem.W.Frag) (a : Addr) : It where
  go := fun i H => ∃ (xs : List V) (x : V), SqT K H a xs ∧ xs[i]? = some x
  yld := fun i H v H' => ∃ T x, v = .ref T ∧ H T = none ∧ H' = upd H T (.tup [.int (i : Nat), x]) ∧ ∀ xs, SqT K H a xs → xs[i]? = some x
  stop := fun i H => ∃ xs : List V, SqT K H a xs ∧ xs.length ≤ i
theorem enum_apart {h : Heap} {e it a : Addr} {c : Int} {old : Value} {items : Array Value} (he : IsEnum h e it c old) (ha : h.IsTuple a items) : e ≠ a := by
  rintro rfl
  obtain ⟨o, ho, hc, _⟩ := ha
  have he : h.get? e = some _ := he
  rw [he] at ho
  cases ho
  injection hc with z
  exact absurd z (by decide)
theorem turn_enumT {P : Program} {w : World} {K : PySem.W.Frag} {elts : List Expr} {kk : Nat} {tpos : Pos} (a e it : Addr) :
    Turn P w K (.Tuple elts kk tpos) (Itm K a) [e, it] e (fun i h => (∃ old, IsEnum h e it (i : Nat) old) ∧ h.IsTupleIter it a i ∧ e ≠ it ∧ a ≠ it) where
  mem := List.mem_cons_self
  obj := by
    rintro i h ⟨⟨old, he⟩, ⟨o, ho, hc, hd⟩, _⟩ b hb
    rcases List.mem_cons.mp hb with rfl | hb
    · exact ⟨_, he, fun v q => nomatch q⟩
    · cases List.mem_singleton.mp hb
      exact ⟨o, ho, fun v q => by rw [hd] at q; cases q⟩
  keep := by
    rintro i h h' ⟨⟨old, he⟩, hi, hne, hna⟩ k
    exact ⟨⟨old, k e (by simp) _ he⟩, hi.at fun o q => k it (by simp) o q, hne, hna⟩
  item := by
    intro X hP hw hK hc i pns s σ H E I hf st hg
    subst hP hw hK
    obtain ⟨⟨old, he⟩, hit, hne, hna⟩ := st
    obtain ⟨xs, x, hq, hx⟩ := hg
    obtain ⟨jts, rv, p, hz⟩ := I.tuple hq
    have p' : s.heap.IsTuple a jts.toArray := p
    obtain ⟨u, hu, ru⟩ := rv.get hx
    have hel : e < s.heap.objs.size := Heap.lt_size he
    have hil : it < s.heap.objs.size := by obtain ⟨_, q, _⟩ := hit; exact Heap.lt_size q
    have hh : X.A.in1.handled = none := I.ok.hd hc
    have D := Draws.tuple (prog := X.prog) (w := X.w) hh it a hna jts.toArray
    have hlt : i < jts.toArray.size := by
      have := (List.getElem?_eq_some_iff.mp hu).1
      simpa using this
    refine wpAny_pyNext_enum_itemD D he ⟨hit, p'⟩ hlt hne (fun q => ?_) fun y h' tk hy ho hst hT hsz hk => ?_
    · rcases List.mem_cons.mp q with q | q
      · exact hne q
      · exact enum_apart he p' (List.mem_singleton.mp q)
    · have ey : y = u := by
        have hy : jts.toArray[i]? = some y := hy
        rw [List.getElem?_toArray, hu] at hy
        exact (Option.some.inj hy).symm
      subst ey
      refine ⟨_, rfl, wpAny_letOwnedTupleGo_enum (s := { s with heap := h', toks := tk + 1 }) ho fun h2 he2 sb => ?_⟩
      have hT2 : h2.get? s.heap.objs.size = some { cls := .type "tuple", data := .seq #[.int i tk, y] } := (sb.2 _ (Nat.ne_of_gt hel)).trans hT
      have new : ObjOk X.prog X.w (upd H s.heap.objs.size (.tup [.int (i : Nat), x])) h2 s.heap.objs.size (.tup [.int (i : Nat), x]) :=
        ⟨by show 2 ≤ sizeLine; decide, [.int i tk, y], .cons ⟨_, rfl⟩ (.cons ru .nil), ⟨_, hT2, rfl, _, rfl⟩⟩
      have I1 : Inv X pns σ (upd H s.heap.objs.size (.tup [.int (i : Nat), x])) { s with heap := h2, toks := tk + 1 } :=
        I.turnedNew (ch := [e, it]) (fun b ob hb q => (sb.2 b (fun z => hb (by simp [z]))).trans (hk b ob (fun z => hb (by simp [z])) (fun z => hb (by simp [z])) q)) hf (Nat.le_refl _) new
      refine ⟨.ref s.heap.objs.size, _, I1, rfl, ⟨_, x, rfl, I.hok.fresh (Nat.le_refl _), rfl, fun ys hy => by rw [I.tuple_inj hy hq]; exact hx⟩, ⟨⟨y, ?_⟩, hst.1.at fun o q => (sb.2 it (Ne.symm hne)).trans q, hne, hna⟩, fun b hb => ?_⟩
      · have e1 : ((i + 1 : Nat) : Int) = (i : Int) + 1 := by omega
        rw [e1]; exact he2
      · have hb' : b < s.heap.objs.size := by
          rcases List.mem_cons.mp hb with rfl | hb
          · exact hel
          · cases List.mem_singleton.mp hb; exact hil
        rw [upd_ne (Nat.ne_of_lt hb')]
        exact (hf b hb).1
  done := by
    intro X hP hw hK hc i pns s σ H E I hf st hg
    subst hP hw hK
    obtain ⟨⟨old, he⟩, hit, hne, hna⟩ := st
    obtain ⟨xs, hq, hx⟩ := hg
    obtain ⟨jts, rv, p, hz⟩ := I.tuple hq
    have p' : s.heap.IsTuple a jts.toArray := p
    obtain ⟨f0, f1, f2, f3, f4, f5⟩ := hf it (by simp)
    have hl := rv.length
    have hh : X.A.in1.handled = none := I.ok.hd hc
    have D : Draws X.prog X.w X.A.in1 it [it, a] 0 (fun _ _ => False) (fun _ h => h.IsTupleIter it a i ∧ h.IsTuple a jts.toArray) := {
      live := fun _ _ st => let ⟨o, ho, _⟩ := st.1; ⟨o, ho⟩
      frame := fun _ _ _ st hk => ⟨st.1.at fun o z => hk it (by simp) o z, st.2.at fun o z => hk a (by simp) o z⟩
      item := fun k s Q E hk => absurd hk (Nat.not_lt_zero _)
      done := fun s Q E st hE => wpAny_nextOf_tuple_end hh st.1 st.2 (by rw [List.getElem?_toArray]; exact List.getElem?_eq_none (by omega)) hE }
    exact wpAny_pyNext_enum_endD D he ⟨hit, p'⟩ fun h' eb => ⟨rfl, I.turned (t' := s.toks) (fun b o hb q => eb b o hb q) f0 f1 f3 f4 f5⟩
  self := fun A i s Q E st h => let ⟨⟨_, he⟩, _⟩ := st; wpAny_pyIter_enum he h
/-- enumerate(t): jts new cells -/
theorem meets_enumT (v : Value) (o : Obj) (G : Heap → Prop) (B : Begins v o G) :
    Meets (Builtin.«enumerate.__new__» ⟨[.type "enumerate", v], []⟩) (fun _ R s => G s.heap ∧ R (.ok (.ret (.ref (s.heap.push o).objs.size)))
      { s with heap := (s.heap.push o).push { cls := .type "enumerate", data := .fields #[.none, .bool false, .ref s.heap.objs.size, rawInt 0, .none, .none] } }) :=
  .of_wp fun prog w A R s h => by
    obtain ⟨hp, gg, dd, tk, os⟩ := s
    obtain ⟨g1, h⟩ := h
    have hsub := sub_enumerate
    have go : ∀ {A' : Around} {E Q : Value → Shared → Prop}, Q (.ref hp.objs.size) ⟨hp.push o, gg, dd, tk, os⟩ → wpAny (model prog w) A' (pyIter v) Q E ⟨hp, gg, dd, tk, os⟩ := fun q => B.iter prog w _ _ ⟨hp, gg, dd, tk, os⟩ _ g1 q
    wp_walk
    refine wpAny_stack_any fun st => wpAny_pure ?_
    split
    · rename_i c _ _ _ _ _
      cases (c == Value.type "enumerate")
      · wp_walk using go
        exact ⟨_, rfl, h⟩
      · wp_walk using go
        exact ⟨_, rfl, h⟩
    · wp_walk using go
      exact ⟨_, rfl, h⟩
theorem call_enumT {P : Program} {w : World} {A : Around} {E Q : Value → Shared → Prop} {s : Shared} {t : Addr} {items : Array Value} (ht : s.heap.IsTuple t items)
    (h : ∀ h', IsEnum h' (s.heap.objs.size + 1) s.heap.objs.size ((0 : Nat) : Int) .none → h'.IsTupleIter s.heap.objs.size t 0 → h'.objs.size = s.heap.objs.size + 2 → (∀ b o, s.heap.get? b = some o → h'.get? b = some o) → Q (.ref (s.heap.objs.size + 1)) { s with heap := h' }) :
    wpAny (model P w) A (call (.type "enumerate") [.ref t]) Q E s := by
  refine callType_new F.called_enumerate (by decide) (F.typeCall_enumerate_1 _) (F.newCall_enumerate_1 _) (fun obj => F.args_object_init_2 obj _) F.entry_enumerate_new (meets_enumT _ _ _ (begins_tuple t items)) ⟨ht, ?_⟩
  have hz := Heap.size_push s.heap { cls := .type "tuple_iterator", data := .fields #[.ref t, .int 0 0] }
  have he := Heap.get?_push_size (s.heap.push { cls := .type "tuple_iterator", data := .fields #[.ref t, .int 0 0] }) (o := { cls := .type "enumerate", data := .fields #[.none, .bool false, .ref s.heap.objs.size, rawInt 0, .none, .none] }) rfl
  show _ ∧ _
  rw [hz] at he ⊢
  exact ⟨⟨_, he, rfl⟩, h _ he ⟨_, Heap.get?_push_of_some _ (Heap.get?_push_size _ rfl), rfl, rfl⟩ (by rw [Heap.size_push, hz]) fun b o x => Heap.get?_push_of_some _ (Heap.get?_push_of_some _ x)⟩
def numD (xs : List D) : List D := xs.zipIdx.map fun p => .tup [.int (p.2 : Nat), p.1]
def enumF (d : D) (h : Hs) : Option (List D × (Hs → Prop)) := match d with
  | .tup ds => some (numD ds, fun _ => True)
  | .loc l => match h[l]? with
    | some (.lst ds) => some (numD ds, fun h => h[l]? = some (.lst ds))
    | _ => none
  | _ => none
def enumI (A : EM) : IM := fun ds h => (A ds h).bind fun d h => match enumF d h with
  | some p => .ok p h
  | none => .bad
theorem numD_get {xs : List D} {i : Nat} {d : D} (e : (numD xs)[i]? = some d) : ∃ x, xs[i]? = some x ∧ d = .tup [.int (i : Nat), x] := by
  unfold numD at e
  rw [List.getElem?_map, List.getElem?_zipIdx] at e
  cases q : xs[i]? with
  | none => rw [q] at e; cases e
  | some x => rw [q] at e; cases e; exact ⟨x, rfl, by simp⟩
theorem numD_len (xs : List D) : (numD xs).length = xs.length := by simp [numD]
section
variable {K : PySem.W.Frag} {p : Addr} {vs : List V} {ds : List D} {m : List Addr} {H : Hp}
theorem pair_rep {h : Hs} {i : Nat} {x : D} {v : V} {T : Addr} (rv : RepV K m H x v) (rh : RepH K m H h) (hT : H T = none) :
    Grow m H m (upd H T (.tup [.int (i : Nat), v])) ∧ RepV K m (upd H T (.tup [.int (i : Nat), v])) (.tup [.int (i : Nat), x]) (.ref T) ∧ RepH K m (upd H T (.tup [.int (i : Nat), v])) h := by
  refine ⟨.put hT, ?_, rh.put hT⟩
  unfold RepV
  exact ⟨T, _, rfl, upd_same, .cons (by unfold RepV; rfl) (.cons (rv.mono (.put hT)) .nil)⟩
theorem isIt_enumT (hp : H p = some (.tup vs)) (rl : RepL K m H ds vs) : IsIt K (Itm K p) (numD ds) (fun _ => True) m H := by
  intro i m' H' h' g' rh' _
  have hp' := g'.tup _ _ hp
  refine ⟨fun d hd => ?_, fun hi => ⟨vs, SqT.of hp', by rw [rl.length]; rw [numD_len] at hi; exact hi⟩⟩
  obtain ⟨x, hx, rfl⟩ := numD_get hd
  obtain ⟨v, hv, rv⟩ := rl.get hx
  refine ⟨⟨vs, v, SqT.of hp', hv⟩, fun y H2 ⟨T, u, ey, hT, eH, q⟩ => ?_⟩
  have := q vs (SqT.of hp')
  rw [hv] at this; cases this
  subst ey eH
  exact pair_rep (rv.mono g') rh' hT
theorem isIt_enumL {l : Nat} (hp : m[l]? = some p) : IsIt K (Ite K p) (numD ds) (fun h => h[l]? = some (.lst ds)) m H := by
  intro i m' H' h' g' rh' hg
  obtain ⟨⟨r, rfl⟩, _, _, _⟩ := g'
  obtain ⟨hlt, _⟩ := List.getElem?_eq_some_iff.mp hp
  have hp' : (m ++ r)[l]? = some p := by rw [List.getElem?_append_left hlt]; exact hp
  obtain ⟨vs, hv, rl⟩ := rh'.lst hp' hg
  refine ⟨fun d hd => ?_, fun hi => ⟨vs, SqL.of hv, by rw [rl.length]; rw [numD_len] at hi; exact hi⟩⟩
  obtain ⟨x, hx, rfl⟩ := numD_get hd
  obtain ⟨v, hw, rv⟩ := rl.get hx
  refine ⟨⟨vs, v, SqL.of hv, hw⟩, fun y H2 ⟨T, u, ey, hT, eH, q⟩ => ?_⟩
  have := q vs (SqL.of hv)
  rw [hw] at this; cases this
  subst ey eH
  exact pair_rep rv rh' hT
end
/-- enumerate of a list or a tuple -/
theorem pi_enumA {X : Cx} {e : Expr} {ta : TA} {p pos tpos : Pos} {elts : List Expr} {kk : Nat} (hg : Gl X "enumerate") (hm : X.mg "enumerate" = none) (ha : PA X [e] ta) (hs : starEach [e] X.env = [(false, eval e X.env)] := by rfl) :
    PI X (.Tuple elts kk tpos) (.Call (.Name "enumerate" p) [e] [] pos) (fun σ H R => ta σ H fun vs H1 => ∃ a, vs = [.ref a] ∧ ((∃ xs, SqL X.K H1 a xs ∧ R (Ite X.K a) H1) ∨ ∃ xs, SqT X.K H1 a xs ∧ R (Itm X.K a) H1)) := by
  refine ⟨fun pns s σ H R I h => ?_⟩
  refine Call_ (ld_blt I hg hm boot_enumerate (PyProof.Rows.callWith_type1 (thn (ha.run pos pns s σ H _ I h) fun us s1 ⟨vs, H1, I1, r1, q1⟩ => ?_) hs rfl))
  obtain ⟨a, rfl, q1⟩ := q1
  obtain ⟨u, rfl, r⟩ := vals1 r1
  cases r
  have cells : ∀ {b : Addr}, b ∈ [s1.heap.objs.size + 1, s1.heap.objs.size] → s1.heap.objs.size ≤ b := fun hb => by
    rcases List.mem_cons.mp hb with rfl | hb
    · exact Nat.le_add_right _ _
    · cases List.mem_singleton.mp hb; exact Nat.le_refl _
  rcases q1 with ⟨xs, hq, q⟩ | ⟨xs, hq, q⟩
  · obtain ⟨jts, rv, p', hz⟩ := I1.list hq
    refine call_enumerate_list p'.isList fun h' he hit hsz hk => wpAny_pyIter_enum he ?_
    exact ⟨s1.heap.objs.size + 1, [s1.heap.objs.size + 1, s1.heap.objs.size], _, _, H1, rfl, I1.kept (t' := s1.toks) hk, turn_enum a (s1.heap.objs.size + 1) s1.heap.objs.size, ⟨⟨.none, he⟩, hit, Nat.succ_ne_self _⟩, fun b hb => I1.fpOk (cells hb) (I1.hok.fresh (cells hb)), q⟩
  · obtain ⟨jts, rv, p', hz⟩ := I1.tuple hq
    have p2 : s1.heap.IsTuple a jts.toArray := p'
    have hlt : a < s1.heap.objs.size := by obtain ⟨o, ho, _⟩ := p2; exact Heap.lt_size ho
    refine call_enumT p2 fun h' he hit hsz hk => wpAny_pyIter_enum he ?_
    exact ⟨s1.heap.objs.size + 1, [s1.heap.objs.size + 1, s1.heap.objs.size], _, _, H1, rfl, I1.kept (t' := s1.toks) hk, turn_enumT a (s1.heap.objs.size + 1) s1.heap.objs.size, ⟨⟨.none, he⟩, hit, Nat.succ_ne_self _, Nat.ne_of_lt hlt⟩, fun b hb => I1.fpOk (cells hb) (I1.hok.fresh (cells hb)), q⟩
theorem im_enum {X : Cx} {g : Cfg} {e : Expr} {A : EM} {p pos tpos : Pos} {elts : List Expr} {kk : Nat} (hK : X.K = g.K) (hg : Gl X "enumerate") (hm : X.mg "enumerate" = none) (he : PE X e (tM g A)) (hs : starEach [e] X.env = [(false, eval e X.env)] := by rfl) :
    PI X (.Tuple elts kk tpos) (.Call (.Name "enumerate" p) [e] [] pos) (tI g (enumI A)) := by
  refine PI.weak (pi_enumA hg hm (pa_cons he pa_nil (by rw [hs] <;> rfl)) hs) fun σ H R ⟨m, ds, h, hs, rh, o⟩ => ⟨m, ds, h, hs, rh, OutE.toI o fun d h1 v m1 H1 g1 r1 rh1 o1 => ?_⟩
  rw [hK]
  cases d with
  | tup xs =>
    unfold RepV at r1
    obtain ⟨p, vs, rfl, hp, rl⟩ := r1
    exact ⟨p, rfl, .inr ⟨vs, SqT.of hp, o1 _ m1 H1 (.refl _ _) rh1 (isIt_enumT hp rl)⟩⟩
  | loc l =>
    unfold RepV at r1
    obtain ⟨p, hp, rfl⟩ := r1
    cases q : h1[l]? with
    | none => simp only [enumF, q] at o1; exact o1.elim
    | some ao =>
      cases ao with
      | lst xs =>
        obtain ⟨vs, hv, rl⟩ := rh1.lst hp q
        simp only [enumF, q] at o1
        exact ⟨p, rfl, .inl ⟨vs, SqL.of hv, o1 _ m1 H1 (.refl _ _) rh1 (isIt_enumL hp)⟩⟩
      | _ => simp only [enumF, q] at o1; exact o1.elim
  | _ => exact (show False from o1).elim
@[simp] theorem wp_enumI {ds : Sl} {h : Hs} {X : QX} {P : List D × (Hs → Prop) → Hs → Prop} (A : EM) : (enumI A ds h).wp P X = (A ds h).wp (fun d h => match enumF d h with | some p => P p h | none => False) X := by
  simp only [enumI, wp_bind]
  congr 1; funext d h
  cases enumF d h <;> rfl
end DV
namespace DV
open PySem PySem.Spec PyProof.Rows L2
section
variable {X : QX} {ds : Sl} {h h0 : Hs} {Q : D → Hs → Prop} {own : List Nat} {I : IM} {T : GM} {C : TM} {A : EM} {gd : Hs → Prop}
@[simp] theorem wp_lc : (lcM own I T C A ds h).wp Q X = (I ds h).wp (fun p h => (lcLoop p.2 h.length T C A (wipeD ds own) p.1 (h ++ [.lst []])).wp Q X) X := by simp only [lcM, wp_bind]
@[simp] theorem wipe_nil : wipeD ds [] = ds := rfl
@[simp] theorem wipe_cons {v : Nat} {vs : List Nat} : wipeD ds (v :: vs) = (wipeD ds vs).set v none := rfl
/-- one turn: what it gives (none: left out), the heap as it is -/
def LcTurn (T : GM) (C : TM) (A : EM) (ds : Sl) (d : D) (o : Option D) (h : Hs) : Prop :=
  (T d ds h).wp (fun ds1 h1 => h1 = h ∧ (C ds1 h).wp (fun b h2 => h2 = h ∧ match o with
    | some y => b = true ∧ (A ds1 h).wp (fun y' h3 => y' = y ∧ h3 = h) xF
    | none => b = false) xF) (fun _ _ => False) xF
theorem lc_loop (its : List D) (fs : List (Option D)) (hl : its.length = fs.length) (acc : List D) (hz : acc.length + its.length ≤ 16777216)
    (g : ∀ acc : List D, gd (h0 ++ [.lst acc])) (turn : ∀ (i : Nat) (d : D) (o : Option D) (acc : List D), its[i]? = some d → fs[i]? = some o → LcTurn T C A ds d o (h0 ++ [.lst acc])) :
    lcLoop gd h0.length T C A ds its (h0 ++ [.lst acc]) = .ok (.loc h0.length) (h0 ++ [.lst (acc ++ fs.filterMap id)]) := by
  induction its generalizing fs acc with
  | nil =>
    have : fs = [] := List.eq_nil_of_length_eq_zero hl.symm
    subst this
    unfold lcLoop
    rw [if_pos (g acc)]
    simp
  | cons d its ih =>
    cases fs with
    | nil => cases hl
    | cons o fs =>
      simp only [List.length_cons] at hl hz
      have t := turn 0 d o acc rfl rfl
      have rest := fun acc' (hz' : acc'.length + its.length ≤ 16777216) => ih fs (by omega) acc' hz' fun i d' o' a e1 e2 => turn (i + 1) d' o' a e1 e2
      unfold lcLoop
      rw [if_pos (g acc)]
      unfold LcTurn at t
      cases q : T d ds (h0 ++ [.lst acc]) with
      | nx ds1 h1 =>
        rw [q] at t
        obtain ⟨rfl, t⟩ := t
        simp only
        cases q2 : C ds1 (h0 ++ [.lst acc]) with
        | ok b h2 =>
          rw [q2] at t
          obtain ⟨rfl, t⟩ := t
          rw [R.noX_ok, R.bind_ok]
          cases o with
          | none =>
            have t : b = false := t
            subst t
            rw [if_neg Bool.false_ne_true, rest acc (by omega)]
            rfl
          | some y =>
            obtain ⟨rfl, t⟩ := t
            rw [if_pos rfl]
            obtain ⟨y', h3, e, rfl, rfl⟩ := R.wp_ex t
            rw [e, R.noX_ok, R.bind_ok]
            have e1 : (h0 ++ [AO.lst acc])[h0.length]? = some (.lst acc) := by simp
            have e2 : (h0 ++ [AO.lst acc]).set h0.length (.lst (acc ++ [y'])) = h0 ++ [.lst (acc ++ [y'])] := by simp
            rw [e1]
            simp only
            rw [if_pos (by show acc.length < 16777216; omega), e2, rest (acc ++ [y']) (by rw [List.length_append]; simp; omega)]
            simp
        | exc c h2 => rw [q2] at t; exact t.elim
        | bad => rw [q2] at t; exact t.elim
      | _ => rw [q] at t; exact (show False from t).elim
theorem lc_map (its ys : List D) (hl : its.length = ys.length) (hz : its.length ≤ 16777216)
    (g : ∀ acc : List D, gd (h0 ++ [.lst acc])) (turn : ∀ (i : Nat) (d y : D) (acc : List D), its[i]? = some d → ys[i]? = some y → LcTurn T C A ds d (some y) (h0 ++ [.lst acc])) :
    lcLoop gd h0.length T C A ds its (h0 ++ [.lst []]) = .ok (.loc h0.length) (h0 ++ [.lst ys]) := by
  have := lc_loop (h0 := h0) (gd := gd) (T := T) (C := C) (A := A) (ds := ds) its (ys.map some) (by simpa using hl) [] (by simpa using hz) g fun i d o acc e1 e2 => by
    rw [List.getElem?_map] at e2
    cases q : ys[i]? with
    | none => rw [q] at e2; cases e2
    | some y => rw [q] at e2; cases e2; exact turn i d y acc e1 q
  rw [this, List.nil_append, List.filterMap_map]
  simp
/-- the test is none: every item gives its image -/
theorem lc_map1 {i : Nat} (its ys : List D) (hl : its.length = ys.length) (hz : its.length ≤ 16777216)
    (g : ∀ acc : List D, gd (h0 ++ [.lst acc])) (turn : ∀ (k : Nat) (d y : D) (acc : List D), its[k]? = some d → ys[k]? = some y → A (ds.set i (some d)) (h0 ++ [.lst acc]) = .ok y (h0 ++ [.lst acc])) :
    lcLoop gd h0.length (nameG i) yesM A ds its (h0 ++ [.lst []]) = .ok (.loc h0.length) (h0 ++ [.lst ys]) :=
  lc_map its ys hl hz g fun k d y acc e1 e2 => ⟨rfl, rfl, rfl, R.wp_eq.mpr (turn k d y acc e1 e2)⟩
end
@[simp] theorem wp_maxd {ds : Sl} {h : Hs} {Q : D → Hs → Prop} {X : QX} (A B : EM) : (maxdF A B ds h).wp Q X = (A ds h).wp (fun d h => (B ds h).wp (fun e h => (maxdR d e h).wp Q X) X) X := by simp only [maxdF, wp_bind]
theorem wp_new {φ : Fm} {xs : List D} {h : Hs} {Q : D → Hs → Prop} {X : QX} (w : (φ xs h).wp (fun d h' => ∃ l o, d = .loc l ∧ h'[l]? = some o ∧ h.length ≤ l ∧ h'.take h.length = h ∧ nolocO o = true ∧ Q (.loc h.length) (h ++ [o])) (fun c h' => h'.take h.length = h ∧ X c h)) : (kNew.f φ xs h).wp Q X := by
  show (nNew φ xs h).wp Q X
  unfold nNew
  cases e : φ xs h with
  | ok d h' =>
    rw [e] at w
    obtain ⟨l, o, rfl, e1, c1, c2, c3, q⟩ := w
    simp only [e1]
    rw [if_pos ⟨c1, c2, c3⟩]
    exact q
  | exc c h' =>
    rw [e] at w
    simp only
    rw [if_pos w.1]
    exact w.2
  | bad => rw [e] at w; exact w
theorem append_lst {h : Hs} {l : Nat} {xs : List D} {v : D} (e : h[l]? = some (.lst xs)) (hz : xs.length < 16777216) : appendF (.loc l) [v] h = some (.non, h.set l (.lst (xs ++ [v]))) := by
  simp [appendF, e, hz]
theorem ck_lst {h : Hs} {l : Nat} {xs : List D} (e : h[l]? = some (.lst xs)) : ckList (.loc l) h = true := by simp [ckList, e]
section
variable {N : Sl → Hs → Prop} {Q : D → Hs → Prop} {X : QX} {ds : Sl} {h h1 : Hs} {d : D}
theorem st_set {i : Nat} {A : EM} {B : SM} (d : D) (h1 : Hs) (e : (A ds h).wp (fun a' h' => a' = d ∧ h' = h1) xF) (w : (B (ds.set i (some d)) h1).wp N Q X) : (seqM (setM i A) B ds h).wp N Q X := by
  rw [ws_seq, ws_set, R.wp_eq.mp e]
  exact w
theorem RS.wp_eq {r : RS} {ds : Sl} {h : Hs} (w : r.wp (fun a b => a = ds ∧ b = h) (fun _ _ => False) xF) : r = .nx ds h := by
  cases r with
  | nx a b => obtain ⟨rfl, rfl⟩ := w; rfl
  | rt _ _ => exact w.elim
  | exc _ _ _ => exact w.elim
  | bk _ _ => exact w.elim
  | ct _ _ => exact w.elim
  | bad => exact w.elim
theorem st_seq {A B : SM} (ds1 : Sl) (h1 : Hs) (e : (A ds h).wp (fun a b => a = ds1 ∧ b = h1) (fun _ _ => False) xF) (w : (B ds1 h1).wp N Q X) : (seqM A B ds h).wp N Q X := by
  rw [ws_seq, RS.wp_eq e]
  exact w
end
theorem st_guard {N : Sl → Hs → Prop} {Q : D → Hs → Prop} {X : QX} {ds : Sl} {h : Hs} {T : TM} {A C : SM} (h1 : Hs) (e : (T ds h).wp (fun a' h' => a' = false ∧ h' = h1) xF) (w : (C ds h1).wp N Q X) : (seqM (ifM T A passM) C ds h).wp N Q X := by
  rw [ws_seq, ws_if, R.wp_eq.mp e]
  exact w
theorem filterMap_if {α : Type} {p : α → Bool} {f : α → D} : ∀ l : List α, (l.map fun q => if p q then some (f q) else none).filterMap id = (l.filter p).map f
  | [] => rfl
  | q :: l => by
    rw [List.map_cons, List.filterMap_cons, List.filter_cons, filterMap_if l]
    cases p q <;> rfl
end DV
namespace DV
open PySem PySem.Spec PyProof.Rows L2
def dK : Key → D
  | .inl i => .int i
  | .inr s => .str s
def newDM : EM := fun _ h => .ok (.loc h.length) (h ++ [.dct []])
def newTM : EM := fun _ h => .ok (.loc h.length) (h ++ [.dcT []])
end DV
namespace DV
open PySem PySem.Spec PyProof.Rows L2
end DV
namespace DV
open PySem PySem.Spec PyProof.Rows L2
theorem tuple_mul1 (l : Addr) (items : Array Value) (n : Nat) (dd : Option Addr) (sl : Array (Option Value)) (x : Int) (u : Tok) (c0 : (decide (x < -(2 ^ 63)) || decide (x ≥ 2 ^ 63)) = false) (c1 : (items.isEmpty || x == 1) = true) :
    Meets (Builtin.«tuple.__mul__» ⟨[.ref l, .int x u], []⟩) (fun _ R s => s.heap.get? l = some { cls := .type "tuple", dict := dd, data := .seq items n, slots := sl } ∧ R (.ok (.ret (Value.ref l))) s) :=
  .of_wp fun prog w A R s h => by
    obtain ⟨hp, g, d, tk, os⟩ := s
    obtain ⟨hl, h⟩ := h
    have f1 := AutoSeq1.idx_int
    wp_walk using wpAny_loadPart' hl
    repeat (first
      | (refine wpAny_ite_false (decide_eq_false (by rw [c0]; exact Bool.false_ne_true)) ?_; wp_walk using wpAny_loadPart' hl)
      | (refine wpAny_ite_true (decide_eq_true c1) ?_; wp_walk using wpAny_loadPart' hl))
    exact ⟨_, rfl, h⟩
theorem tuple_mul0 (l : Addr) (items : Array Value) (n : Nat) (dd : Option Addr) (sl : Array (Option Value)) (x : Int) (u : Tok) (c0 : (decide (x < -(2 ^ 63)) || decide (x ≥ 2 ^ 63)) = false) (c1 : (items.isEmpty || x == 1) = false) (c2 : (decide (x ≤ 0) || items.isEmpty) = true) :
    Meets (Builtin.«tuple.__mul__» ⟨[.ref l, .int x u], []⟩) (fun _ R s => s.heap.get? l = some { cls := .type "tuple", dict := dd, data := .seq items n, slots := sl } ∧
      R (.ok (.ret (Value.ref s.heap.objs.size))) { s with heap := s.heap.push { cls := Value.type "tuple", data := Data.seq #[] }, toks := s.toks }) :=
  .of_wp fun prog w A R s h => by
    obtain ⟨hp, g, d, tk, os⟩ := s
    obtain ⟨hl, h⟩ := h
    have f1 := AutoSeq1.idx_int
    have hsz : (#[] : Array Value).size ≤ sizeLine := by rw [sizeLine_eq]; decide
    wp_walk using wpAny_loadPart' hl
    repeat (first
      | (refine wpAny_ite_false (decide_eq_false (by rw [c0]; exact Bool.false_ne_true)) ?_; wp_walk using wpAny_loadPart' hl)
      | (refine wpAny_ite_false (decide_eq_false (by rw [c1]; exact Bool.false_ne_true)) ?_; wp_walk using wpAny_loadPart' hl)
      | (refine wpAny_ite_true (decide_eq_true c2) ?_; wp_walk using wpAny_loadPart' hl))
    exact ⟨_, rfl, h⟩
def rRepX (K : PySem.W.Frag) : R2 := fun x y H Q => ∃ l k xs, x = .ref l ∧ y = .int k ∧ SqT K H l xs ∧ -1000 ≤ k ∧ k ≤ 1000 ∧ xs.length ≤ 1000 ∧ ((xs = [] ∨ k = 1) → Q (.ref l) H) ∧ ∀ p, H p = none → Q (.ref p) (upd H p (.tup (List.replicate k.toNat xs).flatten))
section
variable {X : Cx}
theorem op_repX : OpR X (binaryOp .Mult) (rRepX X.K) := by
  intro pns s σ H x y v u Q I rx ry h
  obtain ⟨l, k, xs, rfl, rfl, hT, h1, h2, hz, q1, q⟩ := h
  by_cases big : xs ≠ [] ∧ 2 ≤ k
  · exact op_repT pns s σ H _ _ v u Q I rx ry ⟨l, k, xs, rfl, rfl, hT, big.1, big.2, h2, hz, q⟩
  cases rx
  obtain ⟨t, rfl⟩ := ry
  obtain ⟨jts, r, ⟨⟨cls, dd, data, sl⟩, ho, hc, n, hd⟩, hs⟩ := I.tuple hT
  simp only at hc hd
  subst hc hd
  have hle : jts.length = xs.length := r.length.symm
  have c0 : (decide (k < -(2 ^ 63)) || decide (k ≥ 2 ^ 63)) = false := by
    rw [decide_eq_false (by omega), decide_eq_false (by omega)] <;> rfl
  refine wpAny_binaryOp_repeat_ref (T := "tuple") (U := "int") (by decide) ⟨_, ho, rfl⟩ (fun s' => typeIs_int s' k t) noFill_tuple_mul F.fills_int_mul F.slot_int_rmul repeat_tuple F.slot_int_index.lookup
    (call_meets F.slot_int_rmul (typeIs_int s k t) F.entry_int_rmul (F.args_int_rmul_2 _ _) (int_rmul_tuple k t l jts.toArray n dd sl) ⟨ho, rfl, ⟨_, ho, rfl⟩, ?_⟩)
  by_cases z : xs = [] ∨ k = 1
  · have c1 : (jts.toArray.isEmpty || k == 1) = true := by
      rcases z with z | z
      · have : jts = [] := List.eq_nil_of_length_eq_zero (by rw [hle, z]; rfl)
        subst this; rfl
      · subst z; simp
    exact call_meets F.slot_tuple_mul ⟨_, ho, rfl⟩ F.entry_tuple_mul (F.args_tuple_mul_2 _ _) (tuple_mul1 l jts.toArray n dd sl k t c0 c1) ⟨ho, ⟨.ref l, H, I, rfl, q1 z⟩⟩
  · have hn : jts ≠ [] := fun e => z (.inl (List.eq_nil_of_length_eq_zero (by rw [← hle, e]; rfl)))
    have hx : xs ≠ [] := fun e => z (.inl e)
    have hi : jts.toArray.isEmpty = false := by
      cases jts with
      | nil => exact absurd rfl hn
      | cons a b => rfl
    have hk : k ≤ 0 := by
      have : ¬ 2 ≤ k := fun c => big ⟨hx, c⟩
      have : k ≠ 1 := fun c => z (.inr c)
      omega
    have c1 : (jts.toArray.isEmpty || k == 1) = false := by
      rw [hi, Bool.false_or]; exact beq_eq_false_iff_ne.mpr (by omega)
    have c2 : (decide (k ≤ 0) || jts.toArray.isEmpty) = true := by rw [decide_eq_true hk]; rfl
    have e0 : (List.replicate k.toNat xs).flatten = [] := by
      have : k.toNat = 0 := by omega
      rw [this]; rfl
    have q2 := q s.heap.objs.size (I.hok.fresh (Nat.le_refl _))
    rw [e0] at q2
    refine call_meets F.slot_tuple_mul ⟨_, ho, rfl⟩ F.entry_tuple_mul (F.args_tuple_mul_2 _ _) (tuple_mul0 l jts.toArray n dd sl k t c0 c1 c2) ⟨ho, ?_⟩
    refine ⟨.ref s.heap.objs.size, _, I.laid (t' := s.toks) (o := .tup []) (fun b ob q => Heap.get?_push_of_some _ q) (Nat.le_refl _) ?_, rfl, q2⟩
    exact ⟨by rw [sizeLine_eq]; decide, [], .nil, IsTup.new _ _⟩
end
theorem RepL.rep {K : PySem.W.Frag} {m : List Addr} {H : Hp} {ds : List D} {vs : List V} (r : RepL K m H ds vs) : ∀ k : Nat, RepL K m H (List.replicate k ds).flatten (List.replicate k vs).flatten
  | 0 => .nil
  | k + 1 => by
    rw [List.replicate_succ, List.replicate_succ, List.flatten_cons, List.flatten_cons]
    exact r.append (RepL.rep r k)
noncomputable def mulXF : VF2
  | .tup xs, .int k, h => if -1000 ≤ k ∧ k ≤ 1000 ∧ xs.length ≤ 1000 then some (.tup (List.replicate k.toNat xs).flatten, h) else none
  | d, e, h => mulF d e h
theorem o_mulX {X : Cx} : OpR X (binaryOp .Mult) (rV X.K mulXF) := by
  intro pns s σ H x y v u Q I rx ry h
  obtain ⟨m, hs, dx, dy, r1, r2, rh, o⟩ := h
  unfold mulXF at o
  split at o
  · rename_i xs k
    split at o
    · rename_i c
      have r1' := r1
      unfold RepV at r1 r2
      obtain ⟨a, vs, rfl, ha, rl⟩ := r1
      subst r2
      have ne : vs = [] ↔ xs = [] := rl.nil_iff
      refine op_repX pns s σ H _ _ v u Q I rx ry ⟨a, k, vs, rfl, rfl, SqT.of ha, c.1, c.2.1, by rw [rl.length]; exact c.2.2, fun z => ?_, fun p hp => ?_⟩
      · have e : (List.replicate k.toNat xs).flatten = xs := by
          rcases z with z | z
          · rw [ne.mp z]; simp
          · subst z; simp
        rw [e] at o
        exact OutV.keep o r1' rh
      · exact o (.ref p) m _ (.put hp) (by unfold RepV; exact ⟨p, _, rfl, upd_same, (rl.rep _).mono (.put hp)⟩) (rh.put hp)
    · exact o.elim
  · exact o_mul pns s σ H x y v u Q I rx ry ⟨m, hs, dx, dy, r1, r2, rh, o⟩
/-- which items -/
def stepIx (n : Nat) (lo st : Option Int) : List Nat := sliceRange (sliceBounds lo none st n).1 (sliceBounds lo none st n).2.1 (sliceBounds lo none st n).2.2
def pickL {α : Type} (xs : List α) (lo st : Option Int) : List α := (stepIx xs.length lo st).filterMap fun i => xs[i]?
/-- with a step k, 2 to 9 -/
def stepF (d : D) (lo : Option Int) (k : Int) (h : Hs) : Res := match d with
  | .loc l => match h[l]? with
    | some (.lst ds) => if (pickL ds lo (some k)).length ≤ LIM then some (.loc h.length, h ++ [.lst (pickL ds lo (some k))]) else none
    | _ => none
  | .ro ns => if (pickL ns lo (some k)).length ≤ LIM then some (.loc h.length, h ++ [.lst ((pickL ns lo (some k)).map D.int)]) else none
  | _ => none
def stepM (A : EM) (lo : OM) (k : Int) : EM := fun ds h => (A ds h).bind fun d h => (lo ds h).bind fun l h => .ofO (stepF d l k h)
end DV
namespace DV
open PySem PySem.Spec PyProof.Rows L2
def findF : D → List D → Hs → Res
  | .str a, [.str b], h => some (.int (Txt.find a b), h)
  | _, _, _ => none
def strsOf : List D → Option (List Str)
  | [] => some []
  | .str s :: r => (strsOf r).map fun ss => s :: ss
  | _ => none
theorem strsOf_some : ∀ {ds : List D} {ss : List Str}, strsOf ds = some ss → ds = ss.map D.str
  | [], _, e => by cases e; rfl
  | .str i :: r, ns, e => by
    unfold strsOf at e
    cases q : strsOf r with
    | none => rw [q] at e; cases e
    | some ms => rw [q] at e; cases e; rw [List.map_cons, strsOf_some q]
  | .non :: _, _, e => by cases e
  | .bl _ :: _, _, e => by cases e
  | .int _ :: _, _, e => by cases e
  | .tup _ :: _, _, e => by cases e
  | .loc _ :: _, _, e => by cases e
  | .ro _ :: _, _, e => by cases e
  | .exn _ :: _, _, e => by cases e
@[simp] theorem strsOf_map (ns : List Str) : strsOf (ns.map D.str) = some ns := by
  induction ns with
  | nil => rfl
  | cons n ns ih => rw [List.map_cons]; unfold strsOf; rw [ih]; rfl
def joinF : D → List D → Hs → Res
  | .str a, [.loc l], h => match h[l]? with
    | some (.lst ds) => (strsOf ds).bind fun ys => if (ys.map (·.length)).sum + ys.length * a.length ≤ 16777216 then some (.str (Txt.join a ys), h) else none
    | _ => none
  | _, _, _ => none
theorem repL_strs {K : PySem.W.Frag} {m : List Addr} {H : Hp} : ∀ {ns : List Str} {vs : List V}, RepL K m H (ns.map D.str) vs → vs = ns.map V.str
  | [], vs, r => by unfold RepL at r; exact r
  | n :: ns, vs, r => by
    rw [List.map_cons] at r
    unfold RepL at r
    obtain ⟨x, xs, rfl, h1, h2⟩ := r
    unfold RepV at h1
    subst h1
    rw [repL_strs h2]; rfl
section
variable {X : Cx}
theorem k_find : MtR X "str.find" (rMt X.K findF) := by
  intro pns s σ H x vs v us Q I rx rv h
  obtain ⟨m, hs, d, ds, r1, rl, rh, o⟩ := h
  unfold findF at o
  split at o
  · unfold RepV at r1
    subst r1
    obtain ⟨y, rfl, r2⟩ := repL1 rl
    unfold RepV at r2
    subst r2
    exact mt_find pns s σ H _ _ v us Q I rx rv ⟨_, _, rfl, rfl, OutV.keep o (by unfold RepV; rfl) rh⟩
  · exact o.elim
theorem k_join : MtR X "str.join" (rMt X.K joinF) := by
  intro pns s σ H x vs v us Q I rx rv h
  obtain ⟨m, hs, d, ds, r1, rl, rh, o⟩ := h
  unfold joinF at o
  split at o
  · unfold RepV at r1
    subst r1
    obtain ⟨y, rfl, r2⟩ := repL1 rl
    unfold RepV at r2
    obtain ⟨a, ha, rfl⟩ := r2
    split at o
    · rename_i xs e
      obtain ⟨ws, hw, rl2⟩ := rh.lst ha e
      cases q : strsOf xs with
      | none => rw [q] at o; exact o.elim
      | some ys =>
        rw [q, Option.bind_some] at o
        have := strsOf_some q
        subst this
        have := repL_strs rl2
        subst this
        split at o
        · rename_i hz
          exact mt_join pns s σ H _ _ v us Q I rx rv ⟨_, a, ys, rfl, rfl, .inl (SqL.of hw), hz, OutV.keep o (by unfold RepV; rfl) rh⟩
        · exact o.elim
    · exact o.elim
  · exact o.elim
end
def disp1M (A B : EM) : EM := fun ds h => (A ds (h ++ [.dct []])).bind fun k h1 => (B ds h1).bind fun v h2 => match keyD k, h2[h.length]? with
  | some k, some (.dct []) => .ok (.loc h.length) (h2.set h.length (.dct [(k, v)]))
  | _, _ => .bad
section
variable {N : Sl → Hs → Prop} {Q : D → Hs → Prop} {X : QX} {ds : Sl} {h : Hs}
@[simp] theorem wp_newD : (newDM ds h).wp Q X = Q (.loc h.length) (h ++ [.dct []]) := rfl
@[simp] theorem wp_newT : (newTM ds h).wp Q X = Q (.loc h.length) (h ++ [.dcT []]) := rfl
@[simp] theorem wp_step (A : EM) (lo : OM) (k : Int) : (stepM A lo k ds h).wp Q X = (A ds h).wp (fun d h => (lo ds h).wp (fun l h => (R.ofO (stepF d l k h)).wp Q X) X) X := by simp only [stepM, wp_bind]
@[simp] theorem wp_disp1 (A B : EM) : (disp1M A B ds h).wp Q X = (A ds (h ++ [.dct []])).wp (fun k h1 => (B ds h1).wp (fun v h2 => match keyD k, h2[h.length]? with
  | some k, some (.dct []) => Q (.loc h.length) (h2.set h.length (.dct [(k, v)]))
  | _, _ => False) X) X := by
  simp only [disp1M, wp_bind]
  congr 1; funext k h1
  congr 1; funext v h2
  split <;> rfl
end
end DV
namespace DV
open PySem PySem.Spec PyProof.Rows L2
def kxB (K : PySem.W.Frag) (C : Addr) : Bool :=
  (PySem.W.clsIn K C).isSome && (decide (PySem.W.findIn K (.ref C) "__getattribute__" = some (some (.builtin "BaseException.__getattribute__"))) && ((PySem.W.findIn K (.ref C) "__getattr__").isSome &&
  (decide (PySem.W.subIn K (.ref C) (.type "BaseException") = some true) && (decide (PySem.W.findIn K (.ref C) "__class__" = some (some (.builtin "object.__class__"))) &&
  (decide (PySem.W.specialIn K (.builtin "object.__class__") "__get__" = some (some (.builtin "getset_descriptor.__get__"))) && (decide (PySem.W.takesIn K (.builtin "object.__class__") = some true) && decide (PySem.W.mroIn K C (.type "object") = some true)))))))
inductive Fx where
  | he (f : He.Fa)
  | kx (x : Str)
  | ix (x y : Str) (b : Bool)
  | ib (x : Str) (T : String) (b : Bool)
def Fx.ok (K : PySem.W.Frag) : Fx → Bool
  | .he f => f.ok K
  | .kx x => kxB K (He.ga K x)
  | .ix x y b => decide (PySem.W.kitOne K (.ref (He.ga K x)) (.ref (He.ga K y)) = some b)
  | .ib x T b => decide (PySem.W.kitOne K (.ref (He.ga K x)) (.type T) = some b)
def obsX (fa : List Fx) (fn : List He.DefD) (K : PySem.W.Frag) : He.AlD := ((fa.all fun f => f.ok K) && fn.all fun d => d.ok K, fn.map fun d => He.fnW K d.at_)
def SaysX (fa : List Fx) (fn : List He.DefD) (K : PySem.W.Frag) : Prop := obsX fa fn K = He.valD fn
def obsXG (n : Nat) (fa : List Fx) (fn : List He.DefD) (g : Addr → Option Obj) : He.AlD := obsX fa fn (He.frG g (He.asD g n))
def hookX (n : Nat) (fa : List Fx) (fn : List He.DefD) : PySem.W.Hook where
  α := He.AlD
  obs := fun s => obsXG n fa fn s.heap.get?
  val := fun _ => He.valD fn
  says := fun _ h => ∃ K : PySem.W.Frag, K.In h ∧ SaysX fa fn K
  of := fun _ _ e => ⟨_, He.frG_in, e⟩
  keeps := fun _ _ _ ⟨K, hK, c⟩ k => ⟨K, PySem.W.Frag.In.keeps hK k, c⟩
theorem obsXG_eq {n : Nat} {fa : List Fx} {fn : List He.DefD} {g : Addr → Option Obj} {s : Shared} (h : ∀ a, g a = s.heap.get? a) : obsXG n fa fn g = (hookX n fa fn).obs s := by
  have e : g = s.heap.get? := funext h
  rw [e] <;> rfl
section
variable {fa : List Fx} {fn : List He.DefD} {K : PySem.W.Frag}
theorem SaysX.fact0 (c : SaysX fa fn K) (i : Nat) {f : Fx} (h : fa[i]? = some f := by rfl) : f.ok K = true := by
  have c1 := (He.ba (show ((fa.all fun f => f.ok K) && fn.all fun d => d.ok K) = true from congrArg (fun z : He.AlD => z.1) c)).1
  exact List.all_eq_true.mp c1 f (List.mem_of_getElem? h)
theorem SaysX.fact (c : SaysX fa fn K) (i : Nat) {f : He.Fa} (h : fa[i]? = some (.he f) := by rfl) : f.ok K = true := c.fact0 i h
theorem SaysX.def_ (c : SaysX fa fn K) (i : Nat) {d : He.DefD} (h : fn[i]? = some d := by rfl) : ∃ fd, FunD K d.name d.qual d.params d.body d.scope (d.dvs K) (d.kws K) (He.fAd K d.at_) fd := by
  have c2 := (He.ba (show ((fa.all fun f => f.ok K) && fn.all fun d => d.ok K) = true from congrArg (fun z : He.AlD => z.1) c)).2
  have e : fn.map (fun d => He.fnW K d.at_) = fn.map He.DefD.val := congrArg (fun z : He.AlD => z.2) c
  have e2 : (fn.map fun d => He.fnW K d.at_)[i]? = (fn.map He.DefD.val)[i]? := by rw [e]
  rw [List.getElem?_map, List.getElem?_map, h] at e2
  exact He.DefD.funD (Option.some.inj e2) (List.all_eq_true.mp c2 d (List.mem_of_getElem? h))
end
def tabF (tb : List (Str × Bool)) (c : Str) : Option Bool := (tb.find? fun p => decide (p.1 = c)).map (·.2)
def isXF (tb : List (Str × Bool)) (d : D) (h : Hs) : Res := match d with
  | .exn c => (tabF tb c).map fun b => (.bl b, h)
  | _ => none
theorem tabF_mem {tb : List (Str × Bool)} {c : Str} {b : Bool} (e : tabF tb c = some b) : (c, b) ∈ tb := by
  unfold tabF at e
  cases q : tb.find? fun p => decide (p.1 = c) with
  | none => rw [q] at e; cases e
  | some p =>
    rw [q] at e
    have m := List.mem_of_find?_eq_some q
    have k := List.find?_some q
    simp only [decide_eq_true_eq] at k
    obtain ⟨p1, p2⟩ := p
    simp only [Option.map_some, Option.some.injEq] at e
    simp only at k
    subst k e
    exact m
section
variable {X : Cx}
theorem kx_inv {K : PySem.W.Frag} {C x : Addr} {h : Heap} {oe : Obj} {vs : Array Value} (c : kxB K C = true) (e : h.get? x = some oe) (ec : oe.cls = .ref C) (ed : oe.dict = none) (ef : oe.data = .fields vs) :
    PySem.W.KitX K (.ref x) (.ref C) (fun h => PySem.W.InstAt h x oe C none) ∧ PySem.W.InstAt h x oe C none := by
  unfold kxB at c
  simp only [Bool.and_eq_true, decide_eq_true_eq] at c
  obtain ⟨c1, c2, c3, c4, c5, c6, c7, c8⟩ := c
  obtain ⟨gt, c3⟩ := Option.isSome_iff_exists.mp c3
  refine ⟨PySem.W.kitx_exc c1 c2 c3 c4 c5 c6 c7 c8, ⟨e, ec, ?_, ?_⟩⟩
  · unfold PySem.W.notCls; rw [ef]
  · rw [ed]; exact True.intro
def rIsx (K : PySem.W.Frag) : List V → Hp → VK → Prop := fun xs H Q => ∃ (a : Addr) (c : V) (x : Str) (u : Value) (b : Bool), xs = [.ref a, c] ∧ ClsV c u ∧ H a = some (exO K x a) ∧ kxB K (He.ga K x) = true ∧ PySem.W.kitOne K (.ref (He.ga K x)) u = some b ∧ Q (.bl b) H
theorem call_isx : CallR X (.builtin "isinstance") (rIsx X.K) := by
  intro pns s σ H xs us Q I r h
  obtain ⟨a, c, x, u, b, rfl, k, ha, kx, e, q⟩ := h
  obtain ⟨u1, u2, rfl, r1, r2⟩ := vals2 r
  have e2 := k.eq r2
  subst e2
  cases r1
  obtain ⟨⟨oe, vs, h1, h2, h3, h4⟩, _, _⟩ := (show ObjOk X.prog X.w H s.heap a (exO X.K x a) from I.hok a _ ha)
  obtain ⟨Z, p⟩ := kx_inv kx h1 h2 h3 h4
  exact PySem.W.kia_one Z I.kIn p e (fun z => nomatch z) fun tk => ⟨.bl b, H, I.tok tk, rfl, q⟩
/-- the classes of the table are as it says -/
def TabOk (K : PySem.W.Frag) (u : Value) (tb : List (Str × Bool)) : Prop := ∀ c b, (c, b) ∈ tb → kxB K (He.ga K c) = true ∧ PySem.W.kitOne K (.ref (He.ga K c)) u = some b
theorem isx_read {g : Cfg} {tb : List (Str × Bool)} {A : EM} {σ : St} {H : Hp} {Q : VK} {c : V} {u : Value} {e : Expr} {te : TE} (hK : X.K = g.K) (cv : ClsV c u) (T : TabOk X.K u tb) (q : tM g (unM (isXF tb) A) σ H Q) :
    tM g A σ H fun v H1 => rIsx X.K [v, c] H1 Q := by
  obtain ⟨m, ds, h, hs, rh, o⟩ := q
  refine ⟨m, ds, h, hs, rh, OutE.toE o fun d h1 v m1 H1 g1 r1 rh1 o1 => ?_⟩
  unfold isXF at o1
  split at o1
  · rename_i x
    cases q : tabF tb x with
    | none => rw [q] at o1; exact o1.elim
    | some b =>
      rw [q] at o1
      obtain ⟨t1, t2⟩ := T x b (tabF_mem q)
      unfold RepV at r1
      obtain ⟨a, rfl, ha⟩ := r1
      exact ⟨a, c, x, u, b, rfl, cv, by rw [hK]; exact ha, t1, t2, o1 _ m1 H1 (.refl _ _) (by unfold RepV; rfl) rh1⟩
  · exact o1.elim
theorem em_isx {g : Cfg} {e : Expr} {A : EM} {C : Str} {p p2 pos : Pos} {tb : List (Str × Bool)} (hK : X.K = g.K) (hg : Gl X "isinstance") (hm : X.mg "isinstance" = none) (hgT : Gl X C) (hmT : X.mg C = some (.ref (He.ga X.K C))) (T : TabOk X.K (.ref (He.ga X.K C)) tb)
    (ha : PE X e (tM g A)) (hd : (C == ("__debug__" : Str)) = false := by decide)
    (he : starEach [e, .Name C p2] X.env = (false, eval e X.env) :: starEach [.Name C p2] X.env := by rfl) (hpl : (backTo pos (starEach [.Name C p2] X.env)).any (·.1) = false := by rfl) : PE X (.Call (.Name "isinstance" p) [e, .Name C p2] [] pos) (tM g (unM (isXF tb) A)) := by
  refine PE.weak (pe_callB call_isx hg hm (by decide +kernel) (pa_cons ha (pa_cons (pe_glob (v := .ref (He.ga X.K C)) hgT hmT rfl hd) pa_nil) he) (by decide) (by decide) he hpl) fun σ H Q q => ?_
  exact isx_read (e := e) (te := tM g A) hK (.own _) T q
theorem em_isxB {g : Cfg} {e : Expr} {A : EM} {T : String} {Tn : Str} {p p2 pos : Pos} {tb : List (Str × Bool)} (hK : X.K = g.K) (hg : Gl X "isinstance") (hm : X.mg "isinstance" = none) (hgT : Gl X Tn) (hmT : X.mg Tn = none) (hv : bootBuiltins Tn = some (.type T)) (TT : TabOk X.K (.type T) tb)
    (ha : PE X e (tM g A)) (hn : Tn ≠ "__name__" := by decide) (hd : (Tn == ("__debug__" : Str)) = false := by decide)
    (he : starEach [e, .Name Tn p2] X.env = (false, eval e X.env) :: starEach [.Name Tn p2] X.env := by rfl) (hpl : (backTo pos (starEach [.Name Tn p2] X.env)).any (·.1) = false := by rfl) : PE X (.Call (.Name "isinstance" p) [e, .Name Tn p2] [] pos) (tM g (unM (isXF tb) A)) := by
  refine PE.weak (pe_callB call_isx hg hm (by decide +kernel) (pa_cons ha (pa_cons (pe_bltn (v := .ty T) hgT hmT hv rfl hn hd) pa_nil) he) (by decide) (by decide) he hpl) fun σ H Q q => ?_
  exact isx_read (e := e) (te := tM g A) hK (.ty T) TT q
end
end DV
namespace DV
open PySem PySem.Spec PyProof.Rows L2
/-- an except suite's context, the exception's object kept as a thing of the heap -/
abbrev suiteX (X : Cx) (a : Addr) (pn : List (Addr × Obj)) : Cx := { X with A := X.A.mark (some (.ref a)), calm := false, pn := pn, xe := fun _ _ => False }
section
variable {X : Cx} {pns : List (Addr × Obj)} {σ : St} {H : Hp} {s : Shared}
/-- a thing that came into the heap is taken up -/
theorem Un.took {fs ex : List Addr} {H0 H1 : Hp} {h0 h1 : Heap} {a : Addr} {o : HO} (u : Un fs ex H0 H1 h0 h1) (n0 : h0.get? a = none) (n1 : H1 a = none) : Un fs ex H0 (upd H1 a o) h0 h1 := by
  have ne : ∀ b v, H1 b = some v → b ≠ a := fun b v e z => by rw [z, n1] at e; cases e
  refine ⟨u.keep, u.slot, fun b v e n hx => ?_, u.there, fun b xs e => ?_, fun b v w e => ?_, fun b ps e => ?_⟩
  · rw [upd_ne fun z => by rw [z, n0] at e; cases e]; exact u.free b v e n hx
  · have := u.tups b xs e; rw [upd_ne (ne _ _ this)]; exact this
  · have := u.frzs b v w e; rw [upd_ne (ne _ _ this)]; exact this
  · obtain ⟨mo, q⟩ := u.tbls b ps e; exact ⟨mo, by rw [upd_ne (ne _ _ q)]; exact q⟩
theorem exO_ok {P : Program} {w : World} {H : Hp} {h : Heap} {K : PySem.W.Frag} {c : Str} {a : Addr} {oe : Obj} {vs : Array Value} (e : h.get? a = some oe) (ec : oe.cls = .ref (He.ga K c)) (ed : oe.dict = none) (ef : oe.data = .fields vs) : ObjOk P w H h a (exO K c a) :=
  ⟨⟨oe, vs, e, ec, ed, ef⟩, ⟨oe, e⟩, fun _ _ ⟨o1, v1, p1, p2⟩ k => ⟨o1, v1, k _ p1, p2⟩⟩
/-- into the suite -/
theorem Inv.caught {a : Addr} {c : Str} {oe : Obj} {vs : Array Value} (I : Inv X pns σ H s) (e : s.heap.get? a = some oe) (ec : oe.cls = .ref (He.ga X.K c)) (ed : oe.dict = none) (ef : oe.data = .fields vs) (na : H a = none) (nL : a ≠ X.env.locals)
    (n0 : X.s_0.heap.get? a = none) (np : ∀ p ∈ X.pn ++ pns, p.1 ≠ a) : Inv (suiteX X a (X.pn ++ pns)) [] σ (upd H a (exO X.K c a)) s := by
  have ncell : ∀ x k, X.env.cells.lookup x = some k → k ≠ a := fun x k q z => by
    obtain ⟨v, hv⟩ := I.cell x k q
    obtain ⟨o, ho, hd⟩ := hv
    rw [z, e] at ho
    cases ho
    rw [ef] at hd
    cases hd
  have neH : ∀ b v, H b = some v → b ≠ a := fun b v q z => by rw [z, na] at q; cases q
  refine ⟨?_, I.os, I.bare, Un.took I.base n0 na, I.loc, I.cell, ?_, fun x k q => ?_, fun p hp => ?_, fun b v q => ?_, I.len⟩
  · have ok := I.ok
    exact ⟨ok.mod, ok.kind, ok.glob, ok.blt, ok.above, ok.inj, ok.has, ok.cab, (fun z => absurd (show false = true from z) Bool.false_ne_true), ok.frames, ok.stk, ok.exf, ok.bs, ok.bsz, ok.noex, ok.exfs, ok.funs, ok.frf⟩
  · show upd H a _ X.env.locals = none
    rw [upd_ne (Ne.symm nL)]; exact I.free
  · show upd H a _ k = none
    rw [upd_ne (ncell x k q)]; exact I.freeC x k q
  · have hp' : p ∈ X.pn ++ pns := by simpa using hp
    obtain ⟨p1, p2, p3⟩ := I.pin p hp'
    exact ⟨p1, by rw [upd_ne (np p hp')]; exact p2, p3⟩
  · by_cases z : b = a
    · subst z
      rw [upd_same] at q
      cases q
      exact exO_ok e ec ed ef
    · rw [upd_ne z] at q
      exact (I.hok b v q).stay (fun _ _ _ r => r) (fun d r => by rw [upd_ne (neH d _ r)]; exact r) fun d xs r => by rw [upd_ne (neH d _ r)]; exact r
/-- out of it -/
theorem Inv.leftX {a : Addr} {pn : List (Addr × Obj)} {H' : Hp} (I : Inv (suiteX X a (X.pn ++ pns)) pn σ H' s) (ok : X.Ok) : Inv X pns σ H' s :=
  ⟨ok, I.os, I.bare, I.base, I.loc, I.cell, I.free, I.freeC, fun p hp => I.pin p (List.mem_append_left _ hp), I.hok, I.len⟩
end
/-- the slot of the clause's name, forgotten -/
def dropE (oi : Option Nat) (N : Ends) : Ends := match oi with
  | some i => { nx := fun σ H => N.nx (σ.set i none) H, rt := N.rt, bk := fun σ H => N.bk (σ.set i none) H, ct := fun σ H => N.ct (σ.set i none) H }
  | none => N
def putE (oi : Option Nat) (σ : St) (a : Addr) : St := match oi with
  | some i => σ.set i (some (.ref a))
  | none => σ
/-- what is wished of an exception of the body -/
def wExc (K : PySem.W.Frag) (C : Value) (oi : Option Nat) (ts : TS) (Wout : WX) (N : Ends) : WX := fun cls d σ H =>
  d = none ∧ ∃ c b, cls = .ref (He.ga K c) ∧ PySem.W.exmOne K cls C = some b ∧ (b = true → ∀ a, H a = none → ts (dropE oi N) (putE oi σ a) (upd H a (exO K c a))) ∧ (b = false → Wout cls d σ H)
section
variable {X : Cx} {C : Value} {cn : Str} {tb : WX → TS} {ts : TS} {Wout : WX} {body suite : List Stmt} {b₀ : Stmt} {np pos pos' : Pos}
/-- what a clause's derivation gives for the exception in the air: the test, the suite or the way on -/
theorem catch_ok {oi : Option Nat} {on : Option Str} (hs : X.stack = X.env :: X.outer) (hf : X.env.frame = some X.env.locals) (hex : X.ex = []) (hN : X.N.Nodup) (hon : match oi, on with
      | some i, some n => X.N[i]? = some n ∧ X.env.kindOf n = some .local
      | none, none => True
      | _, _ => False) (hc : Names X cn C) (tk : Takes X Wout)
    (hsu : ∀ (a : Addr) (pn : List (Addr × Obj)), PSs (suiteX X a pn) (b₀ :: suite) ts) {pns : List (Addr × Obj)} {N : Ends} (ok : X.Ok) {u : Value} {s' : Shared} {xe : Value → Shared → Prop} (xx : XE (X.tr (X.pn ++ pns) xe) (wExc X.K C oi ts Wout N) u s') :
    wpAny (model X.prog X.w) X.A (noteFrame u X.env) (fun _ s₂ => wpAny (model X.prog X.w) X.A (setFlight u none) (fun _ s₃ =>
      wpAny (model X.prog X.w) X.A (handleBy u X.env [.ExceptHandler (some (.Name cn np)) on (b₀ :: suite) pos']) (SP X pns N) X.xe s₃) X.xe s₂) X.xe s' := by
  obtain ⟨a, B, sI, pz, τ, G, cls, d, rfl, J0, nb, up, sky, na, os, ag, dn, c, b, rfl, hb1, hyes, hno⟩ := xx
  have J : Inv X pns τ G sI := Inv.ofTry J0 ok
  have frE : X.A.frames = some (X.env :: X.outer) := by rw [ok.frames, hs]
  have sk : Sky B (X.env :: X.outer) a (Zc (.ref (He.ga X.K c)) d) X.env.locals s'.heap := by rw [← hs]; exact sky
  refine Sky.land Zc.steady frE hf sk fun h3 fl3 up3 => ?_
  have J3 : Inv X pns τ G { s' with heap := h3 } := J.landed nb fl3.1 (up.trans up3) os ag
  obtain ⟨o3, v3, e3, z3, d3⟩ := fl3.there
  have far : a ∉ frs (X.env :: X.outer) := fun hm => by
    obtain ⟨_, o4, e4, no⟩ := fl3.2.2.1.mem hm
    rw [e3] at e4; cases e4
    exact no _ d3
  have nL : a ≠ X.env.locals := fun z => far (List.mem_filterMap.mpr ⟨X.env, by simp, by rw [hf, z]⟩)
  have nF : a ∉ X.fs := fun hm => by
    obtain ⟨v, hv, q⟩ := List.mem_filterMap.mp hm
    exact far (List.mem_filterMap.mpr ⟨v, by simp [hv], q⟩)
  have nI : sI.heap.get? a = none := by
    cases q : sI.heap.get? a with
    | none => rfl
    | some o =>
      have r1 := nb a o q (by rw [hs]; exact far)
      rw [fl3.2.1] at r1; cases r1
  have n0 : X.s_0.heap.get? a = none := by
    cases q : X.s_0.heap.get? a with
    | none => rfl
    | some o =>
      obtain ⟨o', r1⟩ := J.base.there a o q (by rw [hex]; simp)
      rw [nI] at r1; cases r1
  have np' : ∀ p ∈ X.pn ++ pns, p.1 ≠ a := fun p hp z => by
    have := (J.pin p hp).1
    rw [z, nI] at this; cases this
  have S3 := Inv.suite J3 e3 d3 na nL nF
  refine wpAny_handleBy_cons (codeAny_handlers_test ?_) (by intro q; cases q)
  have LT : PySem.W.Looks (model X.prog X.w) h3 (typeOf (.ref a)) (.ref (He.ga X.K c)) := fun _ _ _ _ k q => wpAny_typeOf_ref (k _ _ e3) (by rw [z3.1]; exact q)
  have LM := PySem.W.exm_one (M := model X.prog X.w) J3.kIn LT hb1
  have named : ∀ {Q : Value → Shared → Prop} {E : Value → Shared → Prop}, Q C { s' with heap := h3 } → wpAny (model X.prog X.w) (X.A.mark (some (.ref a))) (eval (.Name cn np) X.env) Q E { s' with heap := h3 } := fun {Q E} q => by
    obtain ⟨g1, g2, g3 | ⟨g3, g4, g5⟩⟩ := hc
    · exact ld_glob (X := X.suite a ((a, o3) :: (X.pn ++ pns))) S3 g1 g3 q g2
    · exact ld_blt (X := X.suite a ((a, o3) :: (X.pn ++ pns))) S3 g1 g3 g4 q g5 g2
  refine named (LM.here ?_)
  cases b with
  | true =>
    have land : ∀ {h4 : Heap}, HandSPX.FlyingZ B (X.env :: X.outer) a (Zc (.ref (He.ga X.K c)) d) h4 → sI.heap.UpToSlots h4 → Inv (suiteX X a (X.pn ++ pns)) [] τ (upd G a (exO X.K c a)) { s' with heap := h4 } := fun {h4} fl4 up4 => by
      have J4 : Inv X pns τ G { s' with heap := h4 } := J.landed nb fl4.1 up4 os ag
      obtain ⟨o4, v4, e4, z4, d4⟩ := fl4.there
      exact Inv.caught J4 e4 z4.1 (by rw [z4.2, dn]) d4 na nL n0 np'
    have wish := hyes rfl a na
    match oi, on, hon with
    | some i, some n, hon =>
      refine codeAny_handlers_suite_as ?_
      refine HandSPX.lands_againZ fl3 fun h4 fl4 up4 => ?_
      refine store_ok (X := suiteX X a (X.pn ++ pns)) (v := .ref a) (land fl4 ((up.trans up3).trans up4)) hN hon.1 (.inl hon.2) rfl (fun s5 S5 => ?_) (.inr hon.2)
      refine wpAny_mono ((hsu a (X.pn ++ pns)).run [] s5 _ _ _ S5 wish) (fun f s6 sp => ?_) (fun _ _ z => z.elim)
      have gone : ∀ {τ6 : St} {G6 : Hp} {Q : Shared → Prop}, Inv (suiteX X a (X.pn ++ pns)) [] τ6 G6 s6 → (∀ s7, Inv X pns (τ6.set i none) G6 s7 → Q s7) →
          wpAny (model X.prog X.w) X.A (do bindName X.env n .none; unbindBehindTheSuite X.env n pos') (fun _ s7 => Q s7) X.xe s6 := fun {τ6 G6 Q} S6 hq => gone_ok (Inv.leftX S6 ok) hN hon.1 hon.2 hq
      cases f with
      | next => obtain ⟨τ6, G6, S6, q6⟩ := sp; exact gone S6 fun s7 J7 => ⟨_, _, J7, q6⟩
      | brk => obtain ⟨τ6, G6, S6, q6⟩ := sp; exact gone S6 fun s7 J7 => ⟨_, _, J7, q6⟩
      | cont => obtain ⟨τ6, G6, S6, q6⟩ := sp; exact gone S6 fun s7 J7 => ⟨_, _, J7, q6⟩
      | ret u => obtain ⟨v6, τ6, G6, S6, r6, q6⟩ := sp; exact gone S6 fun s7 J7 => ⟨_, _, _, J7, r6, q6⟩
    | none, none, _ =>
      refine codeAny_handlers_suite ?_
      refine HandSPX.lands_againZ fl3 fun h4 fl4 up4 => ?_
      refine wpAny_mono ((hsu a (X.pn ++ pns)).run [] _ _ _ _ (land fl4 ((up.trans up3).trans up4)) wish) (fun f s6 sp => ?_) (fun _ _ z => z.elim)
      cases f with
      | next => obtain ⟨τ6, G6, S6, q6⟩ := sp; exact ⟨_, _, Inv.leftX S6 ok, q6⟩
      | brk => obtain ⟨τ6, G6, S6, q6⟩ := sp; exact ⟨_, _, Inv.leftX S6 ok, q6⟩
      | cont => obtain ⟨τ6, G6, S6, q6⟩ := sp; exact ⟨_, _, Inv.leftX S6 ok, q6⟩
      | ret u => obtain ⟨v6, τ6, G6, S6, r6, q6⟩ := sp; exact ⟨_, _, _, Inv.leftX S6 ok, r6, q6⟩
  | false =>
    show wpAny _ X.A (handleBy (.ref a) X.env []) _ _ _
    refine wpAny_handleBy_nil ?_
    obtain ⟨_, _, _, oe, vs, T, _, _, he, _, hd, h1, _⟩ := id fl3
    unfold PySem.passOn
    refine wpAny_bind (wpAny_field he hd h1 ?_)
    rw [if_neg (show ¬ ((Value.ref T == Value.none) = true) from by simp)]
    have on_ : wpAny (model X.prog X.w) X.A (setFlight (.ref a) X.env.frame) (fun _ s4 => wpAny (model X.prog X.w) X.A (throw (.ref a) : Sem Flow) (SP X pns N) X.xe s4) X.xe { s' with heap := h3 } := by
      rw [hf]
      exact HandSPX.setFlight_upZ fl3 fun h4 hh4 up4 => wpAny_throw (tk _ _ ⟨a, B, sI, pns, τ, G, _, d, rfl, J, nb, (up.trans up3).trans up4, .inr (.inr (by rw [hs]; exact hh4)), na, os, ag, hno rfl⟩)
    first
      | exact wpAny_bind (wpAny_pure (wpAny_bind on_))
      | exact wpAny_bind on_
/-- try: body / except C [as n]: suite -/
theorem ps_tryX {oi : Option Nat} {on : Option Str} (hs : X.stack = X.env :: X.outer) (hf : X.env.frame = some X.env.locals) (hex : X.ex = []) (hN : X.N.Nodup) (hon : match oi, on with
      | some i, some n => X.N[i]? = some n ∧ X.env.kindOf n = some .local
      | none, none => True
      | _, _ => False) (hc : Names X cn C) (tk : Takes X Wout)
    (hb : ∀ (W : WX) (pn : List (Addr × Obj)) (xe : Value → Shared → Prop), Takes (X.tr pn xe) W → PassesOwn (model X.prog X.w) X.A X.env xe → PSs (X.tr pn xe) body (tb W))
    (hsu : ∀ (a : Addr) (pn : List (Addr × Obj)), PSs (suiteX X a pn) (b₀ :: suite) ts) :
    PS X (.Try body [.ExceptHandler (some (.Name cn np)) on (b₀ :: suite) pos'] [] [] pos) (fun D σ H => tb (wExc X.K C oi ts Wout D) D σ H) := by
  constructor
  intro pns s σ H D I wish
  have ok := I.ok
  refine wpAny_Try_except ?_
  have bodyOk := hb (wExc X.K C oi ts Wout D) (X.pn ++ pns) (fun e s₁ => wpAny (model X.prog X.w) X.A (noteFrame e X.env) (fun _ s₂ => wpAny (model X.prog X.w) X.A (setFlight e none) (fun _ s₃ =>
    wpAny (model X.prog X.w) X.A (handleBy e X.env [.ExceptHandler (some (.Name cn np)) on (b₀ :: suite) pos']) (SP X pns D) X.xe s₃) X.xe s₂) X.xe s₁) (fun u s' xx => catch_ok hs hf hex hN hon hc tk hsu ok xx) PassesOwn.looking
  refine wpAny_mono (bodyOk.run [] s σ H D (Inv.toTry I _) wish) (fun f s1 r => ?_) (fun e s1 r => r)
  cases f with
  | next => obtain ⟨τ, G, J, q⟩ := r; exact wpAny_execs_nil ⟨τ, G, Inv.ofTry J ok, q⟩
  | brk => obtain ⟨τ, G, J, q⟩ := r; exact ⟨τ, G, Inv.ofTry J ok, q⟩
  | cont => obtain ⟨τ, G, J, q⟩ := r; exact ⟨τ, G, Inv.ofTry J ok, q⟩
  | ret u => obtain ⟨v, τ, G, J, r, q⟩ := r; exact ⟨v, τ, G, Inv.ofTry J ok, r, q⟩
end
def dropS (oi : Option Nat) (ds : Sl) : Sl := match oi with
  | some i => ds.set i none
  | none => ds
/-- the clause's suite: its name goes, no exception leaves it -/
def suiteM (oi : Option Nat) (Hd : SM) : SM := fun ds h => match Hd ds h with
  | .nx ds h => .nx (dropS oi ds) h
  | .rt d h => .rt d h
  | .bk ds h => .bk (dropS oi ds) h
  | .ct ds h => .ct (dropS oi ds) h
  | _ => .bad
def nameM (oi : Option Nat) (c : Str) (ds : Sl) : Sl := match oi with
  | some i => ds.set i (some (.exn c))
  | none => ds
def tryM (oi : Option Nat) (tb : List (Str × Bool)) (B Hd : SM) : SM := fun ds h => match B ds h with
  | .exc c ds h => (match tabF tb c with
    | some true => suiteM oi Hd (nameM oi c ds) h
    | some false => .exc c ds h
    | none => .bad)
  | r => r
/-- the clause's class takes these -/
def ExmOk (K : PySem.W.Frag) (C : Value) (tb : List (Str × Bool)) : Prop := ∀ c b, (c, b) ∈ tb → PySem.W.exmOne K (.ref (He.ga K c)) C = some b
theorem sm_try {X : Cx} {g : Cfg} {C : Value} {cn : Str} {body suite : List Stmt} {b₀ : Stmt} {np pos pos' : Pos} {oi : Option Nat} {on : Option Str} {tbl : List (Str × Bool)} {B Hd : SM} (hs : X.stack = X.env :: X.outer) (hf : X.env.frame = some X.env.locals) (hex : X.ex = []) (hN : X.N.Nodup)
    (hon : match oi, on with
      | some i, some n => X.N[i]? = some n ∧ X.env.kindOf n = some .local
      | none, none => True
      | _, _ => False) (hc : Names X cn C) (tk : Takes X g.W) (hK : X.K = g.K) (T : ExmOk X.K C tbl)
    (hb : ∀ (W : WX) (pn : List (Addr × Obj)) (xe : Value → Shared → Prop), Takes (X.tr pn xe) W → PassesOwn (model X.prog X.w) X.A X.env xe → PSs (X.tr pn xe) body (tS ⟨g.K, W⟩ B))
    (hsu : ∀ (a : Addr) (pn : List (Addr × Obj)), PSs (suiteX X a pn) (b₀ :: suite) (tS ⟨g.K, fun _ _ _ _ => False⟩ Hd)) :
    PS X (.Try body [.ExceptHandler (some (.Name cn np)) on (b₀ :: suite) pos'] [] [] pos) (tS g (tryM oi tbl B Hd)) := by
  refine PS.weak (ps_tryX (tb := fun W => tS ⟨g.K, W⟩ B) (oi := oi) hs hf hex hN hon hc tk hb hsu) fun N σ H ⟨m, ds, h, hs', rh, o⟩ => ⟨m, ds, h, hs', rh, ?_⟩
  unfold tryM at o
  cases q : B ds h with
  | nx ds1 h1 => rw [q] at o; exact o
  | rt d h1 => rw [q] at o; exact o
  | bk ds1 h1 => rw [q] at o; exact o
  | ct ds1 h1 => rw [q] at o; exact o
  | bad => rw [q] at o; exact o
  | exc c ds1 h1 =>
    rw [q] at o
    simp only at o
    intro σ' m' H' gg ss rr
    cases q2 : tabF tbl c with
    | none => rw [q2] at o; exact o.elim
    | some b =>
      rw [q2] at o
      refine ⟨rfl, c, b, by rw [hK], by rw [← hK]; exact T c b (tabF_mem q2), fun eb a na => ?_, fun eb => ?_⟩
      · subst eb
        simp only at o
        have w1 : Grow m' H' m' (upd H' a (exO X.K c a)) := .put na
        refine ⟨m', nameM oi c ds1, h1, ?_, rr.put na, ?_⟩
        · cases oi with
          | none => exact ss.mono w1
          | some i => exact (ss.mono w1).put i (by unfold RepV; exact ⟨a, rfl, by rw [upd_same, hK]⟩)
        · have o' := OutS.mono o (gg.trans w1)
          unfold suiteM at o'
          cases q3 : Hd (nameM oi c ds1) h1 with
          | nx ds2 h2 =>
            rw [q3] at o'
            intro σ2 m2 H2 g2 s2 r2
            cases oi with
            | none => exact o' σ2 m2 H2 g2 s2 r2
            | some i => exact o' _ m2 H2 g2 (s2.forget i none) r2
          | bk ds2 h2 =>
            rw [q3] at o'
            intro σ2 m2 H2 g2 s2 r2
            cases oi with
            | none => exact o' σ2 m2 H2 g2 s2 r2
            | some i => exact o' _ m2 H2 g2 (s2.forget i none) r2
          | ct ds2 h2 =>
            rw [q3] at o'
            intro σ2 m2 H2 g2 s2 r2
            cases oi with
            | none => exact o' σ2 m2 H2 g2 s2 r2
            | some i => exact o' _ m2 H2 g2 (s2.forget i none) r2
          | rt d h2 =>
            rw [q3] at o'
            intro v m2 H2 g2 s2 r2
            cases oi with
            | none => exact o' v m2 H2 g2 s2 r2
            | some i => exact o' v m2 H2 g2 s2 r2
          | exc _ _ _ => rw [q3] at o'; exact o'.elim
          | bad => rw [q3] at o'; exact o'.elim
      · subst eb
        exact o σ' m' H' gg ss rr
end DV
namespace DV
open PySem PySem.Spec PyProof.Rows L2
def putFD (f : Str) (v : D) : List (Str × D) → List (Str × D)
  | [] => [(f, v)]
  | (g, x) :: r => if g = f then (g, v) :: r else (g, x) :: putFD f v r
def fldF (C f : Str) (d : D) (h : Hs) : Res := match d with
  | .loc l => match h[l]? with
    | some (.ins C' fs) => if C' = C then (fs.lookup f).map fun v => (v, h) else none
    | _ => none
  | _ => none
def fldM (C f : Str) (O : EM) : EM := unM (fldF C f) O
def setFldF (C f : Str) (d v : D) (h : Hs) : Option Hs := match d with
  | .loc l => match h[l]? with
    | some (.ins C' fs) => if C' = C ∧ fs.length < 1000 then some (h.set l (.ins C (putFD f v fs))) else none
    | _ => none
  | _ => none
def setFldM (C f : Str) (V O : EM) : SM := fun ds h => lift (V ds h) ds fun v h => lift (O ds h) ds fun o h => match setFldF C f o v h with
  | some h => .nx ds h
  | none => .bad
def methM (C m : Str) (φ : Fm) (O : EM) (As : AM) : EM := fun ds h => (O ds h).bind fun d h => match d with
  | .loc l => (match h[l]? with
    | some (.ins C' fs) => if C' = C ∧ fs.lookup m = none then (As ds h).bind fun xs h => φ (d :: xs) h else .bad
    | _ => .bad)
  | _ => .bad
def newM (C : Str) (φ : Fm) (As : AM) : EM := fun ds h => (As ds h).bind fun xs h => match φ (.loc h.length :: xs) (h ++ [.ins C []]) with
  | .ok .non h' => .ok (.loc h.length) h'
  | _ => .bad
end DV
namespace DV
open PySem PySem.Spec PyProof.Rows L2
section
variable {N : Sl → Hs → Prop} {Q : D → Hs → Prop} {X : QX} {ds : Sl} {h : Hs}
@[simp] theorem wp_fld (C f : Str) (O : EM) : (fldM C f O ds h).wp Q X = (O ds h).wp (fun d h => match fldF C f d h with | some p => Q p.1 p.2 | none => False) X := by
  unfold fldM
  rw [wp_un]
  congr 1; funext d h
  cases fldF C f d h <;> rfl
@[simp] theorem ws_setFld (C f : Str) (V O : EM) : (setFldM C f V O ds h).wp N Q X = (V ds h).wp (fun v h => (O ds h).wp (fun o h => match setFldF C f o v h with | some h => N ds h | none => False) X) X := by
  simp only [setFldM, ws_lift]
  congr 1; funext v h
  congr 1; funext o h
  cases setFldF C f o v h <;> rfl
@[simp] theorem wp_meth (C m : Str) (φ : Fm) (O : EM) (As : AM) : (methM C m φ O As ds h).wp Q X = (O ds h).wp (fun d h => match d with
    | .loc l => (match h[l]? with
      | some (.ins C' fs) => (C' = C ∧ fs.lookup m = none) ∧ (As ds h).wp (fun xs h => (φ (d :: xs) h).wp Q X) X
      | _ => False)
    | _ => False) X := by
  simp only [methM, wp_bind]
  congr 1; funext d h
  cases d with
  | loc l =>
    simp only
    cases h[l]? with
    | none => rfl
    | some o =>
      cases o with
      | ins C' fs =>
        simp only
        by_cases c : C' = C ∧ fs.lookup m = none
        · rw [if_pos c]; simp [c]
        · rw [if_neg c]; simp only [c, false_and]; rfl
      | _ => rfl
  | _ => rfl
@[simp] theorem wp_new_ (C : Str) (φ : Fm) (As : AM) : (newM C φ As ds h).wp Q X = (As ds h).wp (fun xs h => match φ (.loc h.length :: xs) (h ++ [.ins C []]) with
    | .ok .non h' => Q (.loc h.length) h'
    | _ => False) X := by
  simp only [newM, wp_bind]
  congr 1; funext xs h
  cases φ (.loc h.length :: xs) (h ++ [.ins C []]) with
  | ok d h' => cases d <;> rfl
  | exc _ _ => rfl
  | bad => rfl
theorem ws_try (oi : Option Nat) (tb : List (Str × Bool)) (B Hd : SM) : (tryM oi tb B Hd ds h).wp N Q X = (match B ds h with
    | .exc c ds h => (match tabF tb c with
      | some true => (suiteM oi Hd (nameM oi c ds) h).wp N Q X
      | some false => X c h
      | none => False)
    | r => r.wp N Q X) := by
  unfold tryM
  cases B ds h with
  | exc c ds h => simp only; cases tabF tb c with
    | none => rfl
    | some b => cases b <;> rfl
  | _ => rfl
theorem ws_suite (oi : Option Nat) (Hd : SM) (w : (Hd ds h).wp (fun ds h => N (dropS oi ds) h) Q xF) : (suiteM oi Hd ds h).wp N Q X := by
  unfold suiteM
  cases q : Hd ds h with
  | nx a b => rw [q] at w; exact w
  | rt a b => rw [q] at w; exact w
  | exc _ _ _ => rw [q] at w; exact w.elim
  | bk _ _ => rw [q] at w; exact w.elim
  | ct _ _ => rw [q] at w; exact w.elim
  | bad => rw [q] at w; exact w.elim
end
end DV
namespace DV
open PySem PySem.Spec PyProof.Rows L2
section
variable {h : Hs} {i j : Int} {a b : Str} {xs ys : List D} {l : Nat} {v x : D}
@[simp] theorem mulX_int : mulXF (.int i) (.int j) h = if cMul i j = true then some (.int (i * j), h) else none := rfl
@[simp] theorem mulX_str : mulXF (.str a) (.int j) h = if cB (-1000000 ≤ j ∧ j ≤ 1000000 ∧ a.length ≤ 1000000 ∧ a.length * j.toNat ≤ LIM) = true then some (.str (repS a j.toNat), h) else none := rfl
@[simp] theorem mulX_tup : mulXF (.tup xs) (.int i) h = if -1000 ≤ i ∧ i ≤ 1000 ∧ xs.length ≤ 1000 then some (.tup (List.replicate i.toNat xs).flatten, h) else none := rfl
@[simp] theorem key_int : keyD (.int i) = some (.inl i) := rfl
@[simp] theorem key_str : keyD (.str a) = some (.inr a) := rfl
end
end DV
namespace DV
open PySem PySem.Spec PyProof.Rows L2
def min2I (i j : Int) : Int := if j < i then j else i
def min3F : List D → Hs → Res
  | [.int i, .int j, .int k], h => some (.int (min2I (min2I i j) k), h)
  | _, _ => none
def blsOf : List D → Option (List Bool)
  | [] => some []
  | .bl s :: r => (blsOf r).map fun ss => s :: ss
  | _ => none
@[simp] theorem blsOf_map (ns : List Bool) : blsOf (ns.map D.bl) = some ns := by
  induction ns with
  | nil => rfl
  | cons n ns ih => rw [List.map_cons]; unfold blsOf; rw [ih]; rfl
def isTF : VF2
  | .bl a, .bl b, h => some (.bl (a == b), h)
  | _, _, _ => none
def isnTF : VF2
  | .bl a, .bl b, h => some (.bl (a != b), h)
  | _, _, _ => none
@[simp] theorem min3_int {h : Hs} {i j k : Int} : min3F [.int i, .int j, .int k] h = some (.int (min2I (min2I i j) k), h) := rfl
@[simp] theorem isT_bl {h : Hs} {a b : Bool} : isTF (.bl a) (.bl b) h = some (.bl (a == b), h) := rfl
@[simp] theorem isnT_bl {h : Hs} {a b : Bool} : isnTF (.bl a) (.bl b) h = some (.bl (a != b), h) := rfl
end DV
namespace DV
open PySem PySem.Spec PyProof.Rows L2
end DV
namespace DV
open PySem PySem.Spec PyProof.Rows L2
end DV
namespace DV
open PySem PySem.Spec PyProof.Rows L2
noncomputable def m__law_cell_at : SM :=
  seqM (ifM (tbM (binM ltF (vM 1) (argM lenF (consA (vM 0) nilA)))) (retM (binM ixF (vM 0) (vM 1))) (passM)) (retM (cM (.int 0)))
noncomputable def F__law_cell_at : Nat → Fm
  | 0 => fun _ _ => .bad
  | n + 1 => kPure.f (runM 2 2 (m__law_cell_at))
theorem S__law_cell_at (n : Nat) : F__law_cell_at (n + 1) = kPure.f (runM 2 2 (m__law_cell_at)) := rfl
noncomputable def m_blanks_of (f_blanks_of : Fm) : SM :=
  seqM (ifM (tbM (binM eqF (binM ixF (vM 0) (cM (.int 0))) (cM (.str "blank")))) (retM (argM lstF (consA (binM ixF (vM 0) (cM (.int 1))) nilA))) (passM)) (seqM (setM 1 (argM lstF (nilA))) (seqM (forM (valI (binM ixF (vM 0) (cM (.int 2)))) (nameG 2) (forM (valI (callM f_blanks_of (consA (vM 2) nilA))) (nameG 3) (ifM (tbM (binM ninF (vM 3) (vM 1))) (exprM (mtMc ckList appendF (vM 1) (consA (vM 3) nilA))) (passM)))) (retM (vM 1))))
noncomputable def F_blanks_of : Nat → Fm
  | 0 => fun _ _ => .bad
  | n + 1 => kNew.f (runM 1 4 (m_blanks_of (F_blanks_of n)))
theorem S_blanks_of (n : Nat) : F_blanks_of (n + 1) = kNew.f (runM 1 4 (m_blanks_of (F_blanks_of n))) := rfl
noncomputable def m__law_stream : SM :=
  seqM (setM 2 (argM lstF (nilA))) (seqM (setM 3 (binM modF (vM 0) (cM (.int 2147483647)))) (seqM (forM (rngI rng1 (consA (binM addF (vM 1) (cM (.int 1))) nilA)) (nameG 4) (seqM (setM 3 (binM modF (binM addF (binM addF (binM addF (binM mulXF (vM 3) (vM 3)) (binM mulXF (cM (.int 48271)) (vM 3))) (binM mulXF (cM (.int 7)) (vM 4))) (cM (.int 11))) (cM (.int 2147483647)))) (exprM (mtMc ckList appendF (vM 2) (consA (vM 3) nilA))))) (retM (slM (vM 2) (someP (cM (.int 1))) (noP)))))
noncomputable def F__law_stream : Nat → Fm
  | 0 => fun _ _ => .bad
  | n + 1 => kNew.f (runM 2 5 (m__law_stream))
theorem S__law_stream (n : Nat) : F__law_stream (n + 1) = kNew.f (runM 2 5 (m__law_stream)) := rfl
noncomputable def m__law_names_v3 (f__law_stream : Fm) : SM :=
  seqM (setM 1 (cM (.str "abcdefghijklmnopqrstuvwxyz0123456789"))) (seqM (setM 2 (callM f__law_stream (consA (vM 0) (consA (cM (.int 15)) nilA)))) (seqM (setM 3 (binM addF (binM ixF (vM 1) (binM modF (binM ixF (vM 2) (cM (.int 0))) (cM (.int 26)))) (mtMc ckStr joinF (cM (.str "")) (consA (lcM [4] (valI (slM (vM 2) (someP (cM (.int 1))) (someP (cM (.int 12))))) (nameG 4) (yesM) (binM ixF (vM 1) (binM modF (vM 4) (cM (.int 36))))) nilA)))) (seqM (setM 5 (binM addF (cM (.int 1)) (binM modF (binM ixF (vM 2) (cM (.int 12))) (cM (.int 11))))) (seqM (setM 6 (binM ixF (vM 1) (binM modF (binM addF (binM addF (mtMc ckStr findF (vM 1) (consA (binM ixF (vM 3) (vM 5)) nilA)) (cM (.int 1))) (binM modF (binM ixF (vM 2) (cM (.int 13))) (cM (.int 35)))) (cM (.int 36))))) (seqM (setM 7 (binM addF (binM addF (slM (vM 3) (noP) (someP (vM 5))) (vM 6)) (slM (vM 3) (someP (binM addF (vM 5) (cM (.int 1)))) (noP)))) (retM (argM lstF (consA (binM ixF (vM 3) (cM (.int 0))) (consA (slM (vM 3) (noP) (someP (cM (.int 2)))) (consA (vM 3) (consA (vM 7) (consA (slM (vM 3) (noP) (someP (binM addF (cM (.int 1)) (vM 5)))) nilA))))))))))))
noncomputable def F__law_names_v3 : Nat → Fm
  | 0 => fun _ _ => .bad
  | n + 1 => kNew.f (runM 1 8 (m__law_names_v3 (F__law_stream n)))
theorem S__law_names_v3 (n : Nat) : F__law_names_v3 (n + 1) = kNew.f (runM 1 8 (m__law_names_v3 (F__law_stream n))) := rfl
noncomputable def m__law_number : SM :=
  seqM (setM 2 (binM addF (cM (.int 1)) (binM modF (vM 0) (binM subF (binM powF (cM (.int 10)) (cM (.int 9))) (cM (.int 6)))))) (retM (binM addF (vM 2) (binM ixF (argM lstF (consA (vM 1) (consA (binM subF (cM (.int 5)) (vM 1)) nilA))) (binM modF (binM fdivF (vM 0) (cM (.int 7))) (cM (.int 2))))))
noncomputable def F__law_number : Nat → Fm
  | 0 => fun _ _ => .bad
  | n + 1 => kPure.f (runM 2 3 (m__law_number))
theorem S__law_number (n : Nat) : F__law_number (n + 1) = kPure.f (runM 2 3 (m__law_number)) := rfl
noncomputable def m__law_grow (f__law_grow f__law_number f__law_stream : Fm) : SM :=
  seqM (ifM (tbM (binM geF (vM 1) (argM lenF (consA (vM 0) nilA)))) (retM (argM tupF (consA (argM tupF (consA (cM (.str "block")) (consA (binM ixF (vM 3) (cM (.int 0))) (consA (argM tupF (nilA)) nilA)))) (consA (vM 1) nilA)))) (passM)) (seqM (setM 5 (callM f__law_stream (consA (binM ixF (vM 0) (vM 1)) (consA (cM (.int 4)) nilA)))) (seqM (setM 1 (binM addF (vM 1) (cM (.int 1)))) (seqM (ifM (tbM (binM eqF (binM modF (binM ixF (vM 5) (cM (.int 0))) (cM (.int 4))) (cM (.int 0)))) (retM (argM tupF (consA (argM tupF (consA (cM (.str "blank")) (consA (callM f__law_number (consA (vM 4) (consA (binM modF (binM ixF (vM 5) (cM (.int 1))) (cM (.int 4))) nilA))) nilA))) (consA (vM 1) nilA)))) (passM)) (seqM (setM 6 (argM lstF (nilA))) (seqM (ifM (tbM (binM gtF (vM 2) (cM (.int 0)))) (forM (rngI rng1 (consA (binM ixF (argM lstF (consA (cM (.int 0)) (consA (cM (.int 1)) (consA (cM (.int 2)) (consA (cM (.int 2)) (consA (cM (.int 3)) (consA (cM (.int 9)) nilA))))))) (binM modF (binM ixF (vM 5) (cM (.int 2))) (binM ixF (argM lstF (consA (cM (.int 5)) (consA (cM (.int 6)) nilA))) (argM intT (consA (binM eqF (vM 1) (cM (.int 1))) nilA))))) nilA)) (nameG 7) (seqM (asgM (callM f__law_grow (consA (vM 0) (consA (vM 1) (consA (binM subF (vM 2) (cM (.int 1))) (consA (vM 3) (consA (vM 4) nilA)))))) (okG (tupG 2 (consG (nameG 8) (consG (nameG 1) (nilG)))))) (exprM (mtMc ckList appendF (vM 6) (consA (vM 8) nilA))))) (passM)) (retM (argM tupF (consA (argM tupF (consA (cM (.str "block")) (consA (binM ixF (vM 3) (binM modF (binM ixF (vM 5) (cM (.int 3))) (cM (.int 5)))) (consA (argM tupT (consA (vM 6) nilA)) nilA)))) (consA (vM 1) nilA)))))))))
noncomputable def F__law_grow : Nat → Fm
  | 0 => fun _ _ => .bad
  | n + 1 => kPure.f (runM 5 9 (m__law_grow (F__law_grow n) (F__law_number n) (F__law_stream n)))
theorem S__law_grow (n : Nat) : F__law_grow (n + 1) = kPure.f (runM 5 9 (m__law_grow (F__law_grow n) (F__law_number n) (F__law_stream n))) := rfl
noncomputable def m__law_changed (f__law_changed : Fm) : SM :=
  seqM (setM 4 (binM fdivF (binM ixF (vM 1) (binM modF (vM 2) (argM lenF (consA (vM 1) nilA)))) (binM addF (cM (.int 1)) (binM fdivF (vM 2) (argM lenF (consA (vM 1) nilA)))))) (seqM (setM 2 (binM addF (vM 2) (cM (.int 1)))) (seqM (ifM (tbM (binM eqF (binM modF (vM 4) (cM (.int 8))) (cM (.int 0)))) (retM (argM tupF (consA (binM ixF (vM 3) (binM modF (binM fdivF (vM 4) (cM (.int 8))) (argM lenF (consA (vM 3) nilA)))) (consA (vM 2) nilA)))) (passM)) (seqM (ifM (tbM (binM eqF (binM ixF (vM 0) (cM (.int 0))) (cM (.str "blank")))) (retM (argM tupF (consA (vM 0) (consA (vM 2) nilA)))) (passM)) (seqM (setM 5 (argM lstF (nilA))) (seqM (forM (valI (binM ixF (vM 0) (cM (.int 2)))) (nameG 6) (seqM (asgM (callM f__law_changed (consA (vM 6) (consA (vM 1) (consA (vM 2) (consA (vM 3) nilA))))) (okG (tupG 2 (consG (nameG 7) (consG (nameG 2) (nilG)))))) (exprM (mtMc ckList appendF (vM 5) (consA (vM 7) nilA))))) (retM (argM tupF (consA (argM tupF (consA (cM (.str "block")) (consA (binM ixF (vM 0) (cM (.int 1))) (consA (argM tupT (consA (vM 5) nilA)) nilA)))) (consA (vM 2) nilA)))))))))
noncomputable def F__law_changed : Nat → Fm
  | 0 => fun _ _ => .bad
  | n + 1 => kPure.f (runM 4 8 (m__law_changed (F__law_changed n)))
theorem S__law_changed (n : Nat) : F__law_changed (n + 1) = kPure.f (runM 4 8 (m__law_changed (F__law_changed n))) := rfl
noncomputable def m__law_blanks_v2 (f__law_blanks : Fm) : SM :=
  seqM (ifM (tbM (binM eqF (binM ixF (vM 0) (cM (.int 0))) (cM (.str "blank")))) (retM (argM lstF (consA (binM ixF (vM 0) (cM (.int 1))) nilA))) (passM)) (seqM (setM 1 (argM lstF (nilA))) (seqM (forM (valI (binM ixF (vM 0) (cM (.int 2)))) (nameG 2) (setM 1 (binM addF (vM 1) (lcM [3] (valI (callM f__law_blanks (consA (vM 2) nilA))) (nameG 3) (tbM (binM ninF (vM 3) (vM 1))) (vM 3))))) (retM (vM 1))))
noncomputable def F__law_blanks_v2 : Nat → Fm
  | 0 => fun _ _ => .bad
  | n + 1 => kNew.f (runM 1 4 (m__law_blanks_v2 (F__law_blanks_v2 n)))
theorem S__law_blanks_v2 (n : Nat) : F__law_blanks_v2 (n + 1) = kNew.f (runM 1 4 (m__law_blanks_v2 (F__law_blanks_v2 n))) := rfl
noncomputable def m_both_blocks : SM :=
  retM (andV (binM eqF (binM ixF (binM ixF (vM 0) (cM (.int 0))) (cM (.int 0))) (cM (.str "block"))) (binM eqF (binM ixF (binM ixF (vM 0) (cM (.int 1))) (cM (.int 0))) (cM (.str "block"))))
noncomputable def F_both_blocks : Nat → Fm
  | 0 => fun _ _ => .bad
  | n + 1 => kPure.f (runM 1 1 (m_both_blocks))
theorem S_both_blocks (n : Nat) : F_both_blocks (n + 1) = kPure.f (runM 1 1 (m_both_blocks)) := rfl
noncomputable def m_same_kind (f_both_blocks : Fm) : SM :=
  retM (andV (callM f_both_blocks (consA (vM 0) nilA)) (andV (binM eqF (binM ixF (binM ixF (vM 0) (cM (.int 0))) (cM (.int 1))) (binM ixF (binM ixF (vM 0) (cM (.int 1))) (cM (.int 1)))) (binM eqF (argM lenF (consA (binM ixF (binM ixF (vM 0) (cM (.int 0))) (cM (.int 2))) nilA)) (argM lenF (consA (binM ixF (binM ixF (vM 0) (cM (.int 1))) (cM (.int 2))) nilA)))))
noncomputable def F_same_kind : Nat → Fm
  | 0 => fun _ _ => .bad
  | n + 1 => kPure.f (runM 1 1 (m_same_kind (F_both_blocks n)))
theorem S_same_kind (n : Nat) : F_same_kind (n + 1) = kPure.f (runM 1 1 (m_same_kind (F_both_blocks n))) := rfl
noncomputable def m_likeness : SM :=
  seqM (ifM (orM (tbM (binM ltF (vM 1) (cM (.int 0)))) (tbM (binM geF (vM 1) (argM lenF (consA (vM 0) nilA))))) (raiseM "BadPaper") (passM)) (retM (binM ixF (vM 0) (vM 1)))
noncomputable def F_likeness : Nat → Fm
  | 0 => fun _ _ => .bad
  | n + 1 => kPure.f (runM 2 2 (m_likeness))
theorem S_likeness (n : Nat) : F_likeness (n + 1) = kPure.f (runM 2 2 (m_likeness)) := rfl
noncomputable def m_by_step (f_likeness f_same_kind : Fm) : SM :=
  seqM (setM 2 (callM f_likeness (consA (vM 0) (consA (binM ixF (vM 1) (cM (.int 1))) nilA)))) (seqM (ifM (tbM (binM eqF (binM ixF (vM 1) (cM (.int 0))) (cM (.str "turned")))) (retM (argM tupF (consA (binM ixF (vM 2) (cM (.int 1))) (consA (binM ixF (vM 2) (cM (.int 0))) nilA)))) (passM)) (seqM (ifM (tbM (binM eqF (binM ixF (vM 1) (cM (.int 0))) (cM (.str "part")))) (seqM (ifM (orM (notM (truM (callM f_same_kind (consA (vM 2) nilA)))) (orM (tbM (binM ltF (binM ixF (vM 1) (cM (.int 2))) (cM (.int 0)))) (tbM (binM geF (binM ixF (vM 1) (cM (.int 2))) (argM lenF (consA (binM ixF (binM ixF (vM 2) (cM (.int 0))) (cM (.int 2))) nilA)))))) (raiseM "BadPaper") (passM)) (retM (argM tupF (consA (binM ixF (binM ixF (binM ixF (vM 2) (cM (.int 0))) (cM (.int 2))) (binM ixF (vM 1) (cM (.int 2)))) (consA (binM ixF (binM ixF (binM ixF (vM 2) (cM (.int 1))) (cM (.int 2))) (binM ixF (vM 1) (cM (.int 2)))) nilA))))) (passM)) (seqM (ifM (tbM (binM eqF (binM ixF (vM 1) (cM (.int 0))) (cM (.str "linked")))) (seqM (setM 3 (callM f_likeness (consA (vM 0) (consA (binM ixF (vM 1) (cM (.int 2))) nilA)))) (seqM (ifM (tbM (binM neF (binM ixF (vM 2) (cM (.int 1))) (binM ixF (vM 3) (cM (.int 0))))) (raiseM "BadPaper") (passM)) (retM (argM tupF (consA (binM ixF (vM 2) (cM (.int 0))) (consA (binM ixF (vM 3) (cM (.int 1))) nilA)))))) (passM)) (raiseM "BadPaper"))))
noncomputable def F_by_step : Nat → Fm
  | 0 => fun _ _ => .bad
  | n + 1 => kPure.f (runM 2 4 (m_by_step (F_likeness n) (F_same_kind n)))
theorem S_by_step (n : Nat) : F_by_step (n + 1) = kPure.f (runM 2 4 (m_by_step (F_likeness n) (F_same_kind n))) := rfl
noncomputable def m_check_row (f_blanks_of f_likeness : Fm) : SM :=
  seqM (ifM (tbM (binM eqF (vM 1) (argM lstF (nilA)))) (raiseM "BadPaper") (passM)) (forM (enumI (vM 1)) (tupG 2 (consG (nameG 2) (consG (nameG 3) (nilG)))) (seqM (setM 4 (callM f_likeness (consA (vM 0) (consA (vM 3) nilA)))) (seqM (setM 5 (binM ixF (callM f_likeness (consA (vM 0) (consA (binM ixF (vM 1) (binM modF (binM addF (vM 2) (cM (.int 1))) (argM lenF (consA (vM 1) nilA)))) nilA))) (cM (.int 0)))) (seqM (ifM (orM (tbM (binM neF (binM ixF (binM ixF (vM 4) (cM (.int 0))) (cM (.int 0))) (cM (.str "blank")))) (orM (tbM (binM neF (binM ixF (binM ixF (vM 4) (cM (.int 1))) (cM (.int 0))) (cM (.str "block")))) (tbM (binM neF (binM ixF (vM 5) (cM (.int 0))) (cM (.str "blank")))))) (raiseM "BadPaper") (passM)) (ifM (tbM (binM ninF (binM ixF (vM 5) (cM (.int 1))) (callM f_blanks_of (consA (binM ixF (vM 4) (cM (.int 1))) nilA)))) (raiseM "BadPaper") (passM))))))
noncomputable def F_check_row : Nat → Fm
  | 0 => fun _ _ => .bad
  | n + 1 => kPure.f (runM 2 6 (m_check_row (F_blanks_of n) (F_likeness n)))
theorem S_check_row (n : Nat) : F_check_row (n + 1) = kPure.f (runM 2 6 (m_check_row (F_blanks_of n) (F_likeness n))) := rfl
noncomputable def m_check_end (f_both_blocks f_same_kind f_likeness f_check_row : Fm) : SM :=
  ifM (tbM (binM eqF (binM ixF (vM 1) (cM (.int 0))) (cM (.str "unlike")))) (seqM (setM 2 (callM f_likeness (consA (vM 0) (consA (binM ixF (vM 1) (cM (.int 1))) nilA)))) (ifM (orM (notM (truM (callM f_both_blocks (consA (vM 2) nilA)))) (truM (callM f_same_kind (consA (vM 2) nilA)))) (raiseM "BadPaper") (passM))) (ifM (tbM (binM eqF (binM ixF (vM 1) (cM (.int 0))) (cM (.str "within")))) (exprM (callM f_check_row (consA (vM 0) (consA (binM ixF (vM 1) (cM (.int 1))) nilA)))) (raiseM "BadPaper"))
noncomputable def F_check_end : Nat → Fm
  | 0 => fun _ _ => .bad
  | n + 1 => kPure.f (runM 2 3 (m_check_end (F_both_blocks n) (F_same_kind n) (F_likeness n) (F_check_row n)))
theorem S_check_end (n : Nat) : F_check_end (n + 1) = kPure.f (runM 2 3 (m_check_end (F_both_blocks n) (F_same_kind n) (F_likeness n) (F_check_row n))) := rfl
noncomputable def m_walked (f_check_end f_by_step : Fm) : SM :=
  seqM (setM 3 (argM lstF (consA (argM tupF (consA (vM 0) (consA (vM 1) nilA))) nilA))) (seqM (forM (valI (binM ixF (vM 2) (cM (.int 0)))) (nameG 4) (exprM (mtMc ckList appendF (vM 3) (consA (callM f_by_step (consA (vM 3) (consA (vM 4) nilA))) nilA)))) (seqM (exprM (callM f_check_end (consA (vM 3) (consA (binM ixF (vM 2) (cM (.int 1))) nilA)))) (retM (vM 3))))
noncomputable def F_walked : Nat → Fm
  | 0 => fun _ _ => .bad
  | n + 1 => kNew.f (runM 3 5 (m_walked (F_check_end n) (F_by_step n)))
theorem S_walked (n : Nat) : F_walked (n + 1) = kNew.f (runM 3 5 (m_walked (F_check_end n) (F_by_step n))) := rfl
noncomputable def m__law_pair_v2 (f__law_changed f__law_number f__law_cell_at f__law_stream f__law_grow f__law_names : Fm) : SM :=
  seqM (setM 1 (callM f__law_names (consA (callM f__law_cell_at (consA (vM 0) (consA (cM (.int 0)) nilA))) nilA))) (seqM (setM 2 (callM f__law_cell_at (consA (vM 0) (consA (cM (.int 1)) nilA)))) (seqM (setM 3 (binM ixF (callM f__law_grow (consA (slM (vM 0) (someP (cM (.int 2))) (someP (cM (.int 22)))) (consA (cM (.int 0)) (consA (cM (.int 6)) (consA (vM 1) (consA (vM 2) nilA)))))) (cM (.int 0)))) (seqM (setM 4 (callM f__law_stream (consA (binM addF (callM f__law_cell_at (consA (vM 0) (consA (cM (.int 0)) nilA))) (cM (.int 5))) (consA (cM (.int 16)) nilA)))) (seqM (setM 5 (argM lstF (consA (argM tupF (consA (cM (.str "block")) (consA (binM ixF (vM 1) (cM (.int 0))) (consA (argM tupF (nilA)) nilA)))) (consA (argM tupF (consA (cM (.str "blank")) (consA (callM f__law_number (consA (vM 2) (consA (cM (.int 1)) nilA))) nilA))) (consA (argM tupF (consA (cM (.str "blank")) (consA (callM f__law_number (consA (vM 2) (consA (cM (.int 4)) nilA))) nilA))) nilA))))) (seqM (exprM (mtMc ckList appendF (vM 5) (consA (argM tupF (consA (cM (.str "block")) (consA (binM ixF (vM 1) (cM (.int 1))) (consA (argM tupF (consA (argM tupF (consA (cM (.str "blank")) (consA (callM f__law_number (consA (vM 2) (consA (cM (.int 1)) nilA))) nilA))) (consA (argM tupF (consA (cM (.str "blank")) (consA (callM f__law_number (consA (vM 2) (consA (cM (.int 2)) nilA))) nilA))) nilA))) nilA)))) nilA))) (retM (argM tupF (consA (vM 3) (consA (binM ixF (callM f__law_changed (consA (vM 3) (consA (vM 4) (consA (cM (.int 0)) (consA (vM 5) nilA))))) (cM (.int 0))) nilA)))))))))
noncomputable def F__law_pair_v2 : Nat → Fm
  | 0 => fun _ _ => .bad
  | n + 1 => kPure.f (runM 1 6 (m__law_pair_v2 (F__law_changed n) (F__law_number n) (F__law_cell_at n) (F__law_stream n) (F__law_grow n) (F__law_names_v3 n)))
theorem S__law_pair_v2 (n : Nat) : F__law_pair_v2 (n + 1) = kPure.f (runM 1 6 (m__law_pair_v2 (F__law_changed n) (F__law_number n) (F__law_cell_at n) (F__law_stream n) (F__law_grow n) (F__law_names_v3 n))) := rfl
noncomputable def m__law_same : SM :=
  seqM (asgM (vM 0) (okG (tupG 2 (consG (nameG 1) (consG (nameG 2) (nilG)))))) (seqM (ifM (orM (tbM (binM neF (binM ixF (vM 1) (cM (.int 0))) (cM (.str "block")))) (tbM (binM neF (binM ixF (vM 2) (cM (.int 0))) (cM (.str "block"))))) (retM (cM (.bl false))) (passM)) (retM (andV (binM eqF (binM ixF (vM 1) (cM (.int 1))) (binM ixF (vM 2) (cM (.int 1)))) (binM eqF (argM lenF (consA (binM ixF (vM 1) (cM (.int 2))) nilA)) (argM lenF (consA (binM ixF (vM 2) (cM (.int 2))) nilA))))))
noncomputable def F__law_same : Nat → Fm
  | 0 => fun _ _ => .bad
  | n + 1 => kPure.f (runM 1 3 (m__law_same))
theorem S__law_same (n : Nat) : F__law_same (n + 1) = kPure.f (runM 1 3 (m__law_same)) := rfl
noncomputable def m__law_step (f__law_same : Fm) : SM :=
  seqM (setM 2 (binM modF (binM ixF (vM 1) (cM (.int 0))) (argM lenF (consA (vM 0) nilA)))) (seqM (setM 3 (binM ixF (vM 0) (vM 2))) (seqM (ifM (andM (tbM (binM eqF (binM modF (binM ixF (vM 1) (cM (.int 1))) (cM (.int 3))) (cM (.int 0)))) (andM (truM (callM f__law_same (consA (vM 3) nilA))) (tbM (binM neF (binM ixF (binM ixF (vM 3) (cM (.int 0))) (cM (.int 2))) (argM tupF (nilA)))))) (seqM (setM 4 (binM modF (binM ixF (vM 1) (cM (.int 2))) (argM lenF (consA (binM ixF (binM ixF (vM 3) (cM (.int 0))) (cM (.int 2))) nilA)))) (retM (argM tupF (consA (argM tupF (consA (cM (.str "part")) (consA (vM 2) (consA (vM 4) nilA)))) (consA (argM tupF (consA (binM ixF (binM ixF (binM ixF (vM 3) (cM (.int 0))) (cM (.int 2))) (vM 4)) (consA (binM ixF (binM ixF (binM ixF (vM 3) (cM (.int 1))) (cM (.int 2))) (vM 4)) nilA))) nilA))))) (passM)) (seqM (ifM (tbM (binM eqF (binM modF (binM ixF (vM 1) (cM (.int 1))) (cM (.int 3))) (cM (.int 1)))) (seqM (setM 5 (lcM [6] (rngI rng1 (consA (argM lenF (consA (vM 0) nilA)) nilA)) (nameG 6) (tbM (binM eqF (binM ixF (binM ixF (vM 0) (vM 6)) (cM (.int 0))) (binM ixF (vM 3) (cM (.int 1))))) (vM 6))) (ifM (tbM (binM neF (vM 5) (argM lstF (nilA)))) (seqM (setM 6 (binM ixF (vM 5) (binM modF (binM ixF (vM 1) (cM (.int 2))) (argM lenF (consA (vM 5) nilA))))) (retM (argM tupF (consA (argM tupF (consA (cM (.str "linked")) (consA (vM 2) (consA (vM 6) nilA)))) (consA (argM tupF (consA (binM ixF (vM 3) (cM (.int 0))) (consA (binM ixF (binM ixF (vM 0) (vM 6)) (cM (.int 1))) nilA))) nilA))))) (passM))) (passM)) (retM (argM tupF (consA (argM tupF (consA (cM (.str "turned")) (consA (vM 2) nilA))) (consA (argM tupF (consA (binM ixF (vM 3) (cM (.int 1))) (consA (binM ixF (vM 3) (cM (.int 0))) nilA))) nilA)))))))
noncomputable def F__law_step : Nat → Fm
  | 0 => fun _ _ => .bad
  | n + 1 => kPure.f (runM 2 7 (m__law_step (F__law_same n)))
theorem S__law_step (n : Nat) : F__law_step (n + 1) = kPure.f (runM 2 7 (m__law_step (F__law_same n))) := rfl
noncomputable def m__law_end (f__law_blanks f__law_same : Fm) : SM :=
  seqM (setM 2 (argM lstF (nilA))) (seqM (setM 3 (argM lstF (nilA))) (seqM (forM (rngI rng1 (consA (argM lenF (consA (vM 0) nilA)) nilA)) (nameG 4) (seqM (asgM (binM ixF (vM 0) (vM 4)) (okG (tupG 2 (consG (nameG 5) (consG (nameG 6) (nilG)))))) (seqM (ifM (andM (tbM (binM eqF (binM ixF (vM 5) (cM (.int 0))) (cM (.str "block")))) (andM (tbM (binM eqF (binM ixF (vM 6) (cM (.int 0))) (cM (.str "block")))) (notM (truM (callM f__law_same (consA (binM ixF (vM 0) (vM 4)) nilA)))))) (exprM (mtMc ckList appendF (vM 2) (consA (vM 4) nilA))) (passM)) (ifM (andM (tbM (binM eqF (binM ixF (vM 5) (cM (.int 0))) (cM (.str "blank")))) (andM (tbM (binM eqF (binM ixF (vM 6) (cM (.int 0))) (cM (.str "block")))) (tbM (binM inF (binM ixF (vM 5) (cM (.int 1))) (callM f__law_blanks (consA (vM 6) nilA)))))) (exprM (mtMc ckList appendF (vM 3) (consA (vM 4) nilA))) (passM))))) (seqM (ifM (andM (tbM (binM eqF (binM modF (binM ixF (vM 1) (cM (.int 0))) (cM (.int 2))) (cM (.int 0)))) (tbM (binM neF (vM 3) (argM lstF (nilA))))) (retM (argM tupF (consA (argM tupF (consA (cM (.str "within")) (consA (argM lstF (consA (binM ixF (vM 3) (binM modF (binM ixF (vM 1) (cM (.int 1))) (argM lenF (consA (vM 3) nilA)))) nilA)) nilA))) (consA (cM (.bl true)) nilA)))) (passM)) (seqM (ifM (tbM (binM neF (vM 2) (argM lstF (nilA)))) (retM (argM tupF (consA (argM tupF (consA (cM (.str "unlike")) (consA (binM ixF (vM 2) (binM modF (binM ixF (vM 1) (cM (.int 1))) (argM lenF (consA (vM 2) nilA)))) nilA))) (consA (cM (.bl true)) nilA)))) (passM)) (seqM (setM 4 (binM modF (binM ixF (vM 1) (cM (.int 1))) (argM lenF (consA (vM 0) nilA)))) (retM (argM tupF (consA (binM ixF (argM lstF (consA (argM tupF (consA (cM (.str "unlike")) (consA (vM 4) nilA))) (consA (argM tupF (consA (cM (.str "within")) (consA (argM lstF (consA (vM 4) nilA)) nilA))) nilA))) (binM modF (binM ixF (vM 1) (cM (.int 2))) (cM (.int 2)))) (consA (binM ixF (argM lstF (consA (binM inF (vM 4) (vM 2)) (consA (binM inF (vM 4) (vM 3)) nilA))) (binM modF (binM ixF (vM 1) (cM (.int 2))) (cM (.int 2)))) nilA)))))))))
noncomputable def F__law_end : Nat → Fm
  | 0 => fun _ _ => .bad
  | n + 1 => kRaw.f (runM 2 7 (m__law_end (F__law_blanks_v2 n) (F__law_same n)))
theorem S__law_end (n : Nat) : F__law_end (n + 1) = kRaw.f (runM 2 7 (m__law_end (F__law_blanks_v2 n) (F__law_same n))) := rfl
noncomputable def m__law_bad_step (f__law_same : Fm) : SM :=
  seqM (setM 2 (argM lenF (consA (vM 0) nilA))) (seqM (setM 3 (binM modF (binM ixF (vM 1) (cM (.int 0))) (vM 2))) (seqM (setM 4 (argM lstF (consA (argM tupF (consA (cM (.str "part")) (consA (vM 3) (consA (binM addF (cM (.int 9)) (binM modF (binM ixF (vM 1) (cM (.int 1))) (cM (.int 3)))) nilA)))) (consA (argM tupF (consA (cM (.str "turned")) (consA (vM 2) nilA))) (consA (argM tupF (consA (cM (.str "linked")) (consA (vM 3) (consA (vM 2) nilA)))) (consA (argM tupF (consA (cM (.str "turned")) (consA (binM subF (unM negF (cM (.int 1))) (binM modF (binM ixF (vM 1) (cM (.int 1))) (cM (.int 3)))) nilA))) nilA)))))) (seqM (setM 4 (binM addF (vM 4) (argM lstF (consA (argM tupF (consA (cM (.str "joined")) (consA (vM 3) (consA (cM (.int 0)) nilA)))) (consA (argM tupF (consA (cM (.str "part")) (consA (vM 3) (consA (unM negF (cM (.int 1))) nilA)))) (consA (argM tupF (consA (cM (.str "linked")) (consA (binM addF (binM addF (vM 2) (cM (.int 1))) (binM modF (binM ixF (vM 1) (cM (.int 1))) (cM (.int 9)))) (consA (vM 3) nilA)))) (consA (argM tupF (consA (cM (.str "part")) (consA (vM 2) (consA (cM (.int 0)) nilA)))) nilA))))))) (seqM (setM 4 (binM addF (vM 4) (argM lstF (consA (argM tupF (consA (cM (.str "part")) (consA (binM subF (unM negF (cM (.int 1))) (binM modF (binM ixF (vM 1) (cM (.int 1))) (cM (.int 3)))) (consA (cM (.int 0)) nilA)))) (consA (argM tupF (consA (cM (.str "linked")) (consA (vM 3) (consA (binM subF (unM negF (cM (.int 1))) (binM modF (binM ixF (vM 1) (cM (.int 1))) (cM (.int 3)))) nilA)))) (consA (argM tupF (consA (cM (.str "linked")) (consA (binM subF (unM negF (cM (.int 1))) (binM modF (binM ixF (vM 1) (cM (.int 1))) (cM (.int 3)))) (consA (vM 3) nilA)))) nilA)))))) (seqM (forM (rngI rng1 (consA (vM 2) nilA)) (nameG 5) (seqM (ifM (tbM (binM neF (binM ixF (binM ixF (vM 0) (vM 5)) (cM (.int 0))) (binM ixF (binM ixF (vM 0) (vM 3)) (cM (.int 1))))) (exprM (mtMc ckList appendF (vM 4) (consA (argM tupF (consA (cM (.str "linked")) (consA (vM 3) (consA (vM 5) nilA)))) nilA))) (passM)) (forM (valI (binM ixF (vM 0) (vM 5))) (nameG 6) (ifM (andM (notM (truM (callM f__law_same (consA (binM ixF (vM 0) (vM 5)) nilA)))) (andM (tbM (binM eqF (binM ixF (vM 6) (cM (.int 0))) (cM (.str "block")))) (tbM (binM neF (binM ixF (vM 6) (cM (.int 2))) (argM tupF (nilA)))))) (exprM (mtMc ckList appendF (vM 4) (consA (argM tupF (consA (cM (.str "part")) (consA (vM 5) (consA (binM modF (binM ixF (vM 1) (cM (.int 1))) (argM lenF (consA (binM ixF (vM 6) (cM (.int 2))) nilA))) nilA)))) nilA))) (passM))))) (retM (binM ixF (vM 4) (binM modF (binM ixF (vM 1) (cM (.int 2))) (argM lenF (consA (vM 4) nilA))))))))))
noncomputable def F__law_bad_step : Nat → Fm
  | 0 => fun _ _ => .bad
  | n + 1 => kPure.f (runM 2 7 (m__law_bad_step (F__law_same n)))
theorem S__law_bad_step (n : Nat) : F__law_bad_step (n + 1) = kPure.f (runM 2 7 (m__law_bad_step (F__law_same n))) := rfl
noncomputable def m__law_bad_end (f__law_blanks f__law_same : Fm) : SM :=
  seqM (setM 2 (argM lstF (consA (argM tupF (consA (cM (.str "unlike")) (consA (argM lenF (consA (vM 0) nilA)) nilA))) (consA (argM tupF (consA (cM (.str "within")) (consA (argM lstF (nilA)) nilA))) (consA (argM tupF (consA (cM (.str "within")) (consA (argM lstF (consA (argM lenF (consA (vM 0) nilA)) nilA)) nilA))) (consA (argM tupF (consA (cM (.str "alike")) (consA (cM (.int 0)) nilA))) (consA (argM tupF (consA (cM (.str "unlike")) (consA (unM negF (cM (.int 1))) nilA))) nilA))))))) (seqM (exprM (mtMc ckList appendF (vM 2) (consA (argM tupF (consA (cM (.str "within")) (consA (argM lstF (consA (unM negF (cM (.int 1))) nilA)) nilA))) nilA))) (seqM (forM (rngI rng1 (consA (argM lenF (consA (vM 0) nilA)) nilA)) (nameG 3) (seqM (asgM (binM ixF (vM 0) (vM 3)) (okG (tupG 2 (consG (nameG 4) (consG (nameG 5) (nilG)))))) (seqM (ifM (orM (tbM (binM eqF (binM ixF (vM 4) (cM (.int 0))) (cM (.str "blank")))) (orM (tbM (binM eqF (binM ixF (vM 5) (cM (.int 0))) (cM (.str "blank")))) (truM (callM f__law_same (consA (binM ixF (vM 0) (vM 3)) nilA))))) (exprM (mtMc ckList appendF (vM 2) (consA (argM tupF (consA (cM (.str "unlike")) (consA (vM 3) nilA))) nilA))) (passM)) (ifM (orM (tbM (binM eqF (binM ixF (vM 4) (cM (.int 0))) (cM (.str "block")))) (orM (tbM (binM eqF (binM ixF (vM 5) (cM (.int 0))) (cM (.str "blank")))) (tbM (binM ninF (binM ixF (vM 4) (cM (.int 1))) (callM f__law_blanks (consA (vM 5) nilA)))))) (exprM (mtMc ckList appendF (vM 2) (consA (argM tupF (consA (cM (.str "within")) (consA (argM lstF (consA (vM 3) nilA)) nilA))) nilA))) (passM))))) (retM (binM ixF (vM 2) (binM modF (binM ixF (vM 1) (cM (.int 2))) (argM lenF (consA (vM 2) nilA)))))))
noncomputable def F__law_bad_end : Nat → Fm
  | 0 => fun _ _ => .bad
  | n + 1 => kRaw.f (runM 2 6 (m__law_bad_end (F__law_blanks_v2 n) (F__law_same n)))
theorem S__law_bad_end (n : Nat) : F__law_bad_end (n + 1) = kRaw.f (runM 2 6 (m__law_bad_end (F__law_blanks_v2 n) (F__law_same n))) := rfl
noncomputable def m__law_bad (f__law_bad_end f__law_bad_step : Fm) : SM :=
  seqM (ifM (tbM (binM eqF (binM modF (binM ixF (vM 3) (cM (.int 3))) (cM (.int 2))) (cM (.int 0)))) (seqM (setM 4 (binM modF (binM ixF (vM 3) (cM (.int 4))) (binM addF (argM lenF (consA (vM 0) nilA)) (cM (.int 1))))) (retM (argM tupF (consA (binM addF (binM addF (slM (vM 0) (noP) (someP (vM 4))) (argM lstF (consA (callM f__law_bad_step (consA (slM (vM 1) (noP) (someP (binM addF (vM 4) (cM (.int 1))))) (consA (vM 3) nilA))) nilA))) (slM (vM 0) (someP (vM 4)) (noP))) (consA (vM 2) nilA))))) (passM)) (retM (argM tupF (consA (vM 0) (consA (callM f__law_bad_end (consA (vM 1) (consA (vM 3) nilA))) nilA))))
noncomputable def F__law_bad : Nat → Fm
  | 0 => fun _ _ => .bad
  | n + 1 => kRaw.f (runM 4 5 (m__law_bad (F__law_bad_end n) (F__law_bad_step n)))
theorem S__law_bad (n : Nat) : F__law_bad (n + 1) = kRaw.f (runM 4 5 (m__law_bad (F__law_bad_end n) (F__law_bad_step n))) := rfl
noncomputable def m__law_refused (f_walked : Fm) : SM :=
  seqM (setM 3 (cM (.str "none"))) (seqM (tryM (some 4) [("FormError", false), ("BadText", false), ("TooLong", false), ("BadPaper", true)] (exprM (callM f_walked (consA (vM 0) (consA (vM 1) (consA (vM 2) nilA))))) (setM 3 (binM ixF (argM lstF (consA (cM (.str "paper")) (consA (cM (.str "more")) nilA))) (argM intT (consA (orV (unM (isXF [("FormError", false), ("BadText", true), ("TooLong", false), ("BadPaper", false)]) (vM 4)) (unM (isXF [("FormError", false), ("BadText", false), ("TooLong", true), ("BadPaper", false)]) (vM 4))) nilA))))) (retM (binM eqF (vM 3) (cM (.str "paper")))))
noncomputable def F__law_refused : Nat → Fm
  | 0 => fun _ _ => .bad
  | n + 1 => kPure.f (runM 3 5 (m__law_refused (F_walked n)))
theorem S__law_refused (n : Nat) : F__law_refused (n + 1) = kPure.f (runM 3 5 (m__law_refused (F_walked n))) := rfl
noncomputable def m__law_refused_by_base (f_walked : Fm) : SM :=
  seqM (setM 3 (cM (.bl false))) (seqM (tryM (some 4) [("FormError", true), ("BadText", true), ("TooLong", true), ("BadPaper", true)] (exprM (callM f_walked (consA (vM 0) (consA (vM 1) (consA (vM 2) nilA))))) (setM 3 (unM (isXF [("FormError", true), ("BadText", true), ("TooLong", true), ("BadPaper", true)]) (vM 4)))) (retM (vM 3)))
noncomputable def F__law_refused_by_base : Nat → Fm
  | 0 => fun _ _ => .bad
  | n + 1 => kPure.f (runM 3 5 (m__law_refused_by_base (F_walked n)))
theorem S__law_refused_by_base (n : Nat) : F__law_refused_by_base (n + 1) = kPure.f (runM 3 5 (m__law_refused_by_base (F_walked n))) := rfl
noncomputable def m_law_k37 (f__law_refused_by_base f__law_refused f__law_bad f_walked f__law_end f__law_cell_at f__law_stream f__law_step f__law_pair : Fm) : SM :=
  seqM (asgM (callM f__law_pair (consA (vM 0) nilA)) (okG (tupG 2 (consG (nameG 1) (consG (nameG 2) (nilG)))))) (seqM (setM 3 (argM lstF (consA (argM tupF (consA (vM 1) (consA (vM 2) nilA))) nilA))) (seqM (setM 4 (argM lstF (nilA))) (seqM (forM (valI (slM (vM 0) (someP (cM (.int 2))) (someP (cM (.int 42))))) (nameG 5) (seqM (asgM (callM f__law_step (consA (vM 3) (consA (callM f__law_stream (consA (vM 5) (consA (cM (.int 3)) nilA))) nilA))) (okG (tupG 2 (consG (nameG 6) (consG (nameG 7) (nilG)))))) (seqM (exprM (mtMc ckList appendF (vM 4) (consA (vM 6) nilA))) (exprM (mtMc ckList appendF (vM 3) (consA (vM 7) nilA)))))) (seqM (setM 8 (callM f__law_stream (consA (binM addF (callM f__law_cell_at (consA (vM 0) (consA (cM (.int 1)) nilA))) (cM (.int 3))) (consA (cM (.int 9)) nilA)))) (seqM (asgM (callM f__law_end (consA (vM 3) (consA (slM (vM 8) (noP) (someP (cM (.int 3)))) nilA))) (okG (tupG 2 (consG (nameG 9) (consG (nameG 10) (nilG)))))) (seqM (setM 11 (argM tupF (consA (argM lstT (consA (vM 4) nilA)) (consA (vM 9) nilA)))) (seqM (ifM (truM (vM 10)) (seqM (setM 12 (callM f_walked (consA (vM 1) (consA (vM 2) (consA (vM 11) nilA))))) (ifM (orM (notM (truM (unM (isF "list") (vM 12)))) (tbM (binM neF (vM 12) (vM 3)))) (retM (cM (.bl false))) (passM))) (ifM (notM (truM (callM f__law_refused (consA (vM 1) (consA (vM 2) (consA (vM 11) nilA)))))) (retM (cM (.bl false))) (passM))) (seqM (setM 13 (callM f__law_bad (consA (vM 4) (consA (vM 3) (consA (vM 9) (consA (slM (vM 8) (someP (cM (.int 3))) (someP (cM (.int 8)))) nilA)))))) (seqM (ifM (orM (tbM (binM neF (vM 11) (argM tupF (consA (vM 4) (consA (vM 9) nilA))))) (notM (truM (callM f__law_refused (consA (vM 1) (consA (vM 2) (consA (vM 13) nilA))))))) (retM (cM (.bl false))) (passM)) (retM (callM f__law_refused_by_base (consA (vM 1) (consA (vM 2) (consA (vM 13) nilA))))))))))))))
noncomputable def F_law_k37 : Nat → Fm
  | 0 => fun _ _ => .bad
  | n + 1 => kPure.f (runM 1 14 (m_law_k37 (F__law_refused_by_base n) (F__law_refused n) (F__law_bad n) (F_walked n) (F__law_end n) (F__law_cell_at n) (F__law_stream n) (F__law_step n) (F__law_pair_v2 n)))
theorem S_law_k37 (n : Nat) : F_law_k37 (n + 1) = kPure.f (runM 1 14 (m_law_k37 (F__law_refused_by_base n) (F__law_refused n) (F__law_bad n) (F_walked n) (F__law_end n) (F__law_cell_at n) (F__law_stream n) (F__law_step n) (F__law_pair_v2 n))) := rfl
end DV
namespace DV
open PySem PySem.Spec PyProof.Rows L2
/-- a text's signs in the alphabets -/
abbrev smallS : Str := "abcdefghijklmnopqrstuvwxyz"
abbrev figS : Str := "0123456789"
def okSign (c : Nat) : Bool := decide (c ∈ smallS.cps) || decide (c ∈ figS.cps)
def nameL : List Nat → Bool
  | [] => false
  | c :: r => decide (c ∈ smallS.cps) && r.all okSign
def nameB (s : Str) : Bool := decide (1 ≤ s.length ∧ s.length ≤ 12) && nameL s.cps.toList
theorem str_len (s : Str) : s.length = s.cps.toList.length := by rw [Array.length_toList]; rfl
theorem hL : LIM = 16777216 := rfl
/-- the sign at a place fits -/
def okAt (i c : Nat) : Bool := decide (c ∈ smallS.cps) || (decide (i ≠ 0) && decide (c ∈ figS.cps))
theorem nameL_iff (l : List Nat) : nameL l = true ↔ l ≠ [] ∧ ∀ i c, l[i]? = some c → okAt i c = true := by
  cases l with
  | nil => simp [nameL]
  | cons a r =>
    simp only [nameL, Bool.and_eq_true, decide_eq_true_eq, List.all_eq_true, ne_eq, reduceCtorEq, not_false_eq_true, true_and]
    constructor
    · rintro ⟨h1, h2⟩ i c e
      cases i with
      | zero => simp at e; subst e; simp [okAt, h1]
      | succ i =>
        simp at e
        have := h2 c (List.mem_of_getElem? e)
        simpa [okAt, okSign] using this
    · intro h
      refine ⟨by simpa [okAt] using h 0 a rfl, fun c hc => ?_⟩
      obtain ⟨i, hi⟩ := List.mem_iff_getElem?.mp hc
      have := h (i + 1) c (by simpa using hi)
      simpa [okAt, okSign] using this
theorem app_len (a b : Str) : (a ++ b).length = a.length + b.length := by
  show (a.cps ++ b.cps).size = _
  rw [Array.size_append]; rfl
theorem cut_len (s : Str) (lo hi : Option Int) : (cutS s lo hi).length ≤ s.length := by
  show Array.size (List.toArray _) ≤ s.cps.size
  rw [List.size_toArray, List.length_take, List.length_drop, Array.length_toList]
  omega
theorem rep_size (s : Str) (k : Nat) : (repS s k).length = s.length * k := by
  show Array.size (List.toArray _) = _
  rw [List.size_toArray, rep_len, ← str_len]
end DV
namespace DV
open PySem PySem.Spec PyProof.Rows L2
inductive Tr where
  | bl (k : Int)
  | bk (s : Str) (ps : List Tr)
def Tr.parts : Tr → List Tr
  | .bl _ => []
  | .bk _ ps => ps
mutual
def tD : Tr → D
  | .bl k => .tup [.str "blank", .int k]
  | .bk s ps => .tup [.str "block", .str s, .tup (tDs ps)]
def tDs : List Tr → List D
  | [] => []
  | t :: ts => tD t :: tDs ts
end
theorem tDs_map : ∀ ts : List Tr, tDs ts = ts.map tD
  | [] => by simp [tDs]
  | t :: ts => by rw [tDs, tDs_map ts]; rfl
@[simp] theorem tDs_len (ts : List Tr) : (tDs ts).length = ts.length := by rw [tDs_map, List.length_map]
theorem tDs_get {ts : List Tr} {i : Nat} {d : D} (e : (tDs ts)[i]? = some d) : ∃ t, ts[i]? = some t ∧ d = tD t := by
  rw [tDs_map, List.getElem?_map] at e
  cases q : ts[i]? with
  | none => rw [q] at e; cases e
  | some t => rw [q] at e; cases e; exact ⟨t, rfl, rfl⟩
mutual
theorem noloc_tD : ∀ t : Tr, noloc (tD t) = true
  | .bl k => rfl
  | .bk s ps => by simp [tD, noloc, nolocL, noloc_tDs ps]
theorem noloc_tDs : ∀ ts : List Tr, nolocL (tDs ts) = true
  | [] => by simp [tDs, nolocL]
  | t :: ts => by simp [tDs, nolocL, noloc_tD t, noloc_tDs ts]
end
mutual
def Tr.knots : Tr → Nat
  | .bl _ => 1
  | .bk _ ps => 1 + knotsL ps
def knotsL : List Tr → Nat
  | [] => 0
  | t :: ts => t.knots + knotsL ts
end
mutual
def Tr.depth : Tr → Nat
  | .bl _ => 1
  | .bk _ ps => 1 + depthL ps
def depthL : List Tr → Nat
  | [] => 0
  | t :: ts => max t.depth (depthL ts)
end
theorem knots_parts (t : Tr) : t.knots = 1 + knotsL t.parts := by cases t <;> simp [Tr.knots, Tr.parts, knotsL]
theorem depth_parts (t : Tr) : t.depth = 1 + depthL t.parts := by cases t <;> simp [Tr.depth, Tr.parts, depthL]
theorem knots_pos (t : Tr) : 1 ≤ t.knots := by rw [knots_parts]; omega
theorem depth_mem {t : Tr} : ∀ {ts : List Tr}, t ∈ ts → t.depth ≤ depthL ts
  | [], h => nomatch h
  | u :: ts, h => by
    rw [depthL]
    rcases List.mem_cons.mp h with rfl | h
    · exact Nat.le_max_left _ _
    · exact Nat.le_trans (depth_mem h) (Nat.le_max_right _ _)
theorem knots_mem {t : Tr} : ∀ {ts : List Tr}, t ∈ ts → t.knots ≤ knotsL ts
  | [], h => nomatch h
  | u :: ts, h => by
    rw [knotsL]
    rcases List.mem_cons.mp h with rfl | h
    · omega
    · have := knots_mem h; omega
theorem knotsL_sum : ∀ ts : List Tr, knotsL ts = (ts.map Tr.knots).sum
  | [] => rfl
  | t :: ts => by rw [knotsL, knotsL_sum ts]; simp
@[simp] theorem ok_block : PyData.strOk "block" = true := by decide +kernel
@[simp] theorem ok_blank : PyData.strOk "blank" = true := by decide +kernel
theorem bk_bl : ¬ ("block" : Str) = "blank" := by decide +kernel
theorem bl_bk : ¬ ("blank" : Str) = "block" := by decide +kernel
@[simp] theorem eq_bl1 {h : Hs} : eqF (.str "blank") (.str "blank") h = some (.bl true, h) := by rw [eq_strs ok_blank ok_blank]; simp
@[simp] theorem eq_bl2 {h : Hs} : eqF (.str "block") (.str "blank") h = some (.bl false, h) := by rw [eq_strs ok_block ok_blank, decide_eq_false bk_bl]
@[simp] theorem eq_bk1 {h : Hs} : eqF (.str "block") (.str "block") h = some (.bl true, h) := by rw [eq_strs ok_block ok_block]; simp
@[simp] theorem eq_bk2 {h : Hs} : eqF (.str "blank") (.str "block") h = some (.bl false, h) := by rw [eq_strs ok_blank ok_block, decide_eq_false bl_bk]
@[simp] theorem at0 {α : Type} {a : α} {l : List α} : atI (a :: l) 0 = some a := by
  have : (0 : Int) = ((0 : Nat) : Int) := rfl
  rw [this, atI_nat (by simp)]; rfl
@[simp] theorem at1 {α : Type} {a b : α} {l : List α} : atI (a :: b :: l) 1 = some b := by
  have : (1 : Int) = ((1 : Nat) : Int) := rfl
  rw [this, atI_nat (by simp)]; rfl
@[simp] theorem at2 {α : Type} {a b c : α} {l : List α} : atI (a :: b :: c :: l) 2 = some c := by
  have : (2 : Int) = ((2 : Nat) : Int) := rfl
  rw [this, atI_nat (by simp)]; rfl
end DV
namespace DV
open PySem PySem.Spec PyProof.Rows L2
abbrev S36 : Str := "abcdefghijklmnopqrstuvwxyz0123456789"
theorem S36_len : S36.cps.toList.length = 36 := by decide +kernel
theorem S36_ok : ∀ (k : Nat) (c : Nat), S36.cps.toList[k]? = some c → decide (c ∈ smallS.cps) = decide (k < 26) ∧ (decide (c ∈ smallS.cps) || decide (c ∈ figS.cps)) = true := by
  intro k c e
  have hk : k < 36 := by have := (List.getElem?_eq_some_iff.mp e).1; rw [S36_len] at this; exact this
  have all : ∀ k : Fin 36, ∀ c, S36.cps.toList[k.val]? = some c → decide (c ∈ smallS.cps) = decide (k.val < 26) ∧ (decide (c ∈ smallS.cps) || decide (c ∈ figS.cps)) = true := by
    have q : (List.finRange 36).all (fun k => match S36.cps.toList[k.val]? with | some c => (decide (c ∈ smallS.cps) == decide (k.val < 26)) && (decide (c ∈ smallS.cps) || decide (c ∈ figS.cps)) | none => true) = true := by decide +kernel
    intro k c e
    have := List.all_eq_true.mp q k (List.mem_finRange k)
    rw [e] at this
    simp only [Bool.and_eq_true, beq_iff_eq] at this
    exact this
  exact all ⟨k, hk⟩ c e
end DV
namespace DV
open PySem PySem.Spec PyProof.Rows L2
mutual
/-- names, counts of parts and numbers are as the document has them -/
def Tr.good : Tr → Prop
  | .bl k => 1 ≤ k ∧ k ≤ 1000000000
  | .bk s ps => nameB s = true ∧ ps.length ≤ 9 ∧ goodL ps
def goodL : List Tr → Prop
  | [] => True
  | t :: ts => t.good ∧ goodL ts
end
theorem goodL_iff : ∀ {ts : List Tr}, goodL ts ↔ ∀ t ∈ ts, t.good
  | [] => by simp [goodL]
  | t :: ts => by rw [goodL, goodL_iff]; simp
end DV
namespace DV
open PySem PySem.Spec PyProof.Rows L2
abbrev Fr := Str × Nat × List Tr
def fD (f : Fr) : D := .tup [.str f.1, .loc f.2.1]
/-- what stands in the heap: the old things, the names, the cells, the frames and their lists -/
structure FrI (h : Hs) (ns : List Str) (its : List D) (fr : List Fr) (h' : Hs) : Prop where
  pre : h'.take h.length = h
  nam : h'[h.length]? = some (.lst (ns.map D.str))
  cel : h'[h.length + 3]? = some (.lst its)
  frm : h'[h.length + 2]? = some (.lst (fr.map fD))
  par : ∀ f ∈ fr, h'[f.2.1]? = some (.lst (tDs f.2.2))
  dis : (fr.map (·.2.1)).Nodup
  low : ∀ f ∈ fr, h.length ≤ f.2.1 ∧ f.2.1 ≠ h.length ∧ f.2.1 ≠ h.length + 2 ∧ f.2.1 ≠ h.length + 3
section
variable {h h' : Hs} {ns : List Str} {its : List D} {fr : List Fr}
theorem FrI.lt (I : FrI h ns its fr h') : h.length + 3 < h'.length := (List.getElem?_eq_some_iff.mp I.cel).1
theorem FrI.plt (I : FrI h ns its fr h') {f : Fr} (hf : f ∈ fr) : f.2.1 < h'.length := (List.getElem?_eq_some_iff.mp (I.par f hf)).1
theorem take_set_ge {α : Type} {l : List α} {n k : Nat} {a : α} (hk : n ≤ k) : (l.set k a).take n = l.take n := by
  apply List.ext_getElem?
  intro i
  rw [List.getElem?_take, List.getElem?_take]
  split
  · rw [List.getElem?_set_ne (by omega)]
  · rfl
theorem FrI.grow (I : FrI h ns its fr h') (r : Hs) : FrI h ns its fr (h' ++ r) where
  pre := by rw [List.take_append_of_le_length (by have := I.lt; omega)]; exact I.pre
  nam := get_app I.nam
  cel := get_app I.cel
  frm := get_app I.frm
  par := fun f hf => get_app (I.par f hf)
  dis := I.dis
  low := I.low
/-- the frames' list written -/
theorem FrI.put (I : FrI h ns its fr h') (fr2 : List Fr) (hp : ∀ f ∈ fr2, h'[f.2.1]? = some (.lst (tDs f.2.2))) (hd : (fr2.map (·.2.1)).Nodup)
    (hl : ∀ f ∈ fr2, h.length ≤ f.2.1 ∧ f.2.1 ≠ h.length ∧ f.2.1 ≠ h.length + 2 ∧ f.2.1 ≠ h.length + 3) : FrI h ns its fr2 (h'.set (h.length + 2) (.lst (fr2.map fD))) where
  pre := by rw [take_set_ge (by omega)]; exact I.pre
  nam := by rw [List.getElem?_set_ne (by omega)]; exact I.nam
  cel := by rw [List.getElem?_set_ne (by omega)]; exact I.cel
  frm := by rw [List.getElem?_set_self (by have := I.lt; omega)]
  par := fun f hf => by rw [List.getElem?_set_ne (Ne.symm (hl f hf).2.2.1)]; exact hp f hf
  dis := hd
  low := hl
theorem FrI.push (I : FrI h ns its fr h') (s : Str) (ps : List Tr) : FrI h ns its (fr ++ [(s, h'.length, ps)]) ((h' ++ [AO.lst (tDs ps)] : Hs).set (h.length + 2) (.lst ((fr ++ [(s, h'.length, ps)]).map fD))) := by
  refine (I.grow [AO.lst (tDs ps)]).put _ (fun f hf => ?_) ?_ fun f hf => ?_
  · rcases List.mem_append.mp hf with hf | hf
    · exact get_app (I.par f hf)
    · cases List.mem_singleton.mp hf
      simp
  · rw [List.map_append]
    refine List.nodup_append.mpr ⟨I.dis, by simp, fun a ha b hb => ?_⟩
    obtain ⟨g, hg, rfl⟩ := List.mem_map.mp ha
    have : b = h'.length := by simpa using hb
    have := I.plt hg
    omega
  · rcases List.mem_append.mp hf with hf | hf
    · exact I.low f hf
    · cases List.mem_singleton.mp hf
      have := I.lt
      show h.length ≤ h'.length ∧ h'.length ≠ _ ∧ h'.length ≠ _ ∧ h'.length ≠ _
      omega
theorem tDs_app (ps : List Tr) (t : Tr) : tDs ps ++ [tD t] = tDs (ps ++ [t]) := by rw [tDs_map, tDs_map, List.map_append]; rfl
theorem FrI.app {s : Str} {l : Nat} {ps : List Tr} (I : FrI h ns its (fr ++ [(s, l, ps)]) h') (t : Tr) : FrI h ns its (fr ++ [(s, l, ps ++ [t])]) (h'.set l (.lst (tDs (ps ++ [t])))) := by
  have mem : (s, l, ps) ∈ fr ++ [(s, l, ps)] := by simp
  obtain ⟨l1, l2, l3, l4⟩ := I.low _ mem
  have ll := I.plt mem
  simp only at l1 l2 l3 l4 ll
  have dd : ∀ g ∈ fr, g.2.1 ≠ l := fun g hg z => by
    have := I.dis
    rw [List.map_append] at this
    exact (List.nodup_append.mp this).2.2 g.2.1 (List.mem_map.mpr ⟨g, hg, rfl⟩) l (by simp) z
  refine ⟨by rw [take_set_ge l1]; exact I.pre, by rw [List.getElem?_set_ne l2]; exact I.nam, by rw [List.getElem?_set_ne l4]; exact I.cel, ?_, fun f hf => ?_, ?_, fun f hf => ?_⟩
  · rw [List.getElem?_set_ne l3, I.frm, List.map_append, List.map_append]; rfl
  · rcases List.mem_append.mp hf with hf | hf
    · rw [List.getElem?_set_ne (Ne.symm (dd f hf))]; exact I.par f (List.mem_append_left _ hf)
    · cases List.mem_singleton.mp hf
      rw [List.getElem?_set_self ll]
  · have := I.dis
    rw [List.map_append] at this ⊢
    exact this
  · rcases List.mem_append.mp hf with hf | hf
    · exact I.low f (List.mem_append_left _ hf)
    · cases List.mem_singleton.mp hf
      exact ⟨l1, l2, l3, l4⟩
end
theorem knotsL_app (ps : List Tr) (t : Tr) : knotsL (ps ++ [t]) = knotsL ps + t.knots := by
  rw [knotsL_sum, knotsL_sum]; simp
theorem depthL_le {ps : List Tr} {n : Nat} : depthL ps ≤ n ↔ ∀ t ∈ ps, t.depth ≤ n := by
  induction ps with
  | nil => simp [depthL]
  | cons t ts ih => rw [depthL, Nat.max_le, ih]; simp
/-- the trees in frames: good, few; the lowest first -/
structure FrT (w : Nat) (fr : List Fr) (top : Fr) : Prop where
  nm : ∀ f ∈ fr ++ [top], nameB f.1 = true ∧ ∀ t ∈ f.2.2, t.good
  few : ∀ f ∈ fr, f.2.2.length ≤ 8
  few1 : top.2.2.length ≤ 9
  len : fr.length ≤ 9
  dep : ∀ j f, (fr ++ [top])[j]? = some f → ∀ t ∈ f.2.2, t.depth + j ≤ 10 + w
section
variable {w : Nat} {fr : List Fr} {top g : Fr}
theorem FrT.good (T : FrT w fr top) : (Tr.bk top.1 top.2.2).good := by
  have := T.nm top (by simp)
  exact ⟨this.1, T.few1, goodL_iff.mpr this.2⟩
theorem FrT.depth (T : FrT w fr top) : (Tr.bk top.1 top.2.2).depth + fr.length ≤ 11 + w := by
  have : depthL top.2.2 + fr.length ≤ 10 + w := by
    by_cases z : fr.length ≤ 10 + w
    · have := depthL_le.mpr (fun t ht => by have := T.dep fr.length top (by simp) t ht; show t.depth ≤ 10 + w - fr.length; omega)
      omega
    · have := T.len; omega
  rw [Tr.depth]; omega
end
end DV
namespace DV
open PySem PySem.Spec PyProof.Rows L2
theorem tup_loc {h : Hs} {l : Nat} {xs : List D} (e : h[l]? = some (.lst xs)) : tupT [.loc l] h = some (.tup xs, h) := by simp [tupT, e]
theorem eqB_empty {h : Hs} {l : Nat} {xs : List D} (e : h[l]? = some (.lst xs)) : eqB (.loc l) (.loc h.length) (h ++ [AO.lst []]) = some xs.isEmpty := by
  have e1 : (h ++ [AO.lst []])[l]? = some (.lst xs) := get_app e
  have e2 : (h ++ [AO.lst []])[h.length]? = some (.lst []) := by simp
  cases xs with
  | nil =>
    rw [eqB_lst e1 e2 rfl rfl (Nat.zero_le _)]; simp
  | cons x xs => rw [eqB_len e1 e2 (by simp)]; rfl
theorem eq_empty {h : Hs} {l : Nat} {xs : List D} (e : h[l]? = some (.lst xs)) : eqF (.loc l) (.loc h.length) (h ++ [AO.lst []]) = some (.bl xs.isEmpty, h ++ [AO.lst []]) := by
  unfold eqF
  rw [eqB_empty e]; rfl
end DV
namespace DV
open PySem PySem.Spec PyProof.Rows L2
def plInts (p : List Nat) : List D := p.map fun (k : Nat) => D.int (k : Int)
@[simp] theorem rng3_int {i j : Int} : rng3 [.int i, .int j, .int (-1)] = if inR i = true ∧ inR j = true then some ((List.range (i - j).toNat).map fun (t : Nat) => .int (i - (t : Int))) else none := by
  unfold rng3
  simp
end DV
namespace DV
open PySem PySem.Spec PyProof.Rows L2
theorem strOk_name {s : Str} (h : nameB s = true) : PyData.strOk s = true := by
  unfold nameB at h
  rw [Bool.and_eq_true, nameL_iff] at h
  obtain ⟨_, _, h⟩ := h
  unfold PyData.strOk
  rw [Array.all_eq_true]
  intro i hi
  have e : s.cps.toList[i]? = some s.cps[i] := by rw [Array.getElem?_toList]; exact Array.getElem?_eq_getElem hi
  have := h i _ e
  unfold okAt at this
  simp only [Bool.or_eq_true, Bool.and_eq_true, decide_eq_true_eq] at this
  have small : ∀ c, c ∈ smallS.cps → c < 0x110000 := by decide +kernel
  have fig : ∀ c, c ∈ figS.cps → c < 0x110000 := by decide +kernel
  rcases this with z | ⟨_, z⟩
  · exact decide_eq_true (small _ z)
  · exact decide_eq_true (fig _ z)
mutual
theorem dep_tD : ∀ t : Tr, depD (tD t) ≤ 2 * t.depth
  | .bl k => by simp [tD, depD, depL, Tr.depth]
  | .bk s ps => by
    have := dep_tDs ps
    simp [tD, depD, depL, Tr.depth]
    omega
theorem dep_tDs : ∀ ts : List Tr, depL (tDs ts) ≤ 2 * depthL ts
  | [] => by simp [tDs, depL]
  | t :: ts => by
    have := dep_tD t
    have := dep_tDs ts
    simp only [tDs, depL, depthL]
    omega
end
end DV
namespace DV
open PySem PySem.Spec PyProof.Rows L2
@[simp] theorem ix_ro {h : Hs} {ns : List Int} {i : Int} : ixF (.ro ns) (.int i) h = (atI ns i).map fun n => (.int n, h) := rfl
def cellI (ns : List Int) (k : Nat) : Int := (ns[k]?).getD 0
theorem cell_ok (n : Nat) (h : Hs) (ns : List Int) (k : Nat) : F__law_cell_at (n + 1) [.ro ns, .int k] h = .ok (.int (cellI ns k)) h := by
  rw [S__law_cell_at]
  refine R.wp_eq.mp ?_
  by_cases c : k < ns.length
  · have e : atI ns (k : Int) = some ns[k] := by rw [atI_nat c, List.getElem?_eq_getElem c]
    have e2 : cellI ns k = ns[k] := by unfold cellI; rw [List.getElem?_eq_getElem c]; rfl
    simp [wp_pure, wp_run, m__law_cell_at, startD, wp_v, c, e, e2, noloc]
  · have e2 : cellI ns k = 0 := by unfold cellI; rw [List.getElem?_eq_none (by omega)]; rfl
    simp [wp_pure, wp_run, m__law_cell_at, startD, wp_v, c, e2, noloc]
theorem cell0_ok (n : Nat) (h : Hs) (ns : List Int) : F__law_cell_at (n + 1) [.ro ns, .int 0] h = .ok (.int (cellI ns 0)) h := cell_ok n h ns 0
theorem slF_ro {h : Hs} {ns : List Int} {lo hi : Option Int} : slF (.ro ns) lo hi h = some (.loc h.length, h ++ [.lst ((cutL ns lo hi).map D.int)]) := rfl
theorem slF_lst {h : Hs} {l : Nat} {xs : List D} {lo hi : Option Int} (e : h[l]? = some (.lst xs)) : slF (.loc l) lo hi h = some (.loc h.length, h ++ [.lst (cutL xs lo hi)]) := by simp [slF, e]
theorem cut_from {α : Type} (xs : List α) (k : Nat) : cutL xs (some (k : Int)) none = xs.drop k := by
  unfold cutL
  have e1 : HT.sIx xs.length xs.length none = xs.length := rfl
  rw [e1, HT.sIx_nat]
  by_cases c : k ≤ xs.length
  · rw [Nat.min_eq_left c]
    exact List.take_of_length_le (by rw [List.length_drop]; omega)
  · rw [Nat.min_eq_right (by omega), List.drop_length, List.drop_eq_nil_of_le (by omega)]; simp
theorem cut1 {α : Type} (xs : List α) : cutL xs (some 1) none = xs.drop 1 := cut_from xs 1
@[simp] theorem p109 : cPow 10 9 = true := cPow_of (by decide) (by decide) (by decide)
@[simp] theorem p108 : cPow 10 8 = true := cPow_of (by decide) (by decide) (by decide)
@[simp] theorem p106 : cPow 10 6 = true := cPow_of (by decide) (by decide) (by decide)
@[simp] theorem m109 (i : Int) : cMod i 1000000000 = true := cMod_of (by decide)
@[simp] theorem pl_len (p : List Nat) : (plInts p).length = p.length := by simp [plInts]
end DV
namespace DV
open PySem PySem.Spec PyProof.Rows L2
def Tr.at_ : Tr → List Int → Option Tr
  | t, [] => some t
  | t, k :: p => if 0 ≤ k ∧ k < t.parts.length then (t.parts[k.toNat]?).bind fun u => u.at_ p else none
def plZ (p : List Int) : List D := p.map D.int
end DV
namespace DV
open PySem PySem.Spec PyProof.Rows L2
end DV
namespace DV
open PySem PySem.Spec PyProof.Rows L2
/-- those not yet there, one behind the other -/
def addNew : List Int → List Int → List Int
  | acc, [] => acc
  | acc, k :: ks => addNew (if k ∈ acc then acc else acc ++ [k]) ks
mutual
def Tr.blanks : Tr → List Int
  | .bl k => [k]
  | .bk _ ps => blanksL [] ps
def blanksL (acc : List Int) : List Tr → List Int
  | [] => acc
  | t :: ts => blanksL (addNew acc t.blanks) ts
end
mutual
/-- all blanks as they stand -/
def Tr.allB : Tr → List Int
  | .bl k => [k]
  | .bk _ ps => allBL ps
def allBL : List Tr → List Int
  | [] => []
  | t :: ts => t.allB ++ allBL ts
end
theorem addNew_app : ∀ (xs ys acc : List Int), addNew acc (xs ++ ys) = addNew (addNew acc xs) ys
  | [], ys, acc => rfl
  | x :: xs, ys, acc => by rw [List.cons_append, addNew, addNew, addNew_app xs ys]
theorem mem_addNew {k : Int} : ∀ (xs acc : List Int), k ∈ addNew acc xs ↔ k ∈ acc ∨ k ∈ xs
  | [], acc => by simp [addNew]
  | x :: xs, acc => by
    rw [addNew, mem_addNew xs]
    split
    · rename_i h
      constructor
      · rintro (a | a)
        · exact .inl a
        · exact .inr (List.mem_cons_of_mem _ a)
      · rintro (a | a)
        · exact .inl a
        · rcases List.mem_cons.mp a with rfl | a
          · exact .inl h
          · exact .inr a
    · simp only [List.mem_append, List.mem_cons, List.not_mem_nil, or_false]
      constructor
      · rintro ((a | a) | a)
        · exact .inl a
        · exact .inr (.inl a)
        · exact .inr (.inr a)
      · rintro (a | a | a)
        · exact .inl (.inl a)
        · exact .inl (.inr a)
        · exact .inr a
/-- adding what was gathered apart is adding all -/
theorem addNew_gather : ∀ (xs acc b : List Int), addNew acc (addNew b xs) = addNew (addNew acc b) xs
  | [], acc, b => rfl
  | x :: xs, acc, b => by
    rw [addNew, addNew, addNew_gather xs acc]
    congr 1
    split
    · rename_i h
      rw [if_pos ((mem_addNew b acc).mpr (.inr h))]
    · rw [addNew_app]
      rfl
theorem nodup_addNew : ∀ (xs acc : List Int), acc.Nodup → (addNew acc xs).Nodup
  | [], acc, h => h
  | x :: xs, acc, h => by
    rw [addNew]
    refine nodup_addNew xs _ ?_
    split
    · exact h
    · rename_i hx
      refine List.nodup_append.mpr ⟨h, by simp, fun a ha b hb e => hx ?_⟩
      have e2 : b = x := by simpa using hb
      rw [e2] at e
      rw [← e]
      exact ha
mutual
theorem blanks_all : ∀ t : Tr, t.blanks = addNew [] t.allB
  | .bl k => by simp [Tr.blanks, Tr.allB, addNew]
  | .bk s ps => by rw [Tr.blanks, Tr.allB, blanksL_all ps]
theorem blanksL_all : ∀ (ts : List Tr) (acc : List Int), blanksL acc ts = addNew acc (allBL ts)
  | [], acc => by simp [blanksL, allBL, addNew]
  | t :: ts, acc => by
    rw [blanksL, allBL, blanksL_all ts, addNew_app, blanks_all t, addNew_gather]
    rfl
end
theorem blanks_nodup (t : Tr) : t.blanks.Nodup := by rw [blanks_all]; exact nodup_addNew _ _ List.nodup_nil
mutual
theorem allB_len : ∀ t : Tr, t.allB.length ≤ t.knots
  | .bl k => by simp [Tr.allB, Tr.knots]
  | .bk s ps => by rw [Tr.allB, Tr.knots]; have := allBL_len ps; omega
theorem allBL_len : ∀ ts : List Tr, (allBL ts).length ≤ knotsL ts
  | [] => by simp [allBL]
  | t :: ts => by rw [allBL, knotsL, List.length_append]; have := allB_len t; have := allBL_len ts; omega
end
theorem addNew_len : ∀ (xs acc : List Int), (addNew acc xs).length ≤ acc.length + xs.length
  | [], acc => by simp [addNew]
  | x :: xs, acc => by
    rw [addNew]
    have := addNew_len xs (if x ∈ acc then acc else acc ++ [x])
    split at this <;> (simp at this ⊢; rename_i h; simp [h]; omega)
theorem blanks_len (t : Tr) : t.blanks.length ≤ t.knots := by
  rw [blanks_all]
  have h1 := addNew_len t.allB []
  have h2 := allB_len t
  rw [List.length_nil] at h1
  omega
theorem blanksL_snoc (u : Tr) : ∀ (ts : List Tr) (acc : List Int), blanksL acc (ts ++ [u]) = addNew (blanksL acc ts) u.blanks
  | [], acc => by simp [blanksL]
  | t :: ts, acc => by rw [List.cons_append, blanksL, blanksL, blanksL_snoc u ts]
theorem ints_flat (xs : List Int) : (xs.map D.int).all flatD = true := by
  rw [List.all_map]
  exact List.all_eq_true.mpr fun _ _ => rfl
theorem inFlat_ints (k : Int) : ∀ xs : List Int, inFlat (.int k) (xs.map D.int) = decide (k ∈ xs)
  | [] => by simp [inFlat]
  | x :: xs => by
    have ih := inFlat_ints k xs
    unfold inFlat at ih ⊢
    rw [List.map_cons, List.any_cons, ih]
    show ((x == k) || _) = _
    by_cases c : k = x
    · subst c; simp
    · have : (x == k) = false := by simpa using Ne.symm c
      rw [this]
      simp [c]
theorem in_ints {h : Hs} {l : Nat} {xs : List Int} {k : Int} (e : h[l]? = some (.lst (xs.map D.int))) : inF (.int k) (.loc l) h = some (.bl (decide (k ∈ xs)), h) := by
  simp only [inF, inB, e, ints_flat, inFlat_ints, flatD, Bool.and_self, if_true]
  rfl
theorem nin_ints {h : Hs} {l : Nat} {xs : List Int} {k : Int} (e : h[l]? = some (.lst (xs.map D.int))) : ninF (.int k) (.loc l) h = some (.bl (!decide (k ∈ xs)), h) := by
  simp only [ninF, inB, e, ints_flat, inFlat_ints, flatD, Bool.and_self, if_true]
  rfl
theorem noloc_ints (xs : List Int) : nolocL (xs.map D.int) = true := by
  induction xs with
  | nil => rfl
  | cons x xs ih => simp [nolocL, noloc, ih]
theorem blanks_of_ok : ∀ (n : Nat) (h : Hs) (t : Tr), t.depth ≤ n → t.knots ≤ 1000000 → F_blanks_of n [tD t] h = .ok (.loc h.length) (h ++ [.lst (t.blanks.map D.int)])
  | 0, h, t, hn, _ => by rw [depth_parts] at hn; omega
  | n + 1, h, .bl k, hn, hk => by
    rw [S_blanks_of]
    refine R.wp_eq.mp (wp_new ?_)
    simp [wp_run, m_blanks_of, startD, wp_v, tD, nolocO, nolocL, noloc, Tr.blanks]
  | n + 1, h, .bk s ps, hn, hk => by
    rw [S_blanks_of]
    refine R.wp_eq.mp (wp_new ?_)
    rw [Tr.depth] at hn
    rw [Tr.knots] at hk
    simp [wp_run, m_blanks_of, startD, wp_v, tD]
    obtain ⟨J, hJ⟩ : ∃ J : Nat → Sl → Hs → Prop, J = fun i ds h' => ∃ r b c, h' = h ++ (.lst ((blanksL [] (ps.take i)).map D.int) :: r) ∧ ds = [some (tD (.bk s ps)), some (.loc h.length), b, c] := ⟨_, rfl⟩
    have start : J 0 [some (tD (.bk s ps)), some (.loc h.length), none, none] (h ++ [.lst []]) := by rw [hJ]; exact ⟨[], _, _, rfl, rfl⟩
    simp [tD] at start
    refine ws_loop _ J start (fun _ _ _ _ => trivial) ?_ ?_
    · intro i d ds h' hd hj
      rw [hJ] at hj
      obtain ⟨r, b, c, rfl, rfl⟩ := hj
      obtain ⟨u, hu, rfl⟩ := tDs_get hd
      have mu := List.mem_of_getElem? hu
      have du := depth_mem mu
      have ku := knots_mem mu
      have ih := blanks_of_ok n (h ++ (.lst ((blanksL [] (ps.take i)).map D.int) :: r)) u (by omega) (by omega)
      have e1 : ps.take (i + 1) = ps.take i ++ [u] := by rw [List.take_add_one, hu]; rfl
      have e2 : blanksL [] (ps.take (i + 1)) = addNew (blanksL [] (ps.take i)) u.blanks := by rw [e1, blanksL_snoc]
      have al : (blanksL [] (ps.take i)).length ≤ 1000000 := by
        have a1 := blanks_len (.bk s (ps.take i))
        rw [Tr.blanks, Tr.knots] at a1
        have a2 : knotsL (ps.take i) ≤ knotsL ps := by
          rw [knotsL_sum, knotsL_sum]
          have : (ps.map Tr.knots).sum = ((ps.take i).map Tr.knots).sum + ((ps.drop i).map Tr.knots).sum := by
            rw [← List.sum_append, ← List.map_append, List.take_append_drop]
          omega
        omega
      have bl := blanks_len u
      generalize blanksL [] (ps.take i) = acc at ih e2 al ⊢
      have gi : ∀ (x : AO), (h ++ (x :: (r ++ [AO.lst (u.blanks.map D.int)])))[h.length + (r.length + 1)]? = some (.lst (u.blanks.map D.int)) := fun x => by simp
      have ii := its_lst (gi (.lst (acc.map D.int)))
      simp at ih
      simp [wp_v, ih, ii]
      obtain ⟨G, hG⟩ : ∃ G : Nat → Sl → Hs → Prop, G = fun k ds h' => ∃ c, h' = h ++ (.lst ((addNew acc (u.blanks.take k)).map D.int) :: (r ++ [AO.lst (u.blanks.map D.int)])) ∧ ds = [some (tD (.bk s ps)), some (.loc h.length), some (tD u), c] := ⟨_, rfl⟩
      have startG : G 0 [some (tD (.bk s ps)), some (.loc h.length), some (tD u), c] (h ++ (.lst (acc.map D.int) :: (r ++ [AO.lst (u.blanks.map D.int)]))) := by rw [hG]; exact ⟨_, rfl, rfl⟩
      refine ws_loop _ G startG (fun k ds h' j => by rw [hG] at j; obtain ⟨_, rfl, _⟩ := j; exact gi _) ?_ ?_
      · intro k d ds h' hd hj
        rw [hG] at hj
        obtain ⟨c, rfl, rfl⟩ := hj
        rw [List.getElem?_map] at hd
        cases q : u.blanks[k]? with
        | none => rw [q] at hd; cases hd
        | some x =>
          rw [q] at hd
          cases hd
          have e3 : u.blanks.take (k + 1) = u.blanks.take k ++ [x] := by rw [List.take_add_one, q]; rfl
          have e4 : addNew acc (u.blanks.take (k + 1)) = if x ∈ addNew acc (u.blanks.take k) then addNew acc (u.blanks.take k) else addNew acc (u.blanks.take k) ++ [x] := by rw [e3, addNew_app]; rfl
          have ln := addNew_len (u.blanks.take k) acc
          rw [List.length_take] at ln
          generalize addNew acc (u.blanks.take k) = A at e4 ln ⊢
          have gA : (h ++ (AO.lst (A.map D.int) :: (r ++ [AO.lst (u.blanks.map D.int)])))[h.length]? = some (.lst (A.map D.int)) := by simp
          have ck := ck_lst gA
          have app := append_lst (v := .int x) gA (by simp; omega)
          simp at app
          by_cases z : x ∈ A
          · have fin : G (k + 1) [some (tD (.bk s ps)), some (.loc h.length), some (tD u), some (.int x)] (h ++ (.lst (A.map D.int) :: (r ++ [AO.lst (u.blanks.map D.int)]))) := by
              rw [hG]; exact ⟨_, by rw [e4, if_pos z], rfl⟩
            simp [wp_v, nin_ints gA, z]
            exact fin
          · have fin : G (k + 1) [some (tD (.bk s ps)), some (.loc h.length), some (tD u), some (.int x)] (h ++ (.lst (A.map D.int ++ [.int x]) :: (r ++ [AO.lst (u.blanks.map D.int)]))) := by
              rw [hG]; exact ⟨_, by rw [e4, if_neg z, List.map_append]; rfl, rfl⟩
            simp [wp_v, nin_ints gA, z, ck, app]
            exact fin
      · intro ds h' hj
        rw [hG] at hj
        obtain ⟨c, rfl, rfl⟩ := hj
        rw [List.length_map, List.take_length, ← e2]
        rw [hJ]
        exact ⟨_, _, _, rfl, rfl⟩
    · intro ds h' hj
      rw [hJ] at hj
      obtain ⟨r, b, c, rfl, rfl⟩ := hj
      rw [tDs_len, List.take_length]
      simp [wp_v, nolocO, noloc_ints, Tr.blanks]
theorem dep_ints (xs : List Int) : depL (xs.map D.int) = 0 := by
  induction xs with
  | nil => rfl
  | cons x xs ih => simp [depL, depD, ih]
end DV
namespace DV
open PySem PySem.Spec PyProof.Rows L2
section
variable {α : Type}
def mD (f : α → D) (fs : List (Int × α)) : List (Key × D) := fs.map fun p => (.inl p.1, f p.2)
def mAt (fs : List (Int × α)) (k : Int) : Option α := (fs.find? fun p => decide (p.1 = k)).map (·.2)
@[simp] theorem mD_len (f : α → D) (fs : List (Int × α)) : (mD f fs).length = fs.length := List.length_map _
theorem mAt_cons (j k : Int) (a : α) (fs : List (Int × α)) : mAt ((j, a) :: fs) k = if j = k then some a else mAt fs k := by
  unfold mAt
  rw [List.find?_cons]
  by_cases c : j = k
  · simp [c]
  · simp [c]
theorem mAt_mem {fs : List (Int × α)} {k : Int} {a : α} (h : mAt fs k = some a) : (k, a) ∈ fs := by
  induction fs with
  | nil => simp [mAt] at h
  | cons p fs ih =>
    obtain ⟨j, b⟩ := p
    rw [mAt_cons] at h
    split at h
    · rename_i c
      cases h
      rw [c]; exact List.mem_cons_self
    · exact List.mem_cons_of_mem _ (ih h)
end
mutual
def Tr.fill (f : Int → Option Tr) : Tr → Tr
  | .bl k => (f k).getD (.bl k)
  | .bk s ps => .bk s (fillL f ps)
def fillL (f : Int → Option Tr) : List Tr → List Tr
  | [] => []
  | t :: ts => t.fill f :: fillL f ts
end
theorem fillL_map (f : Int → Option Tr) : ∀ ts : List Tr, fillL f ts = ts.map (Tr.fill f)
  | [] => rfl
  | t :: ts => by rw [fillL, fillL_map f ts]; rfl
@[simp] theorem fillL_len (f : Int → Option Tr) (ts : List Tr) : (fillL f ts).length = ts.length := by rw [fillL_map, List.length_map]
def numF (i : Nat) : List Int → List (Int × Tr)
  | [] => []
  | b :: bs => (b, .bl ((i : Int) + 1)) :: numF (i + 1) bs
@[simp] theorem numF_len : ∀ (bs : List Int) (i : Nat), (numF i bs).length = bs.length
  | [], _ => rfl
  | b :: bs, i => by rw [numF, List.length_cons, numF_len bs]; rfl
end DV
namespace DV
open PySem PySem.Spec PyProof.Rows L2
end DV
namespace DV
open PySem PySem.Spec PyProof.Rows L2
def Tr.size (t : Tr) : Nat × Nat := (t.knots, t.depth)
def Tr.great (t : Tr) : Prop := 400 < t.knots ∨ 60 < t.depth
instance (t : Tr) : Decidable t.great := inferInstanceAs (Decidable (_ ∨ _))
end DV
namespace DV
open PySem PySem.Spec PyProof.Rows L2
end DV
namespace DV
open PySem PySem.Spec PyProof.Rows L2
end DV
namespace DV
open PySem PySem.Spec PyProof.Rows L2
def Tr.setPart : Tr → Nat → Tr → Tr
  | .bl k, _, _ => .bl k
  | .bk s ps, k, w => .bk s (ps.set k w)
def Tr.put : Tr → List Int → Tr → Option Tr
  | _, [], u => some u
  | t, k :: p, u => if 0 ≤ k ∧ k < t.parts.length then (t.parts[k.toNat]?).bind fun v => (v.put p u).map fun w => t.setPart k.toNat w else none
@[simp] theorem plZ_len (p : List Int) : (plZ p).length = p.length := by simp [plZ]
end DV
namespace DV
open PySem PySem.Spec PyProof.Rows L2
@[simp] theorem xn_FormError_NoPlace : (("FormError" : Str) = "NoPlace") = False := eq_false (by decide +kernel)
@[simp] theorem xn_FormError_BadText : (("FormError" : Str) = "BadText") = False := eq_false (by decide +kernel)
@[simp] theorem xn_FormError_TooLong : (("FormError" : Str) = "TooLong") = False := eq_false (by decide +kernel)
@[simp] theorem xn_FormError_BadPaper : (("FormError" : Str) = "BadPaper") = False := eq_false (by decide +kernel)
@[simp] theorem xn_FormError_BadName : (("FormError" : Str) = "BadName") = False := eq_false (by decide +kernel)
@[simp] theorem xn_FormError_Twice : (("FormError" : Str) = "Twice") = False := eq_false (by decide +kernel)
@[simp] theorem xn_FormError_NoForm : (("FormError" : Str) = "NoForm") = False := eq_false (by decide +kernel)
@[simp] theorem xn_NoPlace_FormError : (("NoPlace" : Str) = "FormError") = False := eq_false (by decide +kernel)
@[simp] theorem xn_NoPlace_BadText : (("NoPlace" : Str) = "BadText") = False := eq_false (by decide +kernel)
@[simp] theorem xn_NoPlace_TooLong : (("NoPlace" : Str) = "TooLong") = False := eq_false (by decide +kernel)
@[simp] theorem xn_NoPlace_BadPaper : (("NoPlace" : Str) = "BadPaper") = False := eq_false (by decide +kernel)
@[simp] theorem xn_NoPlace_BadName : (("NoPlace" : Str) = "BadName") = False := eq_false (by decide +kernel)
@[simp] theorem xn_NoPlace_Twice : (("NoPlace" : Str) = "Twice") = False := eq_false (by decide +kernel)
@[simp] theorem xn_NoPlace_NoForm : (("NoPlace" : Str) = "NoForm") = False := eq_false (by decide +kernel)
@[simp] theorem xn_BadText_FormError : (("BadText" : Str) = "FormError") = False := eq_false (by decide +kernel)
@[simp] theorem xn_BadText_NoPlace : (("BadText" : Str) = "NoPlace") = False := eq_false (by decide +kernel)
@[simp] theorem xn_BadText_TooLong : (("BadText" : Str) = "TooLong") = False := eq_false (by decide +kernel)
@[simp] theorem xn_BadText_BadPaper : (("BadText" : Str) = "BadPaper") = False := eq_false (by decide +kernel)
@[simp] theorem xn_BadText_BadName : (("BadText" : Str) = "BadName") = False := eq_false (by decide +kernel)
@[simp] theorem xn_BadText_Twice : (("BadText" : Str) = "Twice") = False := eq_false (by decide +kernel)
@[simp] theorem xn_BadText_NoForm : (("BadText" : Str) = "NoForm") = False := eq_false (by decide +kernel)
@[simp] theorem xn_TooLong_FormError : (("TooLong" : Str) = "FormError") = False := eq_false (by decide +kernel)
@[simp] theorem xn_TooLong_NoPlace : (("TooLong" : Str) = "NoPlace") = False := eq_false (by decide +kernel)
@[simp] theorem xn_TooLong_BadText : (("TooLong" : Str) = "BadText") = False := eq_false (by decide +kernel)
@[simp] theorem xn_TooLong_BadPaper : (("TooLong" : Str) = "BadPaper") = False := eq_false (by decide +kernel)
@[simp] theorem xn_TooLong_BadName : (("TooLong" : Str) = "BadName") = False := eq_false (by decide +kernel)
@[simp] theorem xn_TooLong_Twice : (("TooLong" : Str) = "Twice") = False := eq_false (by decide +kernel)
@[simp] theorem xn_TooLong_NoForm : (("TooLong" : Str) = "NoForm") = False := eq_false (by decide +kernel)
@[simp] theorem xn_BadPaper_FormError : (("BadPaper" : Str) = "FormError") = False := eq_false (by decide +kernel)
@[simp] theorem xn_BadPaper_NoPlace : (("BadPaper" : Str) = "NoPlace") = False := eq_false (by decide +kernel)
@[simp] theorem xn_BadPaper_BadText : (("BadPaper" : Str) = "BadText") = False := eq_false (by decide +kernel)
@[simp] theorem xn_BadPaper_TooLong : (("BadPaper" : Str) = "TooLong") = False := eq_false (by decide +kernel)
@[simp] theorem xn_BadPaper_BadName : (("BadPaper" : Str) = "BadName") = False := eq_false (by decide +kernel)
@[simp] theorem xn_BadPaper_Twice : (("BadPaper" : Str) = "Twice") = False := eq_false (by decide +kernel)
@[simp] theorem xn_BadPaper_NoForm : (("BadPaper" : Str) = "NoForm") = False := eq_false (by decide +kernel)
@[simp] theorem xn_BadName_FormError : (("BadName" : Str) = "FormError") = False := eq_false (by decide +kernel)
@[simp] theorem xn_BadName_NoPlace : (("BadName" : Str) = "NoPlace") = False := eq_false (by decide +kernel)
@[simp] theorem xn_BadName_BadText : (("BadName" : Str) = "BadText") = False := eq_false (by decide +kernel)
@[simp] theorem xn_BadName_TooLong : (("BadName" : Str) = "TooLong") = False := eq_false (by decide +kernel)
@[simp] theorem xn_BadName_BadPaper : (("BadName" : Str) = "BadPaper") = False := eq_false (by decide +kernel)
@[simp] theorem xn_BadName_Twice : (("BadName" : Str) = "Twice") = False := eq_false (by decide +kernel)
@[simp] theorem xn_BadName_NoForm : (("BadName" : Str) = "NoForm") = False := eq_false (by decide +kernel)
@[simp] theorem xn_Twice_FormError : (("Twice" : Str) = "FormError") = False := eq_false (by decide +kernel)
@[simp] theorem xn_Twice_NoPlace : (("Twice" : Str) = "NoPlace") = False := eq_false (by decide +kernel)
@[simp] theorem xn_Twice_BadText : (("Twice" : Str) = "BadText") = False := eq_false (by decide +kernel)
@[simp] theorem xn_Twice_TooLong : (("Twice" : Str) = "TooLong") = False := eq_false (by decide +kernel)
@[simp] theorem xn_Twice_BadPaper : (("Twice" : Str) = "BadPaper") = False := eq_false (by decide +kernel)
@[simp] theorem xn_Twice_BadName : (("Twice" : Str) = "BadName") = False := eq_false (by decide +kernel)
@[simp] theorem xn_Twice_NoForm : (("Twice" : Str) = "NoForm") = False := eq_false (by decide +kernel)
@[simp] theorem xn_NoForm_FormError : (("NoForm" : Str) = "FormError") = False := eq_false (by decide +kernel)
@[simp] theorem xn_NoForm_NoPlace : (("NoForm" : Str) = "NoPlace") = False := eq_false (by decide +kernel)
@[simp] theorem xn_NoForm_BadText : (("NoForm" : Str) = "BadText") = False := eq_false (by decide +kernel)
@[simp] theorem xn_NoForm_TooLong : (("NoForm" : Str) = "TooLong") = False := eq_false (by decide +kernel)
@[simp] theorem xn_NoForm_BadPaper : (("NoForm" : Str) = "BadPaper") = False := eq_false (by decide +kernel)
@[simp] theorem xn_NoForm_BadName : (("NoForm" : Str) = "BadName") = False := eq_false (by decide +kernel)
@[simp] theorem xn_NoForm_Twice : (("NoForm" : Str) = "Twice") = False := eq_false (by decide +kernel)
@[simp] theorem tabF_nil {c : Str} : tabF [] c = none := rfl
@[simp] theorem tabF_cons {x c : Str} {b : Bool} {r : List (Str × Bool)} : tabF ((x, b) :: r) c = if x = c then some b else tabF r c := by
  unfold tabF
  rw [List.find?_cons]
  by_cases e : x = c
  · rw [if_pos e]; simp [e]
  · rw [if_neg e]; simp [e]
@[simp] theorem isX_exn {tb : List (Str × Bool)} {c : Str} {h : Hs} : isXF tb (.exn c) h = (tabF tb c).map fun b => (.bl b, h) := rfl
theorem add_lsts {h : Hs} {i j : Nat} {xs ys : List D} (ei : h[i]? = some (.lst xs)) (ej : h[j]? = some (.lst ys)) (z : xs.length + ys.length ≤ 16777216) : addF (.loc i) (.loc j) h = some (.loc h.length, h ++ [.lst (xs ++ ys)]) := by
  simp [addF, ei, ej, z]
end DV
namespace DV
open PySem PySem.Spec PyProof.Rows L2
end DV
namespace DV
open PySem PySem.Spec PyProof.Rows L2
end DV
namespace DV
open PySem PySem.Spec PyProof.Rows L2
mutual
theorem tD_inj : ∀ {t u : Tr}, tD t = tD u → t = u
  | .bl k, .bl j, h => by simp [tD] at h; rw [h]
  | .bl _, .bk _ _, h => by simp [tD] at h
  | .bk _ _, .bl _, h => by simp [tD] at h
  | .bk s ps, .bk s' ps', h => by
    simp [tD] at h
    rw [h.1, tDs_inj h.2]
theorem tDs_inj : ∀ {ts us : List Tr}, tDs ts = tDs us → ts = us
  | [], [], _ => rfl
  | [], _ :: _, h => by simp [tDs] at h
  | _ :: _, [], h => by simp [tDs] at h
  | t :: ts, u :: us, h => by
    simp [tDs] at h
    rw [tD_inj h.1, tDs_inj h.2]
end
/-- what the law's filling is -/
structure FilOk (fs : List (Int × Tr)) : Prop where
  nd : (fs.map (·.1)).Nodup
  len : fs.length ≤ 6
  ok : ∀ p ∈ fs, p.2.good ∧ p.2.knots ≤ 190 ∧ p.2.depth ≤ 28
theorem FilOk.at_ {fs : List (Int × Tr)} (F : FilOk fs) {k : Int} {u : Tr} (e : mAt fs k = some u) : u.good ∧ u.knots ≤ 190 ∧ u.depth ≤ 28 := F.ok _ (mAt_mem e)
end DV
namespace DV
open PySem PySem.Spec PyProof.Rows L2
end DV
namespace DV
open PySem PySem.Spec PyProof.Rows L2
end DV
namespace DV
open PySem PySem.Spec PyProof.Rows L2
end DV
namespace DV
open PySem PySem.Spec PyProof.Rows L2
end DV
namespace DV
open PySem PySem.Spec PyProof.Rows L2
mutual
def Tr.nam : Tr → Prop
  | .bl _ => True
  | .bk s ps => nameB s = true ∧ ps.length ≤ 9 ∧ namL ps
def namL : List Tr → Prop
  | [] => True
  | t :: ts => t.nam ∧ namL ts
end
mutual
theorem nam_good : ∀ {t : Tr}, t.good → t.nam
  | .bl k, _ => trivial
  | .bk s ps, g => ⟨g.1, g.2.1, namL_good g.2.2⟩
theorem namL_good : ∀ {ts : List Tr}, goodL ts → namL ts
  | [], _ => trivial
  | t :: ts, g => ⟨nam_good g.1, namL_good g.2⟩
end
mutual
theorem pyOk_nam : ∀ {t : Tr}, t.nam → pyOk (tD t) = true
  | .bl k, _ => by simp only [tD, pyOk, pyOkL, Bool.and_true]; decide +kernel
  | .bk s ps, g => by
    obtain ⟨g1, g2, g3⟩ := g
    have e : PyData.strOk "block" = true := by decide +kernel
    simp only [tD, pyOk, pyOkL, Bool.and_true, e, strOk_name g1, pyOk_namL g3]
theorem pyOk_namL : ∀ {ts : List Tr}, namL ts → pyOkL (tDs ts) = true
  | [], _ => rfl
  | t :: ts, g => by simp [tDs, pyOkL, pyOk_nam g.1, pyOk_namL g.2]
end
theorem eq_tree {h : Hs} {t u : Tr} (g : t.nam) (g' : u.nam) (d : t.depth ≤ 95) [Decidable (t = u)] : eqF (tD t) (tD u) h = some (.bl (decide (t = u)), h) := by
  classical
  have := dep_tD t
  rw [eq_of (pyOk_nam g) (pyOk_nam g') (by omega)]
  congr 3
  by_cases c : t = u
  · rw [decide_eq_true c, decide_eq_true (congrArg tD c)]
  · rw [decide_eq_false c, decide_eq_false fun e => c (tD_inj e)]
theorem ne_tree {h : Hs} {t u : Tr} (g : t.nam) (g' : u.nam) (d : t.depth ≤ 95) [Decidable (t = u)] : neF (tD t) (tD u) h = some (.bl (!decide (t = u)), h) := by
  classical
  have := dep_tD t
  rw [ne_of' (pyOk_nam g) (pyOk_nam g') (by omega)]
  congr 4
  by_cases c : t = u
  · rw [decide_eq_true c, decide_eq_true (congrArg tD c)]
  · rw [decide_eq_false c, decide_eq_false fun e => c (tD_inj e)]
noncomputable instance : DecidableEq Tr := fun _ _ => Classical.propDecidable _
theorem st_for {N : Sl → Hs → Prop} {Q : D → Hs → Prop} {X : QX} {ds : Sl} {h : Hs} {I : IM} {T : GM} {B S : SM} (its : List D) (gd : Hs → Prop) (h1 : Hs) (J : Nat → Sl → Hs → Prop) (e : (I ds h).wp (fun p h' => p = (its, gd) ∧ h' = h1) xF) (start : J 0 ds h1) (guard : ∀ i ds h, J i ds h → gd h)
    (turn : ∀ i d ds h, its[i]? = some d → J i ds h → (T d ds h).wp (fun ds h => (B ds h).wp (J (i + 1)) Q X) (fun _ _ => False) xF) (done : ∀ ds h, J its.length ds h → (S ds h).wp N Q X) : (seqM (forM I T B) S ds h).wp N Q X := by
  rw [ws_seq, ws_for, R.wp_eq.mp e]
  exact ws_loop its J start guard turn done
theorem ne_lst_same {h : Hs} {i j : Nat} {xs : List D} (ei : h[i]? = some (.lst xs)) (ej : h[j]? = some (.lst xs)) (a : pyOkL xs = true) (z : depL xs ≤ 189) : neF (.loc i) (.loc j) h = some (.bl false, h) := by
  unfold neF
  rw [eqB_lst ei ej a a z]
  simp
end DV
namespace DV
open PySem PySem.Spec PyProof.Rows L2
end DV
namespace DV
open PySem PySem.Spec PyProof.Rows L2
end DV
namespace DV
open PySem PySem.Spec PyProof.Rows L2
end DV
namespace DV
open PySem PySem.Spec PyProof.Rows L2
structure Okt (s : Str) (n : Nat) : Prop where
  len : s.length ≤ n
  sg : ∀ c ∈ s.cps.toList, c < 0x110000
theorem Okt.strOk {s : Str} {n : Nat} (h : Okt s n) : PyData.strOk s = true := by
  unfold PyData.strOk
  rw [Array.all_eq_true]
  intro i hi
  exact decide_eq_true (h.sg _ (by simp))
theorem Okt.app {a b : Str} {n m : Nat} (h : Okt a n) (g : Okt b m) : Okt (a ++ b) (n + m) := by
  refine ⟨by rw [app_len]; have := h.len; have := g.len; omega, fun c hc => ?_⟩
  have e : (a ++ b).cps.toList = a.cps.toList ++ b.cps.toList := Array.toList_append
  rw [e] at hc
  rcases List.mem_append.mp hc with hc | hc
  · exact h.sg c hc
  · exact g.sg c hc
theorem Okt.cut {a : Str} {n : Nat} (lo hi : Option Int) (h : Okt a n) : Okt (cutS a lo hi) n := by
  refine ⟨Nat.le_trans (cut_len a lo hi) h.len, fun c hc => h.sg c ?_⟩
  have e : (cutS a lo hi).cps.toList = cutL a.cps.toList lo hi := by
    unfold cutL
    simp [cutS]
    rfl
  rw [e] at hc
  exact List.mem_of_mem_drop (List.mem_of_mem_take hc)
theorem Okt.rep {a : Str} {n : Nat} (k : Nat) (h : Okt a n) : Okt (repS a k) (n * k) := by
  refine ⟨by rw [rep_size]; exact Nat.mul_le_mul_right _ h.len, fun c hc => h.sg c ?_⟩
  have e : (repS a k).cps.toList = (List.replicate k a.cps.toList).flatten := by simp [repS]
  rw [e] at hc
  obtain ⟨l, hl, hc⟩ := List.mem_flatten.mp hc
  rw [List.eq_of_mem_replicate hl] at hc
  exact hc
theorem Okt.mono {a : Str} {n m : Nat} (h : Okt a n) (l : n ≤ m) : Okt a m := ⟨Nat.le_trans h.len l, h.sg⟩
end DV
namespace DV
open PySem PySem.Spec PyProof.Rows L2
end DV
namespace DV
open PySem PySem.Spec PyProof.Rows L2
end DV
namespace DV
open PySem PySem.Spec PyProof.Rows L2
end DV
namespace DV
open PySem PySem.Spec PyProof.Rows L2
end DV
namespace DV
open PySem PySem.Spec PyProof.Rows L2
end DV
namespace DV
open PySem PySem.Spec PyProof.Rows L2
end DV
namespace DV
open PySem PySem.Spec PyProof.Rows L2
theorem pyOk_ints (xs : List Int) : pyOkL (xs.map D.int) = true := by
  induction xs with
  | nil => rfl
  | cons x xs ih => simp [pyOkL, pyOk, ih]
end DV
namespace DV
open PySem PySem.Spec PyProof.Rows L2
def sm (c : Nat) : Bool := decide (c ∈ smallS.cps.toList)
def fg (c : Nat) : Bool := decide (c ∈ figS.cps.toList)
def nmS (c : Nat) : Bool := sm c || fg c
def bgn (r : List Nat) : Nat := r.headD 10
def badB (r : List Nat) : Bool := decide (bgn r ≠ 63) && !sm (bgn r)
end DV
namespace DV
open PySem PySem.Spec PyProof.Rows L2
end DV
namespace DV
open PySem PySem.Spec PyProof.Rows L2
end DV
namespace DV
open PySem PySem.Spec PyProof.Rows L2
end DV
namespace DV
open PySem PySem.Spec PyProof.Rows L2
end DV
namespace DV
open PySem PySem.Spec PyProof.Rows L2
theorem sm_arr (c : Nat) : decide (c ∈ smallS.cps) = sm c := by unfold sm; exact decide_eq_decide.mpr Array.mem_toList_iff.symm
theorem fg_arr (c : Nat) : decide (c ∈ figS.cps) = fg c := by unfold fg; exact decide_eq_decide.mpr Array.mem_toList_iff.symm
theorem name_list {s : Str} : nameB s = true ↔ ∃ c r, s.cps.toList = c :: r ∧ sm c = true ∧ r.all nmS = true ∧ r.length ≤ 11 := by
  have ok : ∀ c, okSign c = nmS c := fun c => by unfold okSign nmS; rw [sm_arr, fg_arr]
  have okf : okSign = nmS := funext ok
  unfold nameB
  rw [Bool.and_eq_true, decide_eq_true_eq, str_len]
  constructor
  · rintro ⟨⟨h1, h2⟩, h3⟩
    cases e : s.cps.toList with
    | nil => rw [e] at h1; simp at h1
    | cons c r =>
      rw [e, nameL, Bool.and_eq_true, sm_arr, okf] at h3
      rw [e] at h2
      exact ⟨c, r, rfl, h3.1, h3.2, by simpa using h2⟩
  · rintro ⟨c, r, e, h1, h2, h3⟩
    rw [e, nameL, sm_arr, okf, h1, h2]
    simp; omega
end DV
namespace DV
open PySem PySem.Spec PyProof.Rows L2
end DV
namespace DV
open PySem PySem.Spec PyProof.Rows L2
theorem app_list (a b : Str) : (a ++ b).cps.toList = a.cps.toList ++ b.cps.toList := Array.toList_append
theorem knotsL_takeW (ps : List Tr) (k : Nat) : knotsL (ps.take k) ≤ knotsL ps := by
  rw [knotsL_sum, knotsL_sum]
  have : (ps.map Tr.knots).sum = ((ps.take k).map Tr.knots).sum + ((ps.drop k).map Tr.knots).sum := by
    rw [← List.sum_append, ← List.map_append, List.take_append_drop]
  omega
end DV
namespace DV
open PySem PySem.Spec PyProof.Rows L2
end DV
namespace DV
open PySem PySem.Spec PyProof.Rows L2
end DV
namespace DV
open PySem PySem.Spec PyProof.Rows L2
inductive Md where
  | bg
  | nm (k : Nat)
  | nr (n : Int)
  | en
/-- one sign: the counts (the innermost first), the state, the knots begun -/
inductive Sc where
  | go (cs : List Nat) (m : Md) (b : Nat)
  | no (c : Str)
def bhd (c : Nat) (cs : List Nat) (b : Nat) : Sc := match cs with
  | [] => .no "BadText"
  | k :: cs => if c = 44 then (if k = 9 then .no "BadText" else .go ((k + 1) :: cs) .bg b) else if c = 41 then .go cs .en b else .no "BadText"
def stp (c : Nat) (cs : List Nat) (m : Md) (b : Nat) : Sc := match m with
  | .bg => if badB [c] = true then .no "BadText" else if b = 200 ∨ 30 ≤ cs.length then .no "TooLong" else .go cs (if c = 63 then .nr 0 else .nm 1) (b + 1)
  | .nm k => if nmS c = true then (if 12 < k + 1 then .no "BadText" else .go cs (.nm (k + 1)) b) else if c = 40 then .go (1 :: cs) .bg b else bhd c cs b
  | .nr n => if fg c = true then (if n * 10 + ((c : Int) - 48) = 0 ∨ 1000000000 < n * 10 + ((c : Int) - 48) then .no "BadText" else .go cs (.nr (n * 10 + ((c : Int) - 48))) b) else if n = 0 then .no "BadText" else bhd c cs b
  | .en => bhd c cs b
def fin (cs : List Nat) (m : Md) : Str := match m with
  | .bg => "BadText"
  | .nr n => if n = 0 then "BadText" else if cs = [] then "" else "BadText"
  | _ => if cs = [] then "" else "BadText"
end DV
namespace DV
open PySem PySem.Spec PyProof.Rows L2
def s1 (c : Nat) : Str := ⟨#[c]⟩
end DV
namespace DV
open PySem PySem.Spec PyProof.Rows L2
/-- the heap behind, with the counts in its first new place -/
def Kp (h h' : Hs) (C : List D) : Prop := h'.take h.length = h ∧ h'[h.length]? = some (.lst C)
theorem Kp.lt {h h' : Hs} {C : List D} (k : Kp h h' C) : h.length < h'.length := (List.getElem?_eq_some_iff.mp k.2).1
theorem Kp.app {h h' : Hs} {C : List D} (k : Kp h h' C) (q : Hs) : Kp h (h' ++ q) C := ⟨by rw [List.take_append_of_le_length (Nat.le_of_lt k.lt)]; exact k.1, get_app k.2⟩
theorem Kp.set {h h' : Hs} {C : List D} (k : Kp h h' C) (C' : List D) : Kp h (h'.set h.length (.lst C')) C' := ⟨by rw [List.take_set_of_le (Nat.le_refl _)]; exact k.1, by rw [List.getElem?_set_self k.lt]⟩
theorem pick0 {h : Hs} {a b : D} : ixF (.loc h.length) (.int 0) (h ++ [.lst [a, b]]) = some (a, h ++ [.lst [a, b]]) := by
  rw [ix_lst (xs := [a, b]) (by simp)]; rfl
theorem pick1 {h : Hs} {a b : D} : ixF (.loc h.length) (.int 1) (h ++ [.lst [a, b]]) = some (b, h ++ [.lst [a, b]]) := by
  rw [ix_lst (xs := [a, b]) (by simp)]; rfl
theorem neempty {h : Hs} {l : Nat} {xs : List D} (e : h[l]? = some (.lst xs)) : neF (.loc l) (.loc h.length) (h ++ [AO.lst []]) = some (.bl (!xs.isEmpty), h ++ [AO.lst []]) := by
  unfold neF
  rw [eqB_empty e]; rfl
end DV
namespace DV
open PySem PySem.Spec PyProof.Rows L2
end DV
namespace DV
open PySem PySem.Spec PyProof.Rows L2
theorem knots_memL {u : Tr} : ∀ {ps : List Tr}, u ∈ ps → u.knots ≤ knotsL ps
  | t :: ts, h => by
    rw [knotsL]
    rcases List.mem_cons.mp h with rfl | h
    · omega
    · have := knots_memL h; omega
theorem nbk {h : Hs} : neF (.str "block") (.str "block") h = some (.bl false, h) := by rw [ne_strs ok_block ok_block, decide_eq_true rfl]; rfl
theorem depth_bk {s : Str} {ps : List Tr} : (Tr.bk s ps).depth = 1 + depthL ps := rfl
end DV
namespace DV
open PySem PySem.Spec PyProof.Rows L2
end DV
namespace DV
open PySem PySem.Spec PyProof.Rows L2
end DV
namespace DV
open PySem PySem.Spec PyProof.Rows L2
structure SgOk (N : Nat) (s : Str) : Prop where
  len : s.length ≤ N
  sg : ∀ c ∈ s.cps.toList, c < 0x110000
theorem SgOk.mono {N M : Nat} {s : Str} (h : SgOk N s) (hN : N ≤ M) : SgOk M s := ⟨by have := h.len; omega, h.sg⟩
theorem SgOk.app {N M : Nat} {a b : Str} (h : SgOk N a) (k : SgOk M b) : SgOk (N + M) (a ++ b) := ⟨by rw [app_len]; have := h.len; have := k.len; omega, fun c hc => by
  rw [app_list] at hc
  rcases List.mem_append.mp hc with hc | hc
  · exact h.sg c hc
  · exact k.sg c hc⟩
theorem cut_list (s : Str) (lo hi : Option Int) : (cutS s lo hi).cps.toList = cutL s.cps.toList lo hi := by
  unfold cutL
  simp [cutS]
  rfl
theorem SgOk.cut {N : Nat} {s : Str} (h : SgOk N s) (lo hi : Option Int) : SgOk N (cutS s lo hi) := by
  have sl := str_len s
  refine ⟨?_, fun c hc => ?_⟩
  · rw [str_len, cut_list]
    unfold cutL
    have := h.len
    rw [List.length_take, List.length_drop]
    omega
  · rw [cut_list] at hc
    unfold cutL at hc
    exact h.sg c (List.mem_of_mem_drop (List.mem_of_mem_take hc))
theorem sl_str {h : Hs} {s : Str} {lo hi : Option Int} (z : s.length ≤ 16777216) : slF (.str s) lo hi h = some (.str (cutS s lo hi), h) := by
  unfold slF
  simp only [hL, if_pos z]
end DV
namespace DV
open PySem PySem.Spec PyProof.Rows L2
theorem rep_list (s : Str) (k : Nat) : (repS s k).cps.toList = (List.replicate k s.cps.toList).flatten := rfl
theorem SgOk.rep {N : Nat} {s : Str} (h : SgOk N s) (k : Nat) : SgOk (k * N) (repS s k) := by
  refine ⟨?_, fun c hc => ?_⟩
  · rw [str_len, rep_list]
    have := h.len
    rw [str_len] at this
    rw [List.length_flatten, List.map_replicate, List.sum_replicate_nat]
    exact Nat.mul_le_mul_left _ this
  · rw [rep_list] at hc
    obtain ⟨l, hl, hc⟩ := List.mem_flatten.mp hc
    rw [(List.mem_replicate.mp hl).2] at hc
    exact h.sg c hc
theorem ix_some {h : Hs} {l : Nat} {ss : List Str} {k : Int} (e : h[l]? = some (.lst (ss.map D.str))) (h0 : 0 ≤ k) (h1 : k < ss.length) : ∃ s, ixF (.loc l) (.int k) h = some (.str s, h) ∧ s ∈ ss := by
  obtain ⟨n, rfl⟩ := Int.eq_ofNat_of_zero_le h0
  have hn : n < ss.length := by omega
  refine ⟨ss[n], ?_, List.getElem_mem _⟩
  rw [ix_lst e, atI_nat (by rw [List.length_map]; exact hn), List.getElem?_map, List.getElem?_eq_getElem hn]
  rfl
theorem ix_int {h : Hs} {l : Nat} {ss : List Int} {k : Int} (e : h[l]? = some (.lst (ss.map D.int))) (h0 : 0 ≤ k) (h1 : k < ss.length) : ∃ s, ixF (.loc l) (.int k) h = some (.int s, h) ∧ s ∈ ss := by
  obtain ⟨n, rfl⟩ := Int.eq_ofNat_of_zero_le h0
  have hn : n < ss.length := by omega
  refine ⟨ss[n], ?_, List.getElem_mem _⟩
  rw [ix_lst e, atI_nat (by rw [List.length_map]; exact hn), List.getElem?_map, List.getElem?_eq_getElem hn]
  rfl
end DV
namespace DV
open PySem PySem.Spec PyProof.Rows L2
def Sml (xs : List Int) : Prop := ∀ x ∈ xs, 0 ≤ x ∧ x < 2147483647
theorem sml_nil : Sml [] := by intro x hx; cases hx
theorem stream_ok (n : Nat) (h : Hs) (cell : Int) (many : Nat) (hm : many ≤ 1000) : ∃ xs : List Int, F__law_stream (n + 1) [.int cell, .int many] h = .ok (.loc h.length) (h ++ [.lst (xs.map D.int)]) ∧ xs.length = many ∧ Sml xs := by
  have w : (F__law_stream (n + 1) [.int cell, .int many] h).wp (fun d h' => ∃ xs : List Int, d = .loc h.length ∧ h' = h ++ [.lst (xs.map D.int)] ∧ xs.length = many ∧ Sml xs) xF := by
    rw [S__law_stream]
    refine wp_new ?_
    rw [wp_run]
    refine ⟨rfl, ?_⟩
    unfold m__law_stream
    simp only [startD, List.map_cons, List.map_nil, List.length_cons, List.length_nil]
    refine st_set (.loc h.length) (h ++ [.lst []]) (by simp [wp_v]) ?_
    have mM : ∀ i, cMod i 2147483647 = true := fun _ => cMod_of (by decide)
    refine st_set (.int (cell % 2147483647)) (h ++ [.lst []]) (by simp [wp_v, mM]) ?_
    simp only [List.set_cons_succ, List.set_cons_zero, List.replicate, List.cons_append, List.nil_append]
    have b0 := Int.emod_nonneg cell (b := 2147483647) (by decide)
    have b1 := Int.emod_lt_of_pos cell (b := 2147483647) (by decide)
    generalize cell % 2147483647 = x0 at b0 b1
    have ir : inR ((many : Int) + 1) = true := inR_of (by omega) (by omega)
    obtain ⟨J, hJ⟩ : ∃ J : Nat → Sl → Hs → Prop, J = fun i ds h' => ∃ (xs : List Int) (x : Int) (y : Option D), xs.length = i ∧ Sml xs ∧ 0 ≤ x ∧ x < 2147483647 ∧ h' = h ++ [.lst (xs.map D.int)] ∧ ds = [some (.int cell), some (.int many), some (.loc h.length), some (.int x), y] := ⟨_, rfl⟩
    refine st_for ((List.range (many + 1)).map fun i : Nat => D.int i) (fun _ => True) (h ++ [.lst []]) J ?_ (by rw [hJ]; exact ⟨[], x0, none, rfl, sml_nil, b0, b1, rfl, rfl⟩) (fun _ _ _ _ => trivial) ?_ ?_
    · simp [wp_v, ir]
    · intro i d ds h' hi hj
      rw [hJ] at hj
      obtain ⟨xs, x, y, xl, xm, x1, x2, rfl, rfl⟩ := hj
      have il : i < many + 1 := by
        have := (List.getElem?_eq_some_iff.mp hi).1
        rw [List.length_map, List.length_range] at this
        exact this
      rw [List.getElem?_map, List.getElem?_range il] at hi
      cases hi
      have c1 : cMul x x = true := cMul_l (by omega) (by omega)
      have c2 : cMul 48271 x = true := cMul_l (by decide) (by decide)
      have c3 : cMul 7 (i : Int) = true := cMul_l (by decide) (by decide)
      have v0 := Int.emod_nonneg (x * x + 48271 * x + 7 * (i : Int) + 11) (b := 2147483647) (by decide)
      have v1 := Int.emod_lt_of_pos (x * x + 48271 * x + 7 * (i : Int) + 11) (b := 2147483647) (by decide)
      have el : (h ++ [AO.lst (xs.map D.int)])[h.length]? = some (.lst (xs.map D.int)) := by simp
      have ck := ck_lst el
      simp only [ws_nameG, List.set_cons_succ, List.set_cons_zero]
      refine st_set (.int ((x * x + 48271 * x + 7 * (i : Int) + 11) % 2147483647)) (h ++ [AO.lst (xs.map D.int)]) (by simp [wp_v, c1, c2, c3, mM]) ?_
      simp only [List.set_cons_succ, List.set_cons_zero]
      generalize (x * x + 48271 * x + 7 * (i : Int) + 11) % 2147483647 = v at v0 v1
      have ap := append_lst (v := .int v) el (by rw [List.length_map]; omega)
      rw [show (h ++ [AO.lst (xs.map D.int)]).set h.length (.lst (xs.map D.int ++ [.int v])) = h ++ [.lst ((xs ++ [v]).map D.int)] by simp] at ap
      have fin : J (i + 1) [some (.int cell), some (.int many), some (.loc h.length), some (.int v), some (.int i)] (h ++ [.lst ((xs ++ [v]).map D.int)]) := by
        rw [hJ]
        refine ⟨xs ++ [v], v, _, by simp [xl], fun z hz => ?_, v0, v1, rfl, rfl⟩
        rcases List.mem_append.mp hz with hz | hz
        · exact xm z hz
        · cases List.mem_singleton.mp hz; exact ⟨v0, v1⟩
      simp [wp_v, ck, ap] at fin ⊢
      exact fin
    · intro ds h' hj
      rw [hJ] at hj
      obtain ⟨xs, x, y, xl, xm, x1, x2, rfl, rfl⟩ := hj
      rw [List.length_map, List.length_range] at xl
      have el : (h ++ [AO.lst (xs.map D.int)])[h.length]? = some (.lst (xs.map D.int)) := by simp
      have sl : slF (.loc h.length) (some 1) none (h ++ [AO.lst (xs.map D.int)]) = some (.loc (h.length + 1), h ++ [.lst (xs.map D.int), .lst ((xs.drop 1).map D.int)]) := by
        rw [slF_lst el, cut1, ← List.map_drop]
        simp
      simp [wp_v, sl]
      refine ⟨by rw [← List.map_tail]; exact noloc_ints _, xs.drop 1, by simp, by simp [xl], fun z hz => xm z (List.mem_of_mem_drop hz)⟩
  obtain ⟨d, h', e, xs, rfl, rfl, a, b⟩ := R.wp_ex w
  exact ⟨xs, e, a, b⟩
theorem number_ok (n : Nat) (h : Hs) (cell k : Int) (k0 : 0 ≤ k) (k5 : k ≤ 5) : ∃ v, F__law_number (n + 1) [.int cell, .int k] h = .ok (.int v) h ∧ 1 ≤ v ∧ v ≤ 1000000000 := by
  have w : (F__law_number (n + 1) [.int cell, .int k] h).wp (fun d h' => ∃ v : Int, d = .int v ∧ h' = h ∧ 1 ≤ v ∧ v ≤ 1000000000) xF := by
    rw [S__law_number, wp_pure, wp_run]
    refine ⟨rfl, ?_⟩
    unfold m__law_number
    simp only [startD, List.map_cons, List.map_nil, List.length_cons, List.length_nil]
    have w9 : cPow 10 9 = true := cPow_of (by decide) (by decide) (by decide)
    have mM : ∀ i, cMod i 999999994 = true := fun _ => cMod_of (by decide)
    have m2 : ∀ i, cMod i 2 = true := fun _ => cMod_of (by decide)
    have d7 : ∀ i, cDiv i 7 = true := fun _ => cDiv_of (by decide) (by decide)
    have b0 := Int.emod_nonneg cell (b := 999999994) (by decide)
    have b1 := Int.emod_lt_of_pos cell (b := 999999994) (by decide)
    refine st_set (.int (1 + cell % 999999994)) h (by simp [wp_v, w9, mM]) ?_
    simp only [List.set_cons_succ, List.set_cons_zero, List.replicate, List.cons_append, List.nil_append]
    generalize cell % 999999994 = x at b0 b1
    have p0 : ixF (.loc h.length) (.int 0) (h ++ [.lst [.int k, .int (5 - k)]]) = some (.int k, h ++ [.lst [.int k, .int (5 - k)]]) := pick0
    have p1 : ixF (.loc h.length) (.int 1) (h ++ [.lst [.int k, .int (5 - k)]]) = some (.int (5 - k), h ++ [.lst [.int k, .int (5 - k)]]) := pick1
    have : cell / 7 % 2 = 0 ∨ cell / 7 % 2 = 1 := by omega
    rcases this with q | q
    · simp [wp_v, m2, d7, q, p0, noloc]
      omega
    · simp [wp_v, m2, d7, q, p1, noloc]
      omega
  obtain ⟨d, h', e, v, rfl, rfl, a⟩ := R.wp_ex w
  exact ⟨v, e, a⟩
end DV
namespace DV
open PySem PySem.Spec PyProof.Rows L2
theorem join0 (ss : List Str) : (Txt.join "" ss).cps.toList = ss.flatMap fun s => s.cps.toList := by
  have := TL.tl_join "" ss
  have e : TL.tl "" = [] := by decide +kernel
  rw [TL.join_eq]
  rw [e] at this
  have j0 : ∀ ps : List (List Nat), TL.joinL [] ps = ps.flatMap id := by
    intro ps
    induction ps with
    | nil => rfl
    | cons a r ih =>
      cases r with
      | nil => simp [TL.joinL]
      | cons b r => rw [TL.joinL, ih]; simp
  rw [j0] at this
  have e2 : ss.map TL.tl = ss.map (fun s => s.cps.toList) := rfl
  have e3 : TL.tl (Txt.join "" ss) = (Txt.join "" ss).cps.toList := rfl
  rw [e2] at this
  refine Eq.trans this ?_
  rw [List.flatMap_map]; rfl
theorem sumS1 : ∀ cs : List Nat, ((cs.map s1).map (·.length)).sum = cs.length
  | [] => rfl
  | c :: cs => by
    rw [List.map_cons, List.map_cons, List.sum_cons, sumS1 cs, List.length_cons]
    show 1 + _ = _
    omega
end DV
namespace DV
open PySem PySem.Spec PyProof.Rows L2
def sgAt (k : Int) : Nat := S36.cps.toList.getD k.toNat 0
theorem sgAt_ix {h : Hs} {k : Int} (h0 : 0 ≤ k) (h1 : k < 36) : ixF (.str S36) (.int k) h = some (.str (s1 (sgAt k)), h) ∧ nmS (sgAt k) = true ∧ (k < 26 → sm (sgAt k) = true) := by
  obtain ⟨n, rfl⟩ := Int.eq_ofNat_of_zero_le h0
  have hn : n < S36.cps.toList.length := by rw [S36_len]; omega
  have e : S36.cps.toList[n]? = some (sgAt n) := by
    unfold sgAt
    rw [List.getD_eq_getElem?_getD, Int.toNat_natCast, List.getElem?_eq_getElem hn]; rfl
  obtain ⟨q1, q2⟩ := S36_ok n _ e
  rw [sm_arr] at q1 q2
  rw [fg_arr] at q2
  refine ⟨?_, q2, fun z => by rw [q1]; exact decide_eq_true (by omega)⟩
  rw [ix_str', if_pos (by show S36.length ≤ 16777216; decide +kernel), atI_nat hn, e]
  rfl
theorem cut_toN {α : Type} (xs : List α) (k : Nat) : cutL xs none (some (k : Int)) = xs.take k := by
  unfold cutL
  have e1 : HT.sIx xs.length 0 none = 0 := rfl
  have e2 : HT.sIx xs.length xs.length (some (k : Int)) = min k xs.length := HT.sIx_nat _ _ k
  rw [e1, e2, List.drop_zero, Nat.sub_zero, ← List.take_take, List.take_length]
theorem cut_1_12 {α : Type} (xs : List α) (hx : xs.length = 15) : cutL xs (some 1) (some 12) = (xs.drop 1).take 11 := by
  unfold cutL
  have e1 : HT.sIx xs.length 0 (some 1) = min 1 xs.length := HT.sIx_nat _ _ 1
  have e2 : HT.sIx xs.length xs.length (some 12) = min 12 xs.length := HT.sIx_nat _ _ 12
  rw [e1, e2, hx]
  rfl
theorem nameB_of {s : Str} {c : Nat} {r : List Nat} (e : s.cps.toList = c :: r) (h1 : sm c = true) (h2 : r.all nmS = true) (h3 : r.length ≤ 11) : nameB s = true := name_list.mpr ⟨c, r, e, h1, h2, h3⟩
theorem all_take {r : List Nat} (h : r.all nmS = true) (k : Nat) : (r.take k).all nmS = true := List.all_eq_true.mpr fun x hx => List.all_eq_true.mp h x (List.mem_of_mem_take hx)
theorem all_drop {r : List Nat} (h : r.all nmS = true) (k : Nat) : (r.drop k).all nmS = true := List.all_eq_true.mpr fun x hx => List.all_eq_true.mp h x (List.mem_of_mem_drop hx)
theorem at_sml {h : Hs} {l : Nat} {xs : List Int} {k : Nat} (e : h[l]? = some (.lst (xs.map D.int))) (hk : k < xs.length) (sm_ : Sml xs) : ∃ x, ixF (.loc l) (.int (k : Int)) h = some (.int x, h) ∧ 0 ≤ x ∧ x < 2147483647 := by
  obtain ⟨x, e1, hx⟩ := ix_int (k := (k : Int)) e (by omega) (by omega)
  exact ⟨x, e1, sm_ x hx⟩
theorem names3_ok (n : Nat) (h : Hs) (cell : Int) : ∃ nm : List Str, F__law_names_v3 (n + 2) [.int cell] h = .ok (.loc h.length) (h ++ [.lst (nm.map D.str)]) ∧ nm.length = 5 ∧ ∀ s ∈ nm, nameB s = true := by
  have w : (F__law_names_v3 (n + 2) [.int cell] h).wp (fun d h' => ∃ nm : List Str, d = .loc h.length ∧ h' = h ++ [.lst (nm.map D.str)] ∧ nm.length = 5 ∧ ∀ s ∈ nm, nameB s = true) xF := by
    rw [show F__law_names_v3 (n + 2) = _ from S__law_names_v3 (n + 1)]
    refine wp_new ?_
    rw [wp_run]
    refine ⟨rfl, ?_⟩
    unfold m__law_names_v3
    simp only [startD, List.map_cons, List.map_nil, List.length_cons, List.length_nil]
    refine st_set (.str S36) h ⟨rfl, rfl⟩ ?_
    obtain ⟨xs, ex, xl, xm⟩ := stream_ok n h cell 15 (by decide)
    have ex : F__law_stream (n + 1) [.int cell, .int 15] h = .ok (.loc h.length) (h ++ [.lst (xs.map D.int)]) := ex
    refine st_set (.loc h.length) (h ++ [.lst (xs.map D.int)]) (by simp [wp_v, ex]) ?_
    simp only [List.set_cons_succ, List.set_cons_zero, List.replicate, List.cons_append, List.nil_append]
    have eL : ∀ q : Hs, (h ++ ([AO.lst (xs.map D.int)] ++ q))[h.length]? = some (.lst (xs.map D.int)) := fun q => by simp
    obtain ⟨x0, i0, a0, a1⟩ := at_sml (k := 0) (eL []) (by omega) xm
    have i0 : ixF (.loc h.length) (.int 0) (h ++ [AO.lst (xs.map D.int)]) = some (.int x0, h ++ [AO.lst (xs.map D.int)]) := i0
    have m26 : ∀ i, cMod i 26 = true := fun _ => cMod_of (by decide)
    have m36 : ∀ i, cMod i 36 = true := fun _ => cMod_of (by decide)
    have m11 : ∀ i, cMod i 11 = true := fun _ => cMod_of (by decide)
    have m35 : ∀ i, cMod i 35 = true := fun _ => cMod_of (by decide)
    obtain ⟨s0, _, s0m⟩ := sgAt_ix (h := h ++ [AO.lst (xs.map D.int)]) (Int.emod_nonneg x0 (b := 26) (by decide)) (by have := Int.emod_lt_of_pos x0 (b := 26) (by decide); omega)
    have c0m := s0m (Int.emod_lt_of_pos x0 (by decide))
    generalize hc0 : sgAt (x0 % 26) = c0 at s0 c0m
    obtain ⟨ys, hys⟩ : ∃ ys : List Int, ys = (xs.drop 1).take 11 := ⟨_, rfl⟩
    have yl : ys.length = 11 := by rw [hys]; simp; omega
    obtain ⟨r, hr⟩ : ∃ r : List Nat, r = ys.map fun y => sgAt (y % 36) := ⟨_, rfl⟩
    have rl : r.length = 11 := by rw [hr, List.length_map, yl]
    have rall : r.all nmS = true := by
      rw [hr]
      refine List.all_eq_true.mpr fun c hc => ?_
      obtain ⟨y, _, rfl⟩ := List.mem_map.mp hc
      exact (sgAt_ix (h := h) (Int.emod_nonneg y (b := 36) (by decide)) (Int.emod_lt_of_pos y (by decide))).2.1
    have sl : slF (.loc h.length) (some 1) (some 12) (h ++ [AO.lst (xs.map D.int)]) = some (.loc (h.length + 1), h ++ [.lst (xs.map D.int), .lst (ys.map D.int)]) := by
      rw [slF_lst (xs := xs.map D.int) (by simp), cut_1_12 _ (by rw [List.length_map]; exact xl), ← List.map_drop, ← List.map_take, ← hys]
      simp
    have e2 : ∀ q : Hs, (h ++ ([AO.lst (xs.map D.int), AO.lst (ys.map D.int)] ++ q))[h.length + 1]? = some (.lst (ys.map D.int)) := fun q => by simp
    have it : itsF (.loc (h.length + 1)) (h ++ [AO.lst (xs.map D.int), AO.lst (ys.map D.int)]) = some (ys.map D.int, fun h' => h'[h.length + 1]? = some (.lst (ys.map D.int))) := its_lst (by simp)
    have lc := lc_map1 (h0 := h ++ [AO.lst (xs.map D.int), AO.lst (ys.map D.int)]) (gd := fun h' => h'[h.length + 1]? = some (.lst (ys.map D.int))) (i := 4) (A := binM ixF (vM 1) (binM modF (vM 4) (cM (.int 36)))) (ds := [some (.int cell), some (.str S36), some (.loc h.length), none, none, none, none, none])
      (ys.map D.int) ((r.map s1).map D.str) (by simp [yl, rl]) (by simp [yl]) (fun acc => by rw [List.append_assoc]; exact e2 _) (fun k d y acc e3 e4 => by
        rw [List.getElem?_map] at e3
        rw [hr, List.map_map, List.map_map, List.getElem?_map] at e4
        cases q : ys[k]? with
        | none => rw [q] at e3; cases e3
        | some v =>
          rw [q] at e3 e4
          cases e3
          cases e4
          have sx := fun h => (sgAt_ix (h := h) (Int.emod_nonneg v (b := 36) (by decide)) (Int.emod_lt_of_pos v (by decide))).1
          refine R.wp_eq.mp ?_
          simp [-ix_str', wp_v, m36, sx])
    have jn : (Txt.join "" (r.map s1)).cps.toList = r := by
      rw [join0, List.flatMap_map]
      have : (fun a => (s1 a).cps.toList) = fun a => [a] := rfl
      rw [this]
      simp
    have jf : ∀ H : Hs, joinF (.str "") [.loc H.length] (H ++ [.lst ((r.map s1).map D.str)]) = some (.str (Txt.join "" (r.map s1)), H ++ [.lst ((r.map s1).map D.str)]) := fun H => by
      have sum : ((r.map s1).map (·.length)).sum + (r.map s1).length * ("" : Str).length ≤ 16777216 := by
        have l1 := sumS1 r
        have l2 : ("" : Str).length = 0 := by decide +kernel
        rw [l1, l2]; omega
      unfold joinF
      simp only [get_new0, List.getElem?_cons_zero, strsOf_map, Option.bind_some]
      rw [if_pos sum]
    have ck : ∀ h, ckStr (.str "") h = true := fun h => rfl
    obtain ⟨base, hb⟩ : ∃ base : Str, base = s1 c0 ++ Txt.join "" (r.map s1) := ⟨_, rfl⟩
    have bl : base.cps.toList = c0 :: r := by rw [hb, app_list, jn]; rfl
    have bz : base.length = 12 := by rw [str_len, bl, List.length_cons, rl]
    have az : (s1 c0).length + (Txt.join "" (r.map s1)).length ≤ 16777216 := by
      rw [str_len (Txt.join "" (r.map s1)), jn, rl]
      show 1 + 11 ≤ _
      decide
    obtain ⟨H, hH⟩ : ∃ H : Hs, H = h ++ [.lst (xs.map D.int), .lst (ys.map D.int), .lst ((r.map s1).map D.str)] := ⟨_, rfl⟩
    refine st_set (.str base) H ?_ ?_
    · have jf2 := jf (h ++ [.lst (xs.map D.int), .lst (ys.map D.int)])
      rw [hb, hH]
      simp at lc jf2 jf
      simp [-ix_str', wp_v, i0, m26, hc0, s0, sl, it, wipeD, lc, ck, jf2, az]
    simp only [List.set_cons_succ, List.set_cons_zero]
    have H0 : H[h.length]? = some (.lst (xs.map D.int)) := by rw [hH]; simp
    have Ht : ∀ q : Hs, (H ++ q).take h.length = h := fun q => by rw [hH, List.append_assoc, List.take_left]
    have Hl : h.length ≤ H.length := by rw [hH, List.length_append]; omega
    obtain ⟨x12, i12, _, _⟩ := at_sml (k := 12) H0 (by omega) xm
    have i12 : ixF (.loc h.length) (.int 12) H = some (.int x12, H) := i12
    obtain ⟨x13, i13, _, _⟩ := at_sml (k := 13) H0 (by omega) xm
    have i13 : ixF (.loc h.length) (.int 13) H = some (.int x13, H) := i13
    have b0 := Int.emod_nonneg x12 (b := 11) (by decide)
    have b1 := Int.emod_lt_of_pos x12 (b := 11) (by decide)
    obtain ⟨k, hk⟩ : ∃ k : Nat, 1 + x12 % 11 = ((k + 1 : Nat) : Int) := ⟨(x12 % 11).toNat, by omega⟩
    have k11 : k ≤ 10 := by omega
    obtain ⟨K1, hK1⟩ : ∃ K1 : Int, K1 = ((k + 1 : Nat) : Int) := ⟨_, rfl⟩
    obtain ⟨K2, hK2⟩ : ∃ K2 : Int, K2 = ((k + 2 : Nat) : Int) := ⟨_, rfl⟩
    have kk : K1 + 1 = K2 := by omega
    have kk2 : 1 + K1 = K2 := by omega
    have bz2 : base.length ≤ 16777216 := by omega
    obtain ⟨cb, ib⟩ : ∃ cb : Nat, ∀ h, ixF (.str base) (.int K1) h = some (.str (s1 cb), h) := ⟨base.cps.toList.getD (k + 1) 0, fun h => by
      rw [hK1, ix_str', if_pos bz2, atI_nat (by rw [bl, List.length_cons, rl]; omega), List.getD_eq_getElem?_getD, List.getElem?_eq_getElem (by rw [bl, List.length_cons, rl]; omega)]
      rfl⟩
    have l1 : (cutS base none (some K1)).cps.toList = c0 :: r.take k := by rw [hK1, cut_list, cut_toN, bl]; rfl
    have l2 : (cutS base (some K2) none).cps.toList = r.drop (k + 1) := by rw [hK2, cut_list, cut_from, bl]; rfl
    have l3 : (cutS base none (some K2)).cps.toList = c0 :: r.take (k + 1) := by rw [hK2, cut_list, cut_toN, bl]; rfl
    have l4 : (cutS base none (some 2)).cps.toList = c0 :: r.take 1 := by
      have : (2 : Int) = ((2 : Nat) : Int) := rfl
      rw [this, cut_list, cut_toN, bl]; rfl
    have ib0 : ∀ h, ixF (.str base) (.int 0) h = some (.str (s1 c0), h) := fun h => by
      have : (0 : Int) = ((0 : Nat) : Int) := rfl
      rw [this, ix_str', if_pos bz2, atI_nat (by rw [bl, List.length_cons]; omega), bl]
      rfl
    have hk' : 1 + x12 % 11 = K1 := by rw [hK1]; exact hk
    refine st_set (.int K1) H (by simp [wp_v, i12, m11, hk']) ?_
    simp only [List.set_cons_succ, List.set_cons_zero]
    have ck36 : ∀ h, ckStr (.str S36) h = true := fun h => rfl
    obtain ⟨fv, hf⟩ : ∃ fv : Int, ∀ h, findF (.str S36) [.str (s1 cb)] h = some (.int fv, h) := ⟨_, fun h => rfl⟩
    obtain ⟨sx, sxn, _⟩ := sgAt_ix (h := H) (Int.emod_nonneg (fv + 1 + x13 % 35) (b := 36) (by decide)) (Int.emod_lt_of_pos (fv + 1 + x13 % 35) (by decide))
    generalize hc2 : sgAt ((fv + 1 + x13 % 35) % 36) = c2 at sx sxn
    refine st_set (.str (s1 c2)) H (by simp [-ix_str', wp_v, ib, ck36, hf, i13, m35, m36, sx]) ?_
    simp only [List.set_cons_succ, List.set_cons_zero]
    have sc : ∀ h lo hi, slF (.str base) lo hi h = some (.str (cutS base lo hi), h) := fun h lo hi => sl_str bz2
    obtain ⟨oth, ho⟩ : ∃ oth : Str, oth = cutS base none (some K1) ++ s1 c2 ++ cutS base (some K2) none := ⟨_, rfl⟩
    have ol : oth.cps.toList = c0 :: (r.take k ++ (c2 :: r.drop (k + 1))) := by rw [ho, app_list, app_list, l1, l2]; simp [s1]
    have z1 : (cutS base none (some K1)).length = k + 1 := by rw [str_len, l1, List.length_cons, List.length_take]; omega
    have z2 : (cutS base (some K2) none).length ≤ 11 := by rw [str_len, l2, List.length_drop]; omega
    have z3 : (s1 c2).length = 1 := rfl
    have q1 : (cutS base none (some K1)).length + (s1 c2).length ≤ 16777216 := by omega
    have q2 : (cutS base none (some K1) ++ s1 c2).length + (cutS base (some K2) none).length ≤ 16777216 := by rw [app_len]; omega
    refine st_set (.str oth) H (by simp [wp_v, sc, kk, q1, q2, ho]) ?_
    simp only [List.set_cons_succ, List.set_cons_zero]
    obtain ⟨NM, hNM⟩ : ∃ NM : List Str, NM = [s1 c0, cutS base none (some 2), base, oth, cutS base none (some K2)] := ⟨_, rfl⟩
    have NMl : NM.length = 5 := by rw [hNM]; rfl
    have NMg : ∀ s ∈ NM, nameB s = true := by
      rw [hNM]
      intro s hs
      simp only [List.mem_cons, List.not_mem_nil, or_false] at hs
      rcases hs with rfl | rfl | rfl | rfl | rfl
      · exact nameB_of (r := []) rfl c0m rfl (by decide)
      · exact nameB_of l4 c0m (all_take rall 1) (by rw [List.length_take]; omega)
      · exact nameB_of bl c0m rall (by omega)
      · refine nameB_of ol c0m ?_ (by rw [List.length_append, List.length_cons, List.length_take, List.length_drop]; omega)
        rw [List.all_append, all_take rall k, List.all_cons, sxn, all_drop rall (k + 1)]; rfl
      · exact nameB_of l3 c0m (all_take rall (k + 1)) (by rw [List.length_take]; omega)
    have eN : ∀ x, x = [D.str (s1 c0), .str (cutS base none (some 2)), .str base, .str oth, .str (cutS base none (some K2))] → x = NM.map D.str := fun x hx => by rw [hx, hNM]; rfl
    have nl : nolocO (.lst (NM.map D.str)) = true := by rw [hNM]; rfl
    simp [-ix_str', wp_v, ib0, sc, kk2]
    rw [eN _ rfl]
    first
      | exact ⟨Hl, Ht _, nl, NM, rfl, NMl, NMg⟩
      | exact ⟨Hl, Ht _, nl, NM, by simp, NMl, NMg⟩
  obtain ⟨d, h', e, nm, rfl, rfl, a⟩ := R.wp_ex w
  exact ⟨nm, e, a⟩
end DV
namespace DV
open PySem PySem.Spec PyProof.Rows L2
def GrowQ (cells : List Int) (at_ deep : Nat) (d : D) : Prop := ∃ (t : Tr) (a' : Nat), d = .tup [tD t, .int (a' : Int)] ∧ t.good ∧ t.depth ≤ deep + 1 ∧ at_ ≤ a' ∧ a' ≤ cells.length ∧ t.knots ≤ 1 + 10 * (a' - at_)
def GrowAt (deep n : Nat) : Prop := ∀ (h : Hs) (lc ln : Nat) (cells : List Int) (at_ : Nat) (nm : List Str) (first : Int), h[lc]? = some (.lst (cells.map D.int)) → h[ln]? = some (.lst (nm.map D.str)) → nm.length = 5 → (∀ s ∈ nm, nameB s = true) → at_ ≤ cells.length → cells.length ≤ 100 →
  (F__law_grow n [.loc lc, .int at_, .int deep, .loc ln, .int first] h).wp (fun d h' => h' = h ∧ GrowQ cells at_ deep d) xF
theorem grow_step (deep n : Nat) (RA : ∀ d, deep = d + 1 → GrowAt d (n + 1)) : GrowAt deep (n + 2) := by
  intro h lc ln cells at_ nm first ec en nl ng al cl
  rw [show F__law_grow (n + 2) = _ from S__law_grow (n + 1)]
  rw [wp_pure, wp_run]
  refine ⟨rfl, ?_⟩
  unfold m__law_grow
  simp only [startD, List.map_cons, List.map_nil, List.length_cons, List.length_nil]
  simp only [List.set_cons_succ, List.set_cons_zero, List.replicate, List.cons_append, List.nil_append]
  have le := len_lst ec
  rw [List.length_map] at le
  have leafd : ∀ s : Str, (Tr.bk s []).depth = 1 := fun s => by simp [Tr.depth, depthL]
  have leafk : ∀ s : Str, (Tr.bk s []).knots = 1 := fun s => by simp [Tr.knots, knotsL]
  have leafD : ∀ s : Str, D.tup [.str "block", .str s, .tup []] = tD (.bk s []) := fun s => by simp [tD, tDs]
  by_cases c0 : cells.length ≤ at_
  · obtain ⟨s, is, sm_⟩ := ix_some (k := 0) en (by decide) (by omega)
    have fin : GrowQ cells at_ deep (.tup [.tup [.str "block", .str s, .tup []], .int at_]) := ⟨.bk s [], at_, by rw [leafD], ⟨ng s sm_, by simp, trivial⟩, by rw [leafd]; omega, Nat.le_refl _, al, by rw [leafk]; omega⟩
    have c0' : (cells.length : Int) ≤ (at_ : Int) := by omega
    simp [wp_v, le, c0, is, noloc, nolocL, fin]
  · refine st_guard h (by simp [wp_v, le]; omega) ?_
    obtain ⟨cell, ice, _⟩ := ix_int (k := (at_ : Int)) ec (by omega) (by omega)
    obtain ⟨xs, ex, xl, xm⟩ := stream_ok n h cell 4 (by decide)
    have ex : F__law_stream (n + 1) [.int cell, .int 4] h = .ok (.loc h.length) (h ++ [.lst (xs.map D.int)]) := ex
    refine st_set (.loc h.length) (h ++ [.lst (xs.map D.int)]) (by simp [wp_v, ice, ex]) ?_
    simp only [List.set_cons_succ, List.set_cons_zero]
    obtain ⟨A, hA⟩ : ∃ A : Nat, A = at_ + 1 := ⟨_, rfl⟩
    have hA' : (at_ : Int) + 1 = (A : Int) := by omega
    refine st_set (.int (A : Int)) (h ++ [.lst (xs.map D.int)]) (by simp [wp_v, hA']) ?_
    simp only [List.set_cons_succ, List.set_cons_zero]
    have X : ∀ q : Hs, (h ++ (AO.lst (xs.map D.int) :: q))[h.length]? = some (.lst (xs.map D.int)) := fun q => by simp
    have en2 : ∀ q : Hs, (h ++ q)[ln]? = some (.lst (nm.map D.str)) := fun q => get_app en
    have ec2 : ∀ q : Hs, (h ++ q)[lc]? = some (.lst (cells.map D.int)) := fun q => get_app ec
    have xk : ∀ (k : Nat), k < 4 → ∃ x, (∀ q : Hs, ixF (.loc h.length) (.int (k : Int)) (h ++ (AO.lst (xs.map D.int) :: q)) = some (.int x, h ++ (AO.lst (xs.map D.int) :: q))) ∧ 0 ≤ x := by
      intro k hk
      obtain ⟨x, e1, x0, _⟩ := at_sml (k := k) (X []) (by omega) xm
      refine ⟨x, fun q => ?_, x0⟩
      rw [ix_lst (X [])] at e1
      rw [ix_lst (X q)]
      cases e2 : atI (xs.map D.int) (k : Int) with
      | none => rw [e2] at e1; cases e1
      | some y => rw [e2] at e1; cases e1; rfl
    obtain ⟨x0, i0, p0⟩ := xk 0 (by decide)
    obtain ⟨x1, i1, p1⟩ := xk 1 (by decide)
    obtain ⟨x2, i2, p2⟩ := xk 2 (by decide)
    obtain ⟨x3, i3, p3⟩ := xk 3 (by decide)
    have i0 : ∀ q : Hs, ixF (.loc h.length) (.int 0) (h ++ (AO.lst (xs.map D.int) :: q)) = some (.int x0, h ++ (AO.lst (xs.map D.int) :: q)) := i0
    have i1 : ∀ q : Hs, ixF (.loc h.length) (.int 1) (h ++ (AO.lst (xs.map D.int) :: q)) = some (.int x1, h ++ (AO.lst (xs.map D.int) :: q)) := i1
    have i2 : ∀ q : Hs, ixF (.loc h.length) (.int 2) (h ++ (AO.lst (xs.map D.int) :: q)) = some (.int x2, h ++ (AO.lst (xs.map D.int) :: q)) := i2
    have i3 : ∀ q : Hs, ixF (.loc h.length) (.int 3) (h ++ (AO.lst (xs.map D.int) :: q)) = some (.int x3, h ++ (AO.lst (xs.map D.int) :: q)) := i3
    have m4 : ∀ i, cMod i 4 = true := fun _ => cMod_of (by decide)
    have m5 : ∀ i, cMod i 5 = true := fun _ => cMod_of (by decide)
    by_cases c1 : x0 % 4 = 0
    · have b0 := Int.emod_nonneg x1 (b := 4) (by decide)
      have b1 := Int.emod_lt_of_pos x1 (b := 4) (by decide)
      obtain ⟨v, ev, v1, v2⟩ := number_ok n (h ++ [.lst (xs.map D.int)]) first (x1 % 4) b0 (by omega)
      have fin : GrowQ cells at_ deep (.tup [.tup [.str "blank", .int v], .int A]) := ⟨.bl v, A, rfl, ⟨v1, v2⟩, by simp [Tr.depth], by omega, by omega, by simp [Tr.knots]⟩
      simp [wp_v, i0, i1, m4, c1, ev, noloc, nolocL, fin]
    · refine st_guard (h ++ [.lst (xs.map D.int)]) (by simp [wp_v, i0, m4, c1]) ?_
      refine st_set (.loc (h.length + 1)) (h ++ [.lst (xs.map D.int), .lst []]) (by simp [wp_v]) ?_
      simp only [List.set_cons_succ, List.set_cons_zero]
      -- behind the loop
      have b0 := Int.emod_nonneg x3 (b := 5) (by decide)
      have b1 := Int.emod_lt_of_pos x3 (b := 5) (by decide)
      obtain ⟨sn, isn, snm⟩ : ∃ sn, (∀ q : Hs, ixF (.loc ln) (.int (x3 % 5)) (h ++ q) = some (.str sn, h ++ q)) ∧ sn ∈ nm := by
        obtain ⟨s, e1, sm_⟩ := ix_some (k := x3 % 5) en b0 (by omega)
        refine ⟨s, fun q => ?_, sm_⟩
        rw [ix_lst en] at e1
        rw [ix_lst (en2 q)]
        cases e2 : atI (nm.map D.str) (x3 % 5) with
        | none => rw [e2] at e1; cases e1
        | some y => rw [e2] at e1; cases e1; rfl
      have back : ∀ (ts : List Tr) (a' : Nat) (r : Hs) (x y : Option D) (Nn : Sl → Hs → Prop) (QQ : D → Hs → Prop) (XX : QX), (∀ d h', noloc d = true → h'.take h.length = h → GrowQ cells at_ deep d → QQ d h') → ts.length ≤ 9 → goodL ts → depthL ts ≤ deep → A ≤ a' → a' ≤ cells.length → knotsL ts ≤ ts.length + 10 * (a' - A) →
          ((retM (argM tupF (consA (argM tupF (consA (cM (.str "block")) (consA (binM ixF (vM 3) (binM modF (binM ixF (vM 5) (cM (.int 3))) (cM (.int 5)))) (consA (argM tupT (consA (vM 6) nilA)) nilA)))) (consA (vM 1) nilA))))
            [some (.loc lc), some (.int a'), some (.int deep), some (.loc ln), some (.int first), some (.loc h.length), some (.loc (h.length + 1)), x, y] (h ++ (.lst (xs.map D.int) :: .lst (tDs ts) :: r))).wp Nn QQ XX := by
        intro ts a' r x y Nn QQ XX hQ t9 tg td ta tb tk
        have tp : tupT [.loc (h.length + 1)] (h ++ (.lst (xs.map D.int) :: .lst (tDs ts) :: r)) = some (.tup (tDs ts), h ++ (.lst (xs.map D.int) :: .lst (tDs ts) :: r)) := tup_loc (by simp)
        have ntd := noloc_tDs ts
        have fin : GrowQ cells at_ deep (.tup [.tup [.str "block", .str sn, .tup (tDs ts)], .int a']) := ⟨.bk sn ts, a', rfl, ⟨ng sn snm, t9, tg⟩, by simp [Tr.depth]; omega, by omega, tb, by simp [Tr.knots]; omega⟩
        simp [wp_v, i3, m5, isn, tp]
        exact hQ _ _ (by simp [noloc, nolocL, ntd]) (by simp) fin
      by_cases c2 : deep = 0
      · have bk := fun Nn QQ XX hQ => back [] A [] none none Nn QQ XX hQ (by decide) trivial (by rw [depthL]; omega) (Nat.le_refl _) (by omega) (by simp [knotsL])
        have c2' : ¬ (0 : Int) < (deep : Int) := by omega
        refine st_guard (h ++ [.lst (xs.map D.int), .lst []]) (by simp [wp_v, c2]) ?_
        exact bk _ _ _ fun d h' a b c => ⟨⟨a, b⟩, trivial, c⟩
      · obtain ⟨dp, rfl⟩ : ∃ dp, deep = dp + 1 := ⟨deep - 1, by omega⟩
        rw [ws_seq, ws_if]
        have tst : (tbM (binM gtF (vM 2) (cM (.int 0))) [some (.loc lc), some (.int A), some (.int ((dp + 1 : Nat) : Int)), some (.loc ln), some (.int first), some (.loc h.length), some (.loc (h.length + 1)), none, none] (h ++ [.lst (xs.map D.int), .lst []])).wp (fun b h' => b = true ∧ h' = h ++ [.lst (xs.map D.int), .lst []]) xF := by
          have : (0 : Int) < ((dp + 1 : Nat) : Int) := by omega
          simp [wp_v]
        rw [R.wp_eq.mp tst]
        simp only [wp_ok, if_true]
        obtain ⟨L1, hL1⟩ : ∃ L1 : List Int, L1 = [0, 1, 2, 2, 3, 9] := ⟨_, rfl⟩
        obtain ⟨H, hH⟩ : ∃ H : Hs, H = h ++ [.lst (xs.map D.int), .lst [], .lst (L1.map D.int), .lst [.int 5, .int 6]] := ⟨_, rfl⟩
        obtain ⟨c, ic, c5, c6⟩ : ∃ c : Int, ixF (.loc (h.length + 3)) (.int (if (A : Int) = 1 then 1 else 0)) H = some (.int c, H) ∧ 5 ≤ c ∧ c ≤ 6 := by
          have e3 : H[h.length + 3]? = some (.lst [.int 5, .int 6]) := by rw [hH]; simp
          by_cases q : (A : Int) = 1
          · rw [if_pos q]; exact ⟨6, by rw [ix_lst e3]; rfl, by decide, by decide⟩
          · rw [if_neg q]; exact ⟨5, by rw [ix_lst e3]; rfl, by decide, by decide⟩
        have mc : cMod x2 c = true := cMod_of (by omega)
        have b2 := Int.emod_nonneg x2 (b := c) (by omega)
        have b3 := Int.emod_lt_of_pos x2 (b := c) (by omega)
        obtain ⟨v, iv, vm⟩ := ix_int (h := H) (l := h.length + 2) (ss := L1) (k := x2 % c) (by rw [hH]; simp) b2 (by rw [hL1]; show x2 % c < 6; omega)
        have v09 : 0 ≤ v ∧ v ≤ 9 := by
          rw [hL1] at vm
          simp only [List.mem_cons, List.not_mem_nil, or_false] at vm
          rcases vm with rfl | rfl | rfl | rfl | rfl | rfl <;> decide
        have irv : inR v = true := inR_of (by omega) (by omega)
        have ran : (rngI rng1 (consA (binM ixF (argM lstF (consA (cM (.int 0)) (consA (cM (.int 1)) (consA (cM (.int 2)) (consA (cM (.int 2)) (consA (cM (.int 3)) (consA (cM (.int 9)) nilA))))))) (binM modF (binM ixF (vM 5) (cM (.int 2))) (binM ixF (argM lstF (consA (cM (.int 5)) (consA (cM (.int 6)) nilA))) (argM intT (consA (binM eqF (vM 1) (cM (.int 1))) nilA))))) nilA) [some (.loc lc), some (.int A), some (.int ((dp + 1 : Nat) : Int)), some (.loc ln), some (.int first), some (.loc h.length), some (.loc (h.length + 1)), none, none] (h ++ [.lst (xs.map D.int), .lst []])).wp (fun p h' => p = ((List.range v.toNat).map fun i : Nat => D.int i, fun _ => True) ∧ h' = H) xF := by
          have ii2 := i2 [.lst [], .lst (L1.map D.int)]
          rw [hL1] at ii2 hH
          simp at ii2 hH
          rw [hH] at ic iv
          simp [wp_v, ii2, ic, mc, iv, irv, hH]
        rw [ws_for, R.wp_eq.mp ran]
        obtain ⟨J, hJ⟩ : ∃ J : Nat → Sl → Hs → Prop, J = fun i ds h' => ∃ (ts : List Tr) (a' : Nat) (r : Hs) (x y : Option D), ts.length = i ∧ goodL ts ∧ depthL ts ≤ dp + 1 ∧ A ≤ a' ∧ a' ≤ cells.length ∧ knotsL ts ≤ ts.length + 10 * (a' - A) ∧ h' = h ++ (.lst (xs.map D.int) :: .lst (tDs ts) :: r) ∧ ds = [some (.loc lc), some (.int a'), some (.int ((dp + 1 : Nat) : Int)), some (.loc ln), some (.int first), some (.loc h.length), some (.loc (h.length + 1)), x, y] := ⟨_, rfl⟩
        refine ws_loop _ J (by rw [hJ, hH]; exact ⟨[], A, _, none, none, rfl, trivial, by rw [depthL]; omega, Nat.le_refl _, by omega, by simp [knotsL], rfl, rfl⟩) (fun _ _ _ _ => trivial) ?_ ?_
        · intro i d ds h' hi hj
          rw [hJ] at hj
          obtain ⟨ts, a', r, x, y, tl, tg, td, ta, tb, tk, rfl, rfl⟩ := hj
          obtain ⟨d', h2, e2, rfl, t, a2, rfl, g1, g2, g3, g4, g5⟩ := R.wp_ex (RA dp rfl (h ++ (.lst (xs.map D.int) :: .lst (tDs ts) :: r)) lc ln cells a' nm first (ec2 _) (en2 _) nl ng tb cl)
          have ed : ((dp + 1 : Nat) : Int) - 1 = (dp : Int) := by omega
          have ed2 : (dp : Int) + 1 - 1 = (dp : Int) := by omega
          have el : (h ++ (AO.lst (xs.map D.int) :: .lst (tDs ts) :: r))[h.length + 1]? = some (.lst (tDs ts)) := by simp
          have ck := ck_lst el
          have i10 : i < 10 := by
            have := (List.getElem?_eq_some_iff.mp hi).1
            rw [List.length_map, List.length_range] at this
            omega
          have ap := append_lst (v := tD t) el (by rw [tDs_len]; omega)
          rw [show (h ++ (AO.lst (xs.map D.int) :: .lst (tDs ts) :: r)).set (h.length + 1) (.lst (tDs ts ++ [tD t])) = h ++ (.lst (xs.map D.int) :: .lst (tDs (ts ++ [t])) :: r) by rw [tDs_app]; simp [List.set_append]] at ap
          have fin : J (i + 1) [some (.loc lc), some (.int a2), some (.int ((dp + 1 : Nat) : Int)), some (.loc ln), some (.int first), some (.loc h.length), some (.loc (h.length + 1)), some d, some (tD t)] (h ++ (.lst (xs.map D.int) :: .lst (tDs (ts ++ [t])) :: r)) := by
            rw [hJ]
            refine ⟨ts ++ [t], a2, r, _, _, by simp [tl], goodL_iff.mpr fun u hu => ?_, depthL_le.mpr fun u hu => ?_, by omega, g4, ?_, rfl, rfl⟩
            · rcases List.mem_append.mp hu with hu | hu
              · exact goodL_iff.mp tg u hu
              · cases List.mem_singleton.mp hu; exact g1
            · rcases List.mem_append.mp hu with hu | hu
              · exact depthL_le.mp td u hu
              · cases List.mem_singleton.mp hu; exact g2
            · rw [knotsL_app, List.length_append]
              simp only [List.length_cons, List.length_nil]
              omega
          simp at fin e2 ck ap
          simp [wp_v, ed2, e2, ck, ap]
          exact fin
        · intro ds h' hj
          rw [hJ] at hj
          obtain ⟨ts, a', r, x, y, tl, tg, td, ta, tb, tk, rfl, rfl⟩ := hj
          rw [List.length_map, List.length_range] at tl
          exact back ts a' r x y _ _ _ (fun d h' a b c => ⟨⟨a, b⟩, trivial, c⟩) (by omega) tg td ta tb tk
theorem grow_ok : ∀ (deep n : Nat), deep + 2 ≤ n → GrowAt deep n
  | 0, n, hn => by
    obtain ⟨n, rfl⟩ : ∃ m, n = m + 2 := ⟨n - 2, by omega⟩
    exact grow_step 0 n fun d z => by cases z
  | deep + 1, n, hn => by
    obtain ⟨n, rfl⟩ : ∃ m, n = m + 2 := ⟨n - 2, by omega⟩
    exact grow_step (deep + 1) n fun d z => by
      cases z
      exact grow_ok deep (n + 1) (by omega)
end DV
namespace DV
open PySem PySem.Spec PyProof.Rows L2
end DV
namespace DV
open PySem PySem.Spec PyProof.Rows L2
end DV
namespace DV
open PySem PySem.Spec PyProof.Rows L2
theorem addNew_filter : ∀ (ks acc : List Int), ks.Nodup → addNew acc ks = acc ++ ks.filter fun k => !decide (k ∈ acc)
  | [], acc, _ => by simp [addNew]
  | k :: ks, acc, nd => by
    obtain ⟨nk, nd'⟩ := List.nodup_cons.mp nd
    rw [addNew, addNew_filter ks _ nd']
    by_cases c : k ∈ acc
    · rw [if_pos c, List.filter_cons]
      simp [c]
    · rw [if_neg c, List.filter_cons]
      simp only [c, decide_false, Bool.not_false, if_true, List.append_assoc, List.cons_append, List.nil_append]
      congr 2
      refine List.filter_congr fun x hx => ?_
      have : x ≠ k := fun z => nk (z ▸ hx)
      simp [List.mem_append, this]
theorem blanks_lenK (t : Tr) : t.blanks.length ≤ t.knots := by
  have h1 := addNew_len t.allB []
  have h2 := allB_len t
  rw [← blanks_all] at h1
  simp at h1
  omega
theorem blanks2_ok : ∀ (n : Nat) (h : Hs) (t : Tr), t.depth ≤ n → t.knots ≤ 1000000 → F__law_blanks_v2 n [tD t] h = .ok (.loc h.length) (h ++ [.lst (t.blanks.map D.int)])
  | 0, h, t, hn, _ => by rw [depth_parts] at hn; omega
  | n + 1, h, .bl k, hn, hk => by
    rw [S__law_blanks_v2]
    refine R.wp_eq.mp (wp_new ?_)
    simp [wp_run, m__law_blanks_v2, startD, wp_v, tD, nolocO, nolocL, noloc, Tr.blanks]
  | n + 1, h, .bk s ps, hn, hk => by
    rw [S__law_blanks_v2]
    refine R.wp_eq.mp (wp_new ?_)
    rw [wp_run]
    refine ⟨rfl, ?_⟩
    rw [Tr.depth] at hn
    rw [Tr.knots] at hk
    unfold m__law_blanks_v2
    simp only [startD, List.map_cons, List.map_nil, List.length_cons, List.length_nil]
    refine st_guard h (by simp [wp_v, tD]) ?_
    refine st_set (.loc h.length) (h ++ [.lst []]) (by simp [wp_v]) ?_
    simp only [List.set_cons_succ, List.set_cons_zero, List.replicate, List.cons_append, List.nil_append]
    obtain ⟨J, hJ⟩ : ∃ J : Nat → Sl → Hs → Prop, J = fun i ds h' => ∃ (L : Nat) (b c : Option D), h.length ≤ L ∧ h'.take h.length = h ∧ h.length ≤ h'.length ∧ h'[L]? = some (.lst ((blanksL [] (ps.take i)).map D.int)) ∧ ds = [some (tD (.bk s ps)), some (.loc L), b, c] := ⟨_, rfl⟩
    refine st_for (tDs ps) (fun _ => True) (h ++ [.lst []]) J (by simp [wp_v, tD]) (by rw [hJ]; exact ⟨h.length, none, none, Nat.le_refl _, by simp, by simp, by simp [blanksL], rfl⟩) (fun _ _ _ _ => trivial) ?_ ?_
    · intro i d ds h' hd hj
      rw [hJ] at hj
      obtain ⟨L, b, c, hL, ht, hl, eL, rfl⟩ := hj
      obtain ⟨u, hu, rfl⟩ := tDs_get hd
      have mu := List.mem_of_getElem? hu
      have du := depth_mem mu
      have ku := knots_mem mu
      have il := (List.getElem?_eq_some_iff.mp hu).1
      have tk : ps.take (i + 1) = ps.take i ++ [u] := by rw [List.take_add_one, hu]; rfl
      have ih := blanks2_ok n h' u (by omega) (by omega)
      have nd := blanks_nodup u
      have bl1 := blanks_lenK u
      have step : blanksL [] (ps.take (i + 1)) = blanksL [] (ps.take i) ++ u.blanks.filter fun k => !decide (k ∈ blanksL [] (ps.take i)) := by
        rw [tk, blanksL_snoc, addNew_filter _ _ nd]
      have bl2 : (blanksL [] (ps.take i)).length ≤ 1000000 := by
        rw [blanksL_all]
        have := addNew_len (allBL (ps.take i)) []
        have h3 := allB_len (.bk s (ps.take i))
        have h4 := knotsL_takeW ps i
        simp [Tr.knots, Tr.allB] at *
        omega
      obtain ⟨AC, hAC⟩ : ∃ AC, AC = blanksL [] (ps.take i) := ⟨_, rfl⟩
      rw [← hAC] at eL step bl2
      have eB : (h' ++ [AO.lst (u.blanks.map D.int)])[h'.length]? = some (.lst (u.blanks.map D.int)) := by simp
      have lc := lc_loop (h0 := h' ++ [AO.lst (u.blanks.map D.int)]) (gd := fun h => h[h'.length]? = some (.lst (u.blanks.map D.int))) (T := nameG 3) (C := tbM (binM ninF (vM 3) (vM 1))) (A := vM 3) (ds := [some (tD (.bk s ps)), some (.loc L), some (tD u), none])
        (u.blanks.map D.int) (u.blanks.map fun k => if (!decide (k ∈ AC)) = true then some (D.int k) else none) (by simp) [] (by simp; omega) (fun acc => get_app eB) (fun k d o acc e1 e2 => by
          rw [List.getElem?_map] at e1 e2
          cases q : u.blanks[k]? with
          | none => rw [q] at e1; cases e1
          | some v =>
            rw [q] at e1 e2
            cases e1
            cases e2
            have ni := nin_ints (h := h' ++ [AO.lst (u.blanks.map D.int)] ++ [.lst acc]) (k := v) (get_app (get_app eL))
            simp at ni
            unfold LcTurn
            by_cases cc : v ∈ AC
            · simp [wp_v, ni, cc]
            · simp [wp_v, ni, cc])
      rw [filterMap_if, List.nil_append] at lc
      obtain ⟨N, hN⟩ : ∃ N, N = u.blanks.filter fun k => !decide (k ∈ AC) := ⟨_, rfl⟩
      rw [← hN] at lc step
      have Nl : N.length ≤ 1000000 := by
        rw [hN]
        exact Nat.le_trans (List.length_filter_le _ _) (by omega)
      have al := add_lsts (h := h' ++ [AO.lst (u.blanks.map D.int), AO.lst (N.map D.int)]) (i := L) (j := h'.length + 1) (xs := AC.map D.int) (ys := N.map D.int) (get_app eL) (by simp) (by simp; omega)
      rw [← List.map_append, ← step] at al
      have fin : J (i + 1) [some (tD (.bk s ps)), some (.loc (h'.length + 2)), some (tD u), c] (h' ++ [AO.lst (u.blanks.map D.int), AO.lst (N.map D.int), AO.lst ((blanksL [] (ps.take (i + 1))).map D.int)]) := by
        rw [hJ]
        exact ⟨_, _, _, by omega, by rw [List.take_append_of_le_length hl]; exact ht, by simp; omega, by simp, rfl⟩
      have it := its_lst eB
      simp only [ws_nameG, List.set_cons_succ, List.set_cons_zero]
      simp at lc al it
      simp [wp_v, ih, it, wipeD, lc, al, fin]
    · intro ds h' hj
      rw [hJ] at hj
      obtain ⟨L, b, c, hL, ht, hl, eL, rfl⟩ := hj
      rw [tDs_len, List.take_length] at eL
      simp [wp_v, Tr.blanks]
      exact ⟨_, eL, hL, ht, noloc_ints _, rfl⟩
end DV
namespace DV
open PySem PySem.Spec PyProof.Rows L2
theorem namL_mem {u : Tr} : ∀ {ps : List Tr}, namL ps → u ∈ ps → u.nam
  | t :: ts, g, h => by
    rcases List.mem_cons.mp h with rfl | h
    · exact g.1
    · exact namL_mem g.2 h
end DV
namespace DV
open PySem PySem.Spec PyProof.Rows L2
abbrev Pr := Tr × Tr
def pD (p : Pr) : D := .tup [tD p.1, tD p.2]
def getP (P : List Pr) (k : Int) : Option Pr := if 0 ≤ k then P[k.toNat]? else none
theorem noloc_pD (p : Pr) : noloc (pD p) = true := by simp [pD, noloc, nolocL, noloc_tD]
theorem likeness_ok (n : Nat) (h : Hs) (l : Nat) (P : List Pr) (k : Int) (e : h[l]? = some (.lst (P.map pD))) : F_likeness (n + 1) [.loc l, .int k] h = (match getP P k with | some p => R.ok (pD p) h | none => R.exc "BadPaper" h) := by
  have le := len_lst e
  rw [List.length_map] at le
  by_cases c0 : k < 0
  · have g : getP P k = none := by unfold getP; rw [if_neg (by omega)]
    rw [g]
    have w : (F_likeness (n + 1) [.loc l, .int k] h).wp (fun _ _ => False) (fun c h' => c = "BadPaper" ∧ h' = h) := by
      rw [S_likeness]
      simp only [wp_pure, wp_run, m_likeness, startD]
      refine ⟨rfl, ?_⟩
      simp [wp_v, c0]
    cases q : F_likeness (n + 1) [.loc l, .int k] h with
    | ok d h' => rw [q] at w; exact w.elim
    | exc c h' => rw [q] at w; obtain ⟨rfl, rfl⟩ := w; rfl
    | bad => rw [q] at w; exact w.elim
  · by_cases c1 : (P.length : Int) ≤ k
    · have g : getP P k = none := by unfold getP; rw [if_pos (by omega)]; exact List.getElem?_eq_none (by omega)
      rw [g]
      have w : (F_likeness (n + 1) [.loc l, .int k] h).wp (fun _ _ => False) (fun c h' => c = "BadPaper" ∧ h' = h) := by
        rw [S_likeness]
        simp only [wp_pure, wp_run, m_likeness, startD]
        refine ⟨rfl, ?_⟩
        simp [wp_v, c0, le, c1]
      cases q : F_likeness (n + 1) [.loc l, .int k] h with
      | ok d h' => rw [q] at w; exact w.elim
      | exc c h' => rw [q] at w; obtain ⟨rfl, rfl⟩ := w; rfl
      | bad => rw [q] at w; exact w.elim
    · obtain ⟨m, rfl⟩ := Int.eq_ofNat_of_zero_le (show 0 ≤ k by omega)
      have ml : m < P.length := by omega
      have g : getP P (m : Int) = some P[m] := by unfold getP; rw [if_pos (by omega), Int.toNat_natCast, List.getElem?_eq_getElem ml]
      rw [g]
      have ix : ixF (.loc l) (.int (m : Int)) h = some (pD P[m], h) := by
        rw [ix_lst e, atI_nat (by rw [List.length_map]; exact ml), List.getElem?_map, List.getElem?_eq_getElem ml]; rfl
      have nl := noloc_pD P[m]
      generalize P[m] = p at ix nl
      rw [S_likeness]
      refine R.wp_eq.mp ?_
      simp only [wp_pure, wp_run, m_likeness, startD]
      refine ⟨rfl, ?_⟩
      have c1' : ¬ P.length ≤ m := by omega
      simp [wp_v, le, c1', ix, nl]
      exact fun z => absurd z c0
def isBk : Tr → Bool
  | .bl _ => false
  | .bk _ _ => true
def lnk (p q : Pr) : Bool := match p.1, p.2, q.1 with
  | .bl _, .bk s ps, .bl a => decide (a ∈ (Tr.bk s ps).blanks)
  | _, _, _ => false
/-- one turn of a row -/
def rowAt (P : List Pr) (row : List Int) (k : Nat) : Bool := match getP P (row.getD k 0), getP P (row.getD ((k + 1) % row.length) 0) with
  | some p, some q => lnk p q
  | _, _ => false
theorem kind0 {t : Tr} {h : Hs} : ixF (tD t) (.int 0) h = some (.str (if isBk t = true then "block" else "blank"), h) := by cases t <;> simp [tD, isBk]
end DV
namespace DV
open PySem PySem.Spec PyProof.Rows L2
def goodRow (P : List Pr) (row : List Int) : Prop := row ≠ [] ∧ ∀ k < row.length, rowAt P row k = true
theorem ix_row {h : Hs} {l : Nat} {row : List Int} {k : Nat} (e : h[l]? = some (.lst (row.map D.int))) (hk : k < row.length) : ixF (.loc l) (.int (k : Int)) h = some (.int (row.getD k 0), h) := by
  rw [ix_lst e, atI_nat (by rw [List.length_map]; exact hk), List.getElem?_map, List.getD_eq_getElem?_getD, List.getElem?_eq_getElem hk]
  rfl
theorem lnk_eq (p q : Pr) : lnk p q = (!isBk p.1 && isBk p.2 && (match q.1 with | .bl a => decide (a ∈ p.2.blanks) | _ => false)) := by
  obtain ⟨a, b⟩ := p
  obtain ⟨c, d⟩ := q
  unfold lnk
  cases a <;> cases b <;> cases c <;> simp [isBk]
theorem nbl {h : Hs} : neF (.str "blank") (.str "blank") h = some (.bl false, h) := by rw [ne_strs ok_blank ok_blank, decide_eq_true rfl]; rfl
theorem nkl {h : Hs} : neF (.str "block") (.str "blank") h = some (.bl true, h) := by rw [ne_strs ok_block ok_blank, decide_eq_false bk_bl]; rfl
theorem nlk {h : Hs} : neF (.str "blank") (.str "block") h = some (.bl true, h) := by rw [ne_strs ok_blank ok_block, decide_eq_false bl_bk]; rfl
theorem check_row_ok (n : Nat) (h : Hs) (l m : Nat) (P : List Pr) (row : List Int) (e : h[l]? = some (.lst (P.map pD))) (r : h[m]? = some (.lst (row.map D.int))) (hz : row.length ≤ 1000000) (hP : ∀ p ∈ P, p.2.depth ≤ n + 1 ∧ p.2.knots ≤ 1000000) :
    (F_check_row (n + 2) [.loc l, .loc m] h).wp (fun d h' => goodRow P row ∧ d = .non ∧ h' = h) (fun c h' => ¬ goodRow P row ∧ c = "BadPaper" ∧ h' = h) := by
  rw [show F_check_row (n + 2) = _ from S_check_row (n + 1)]
  rw [wp_pure, wp_run]
  refine ⟨rfl, ?_⟩
  unfold m_check_row
  simp only [startD, List.map_cons, List.map_nil, List.length_cons, List.length_nil]
  simp only [List.set_cons_succ, List.set_cons_zero, List.replicate, List.cons_append, List.nil_append]
  have ee := eq_empty r
  cases row with
  | nil =>
    simp at ee
    simp [wp_v, ee, goodRow]
  | cons x row' =>
    obtain ⟨row, hrow⟩ : ∃ row, row = x :: row' := ⟨_, rfl⟩
    rw [← hrow] at ee r hz ⊢
    have rne : row ≠ [] := by rw [hrow]; simp
    have re : (row.map D.int).isEmpty = false := by rw [hrow]; rfl
    rw [re] at ee
    have rp : 0 < row.length := List.length_pos_iff.mpr rne
    clear hrow
    refine st_guard (h ++ [.lst []]) (by simp [wp_v, ee]) ?_
    obtain ⟨J, hJ⟩ : ∃ J : Nat → Sl → Hs → Prop, J = fun i ds h' => ∃ (q : Hs) (a b c d : Option D), (∀ k < i, rowAt P row k = true) ∧ h' = h ++ q ∧ ds = [some (.loc l), some (.loc m), a, b, c, d] := ⟨_, rfl⟩
    have it : (enumI (vM 1) [some (.loc l), some (.loc m), none, none, none, none] (h ++ [AO.lst []])).wp (fun p h' => p = (numD (row.map D.int), fun h => h[m]? = some (.lst (row.map D.int))) ∧ h' = h ++ [AO.lst []]) xF := by
      have r2 : (h ++ [AO.lst []])[m]? = some (.lst (row.map D.int)) := get_app r
      have en : enumF (.loc m) (h ++ [AO.lst []]) = some (numD (row.map D.int), fun h => h[m]? = some (.lst (row.map D.int))) := by
        unfold enumF; simp only [r2]
      simp [wp_v, en]
    rw [ws_for, R.wp_eq.mp it]
    refine ws_loop _ J (by rw [hJ]; exact ⟨_, none, none, none, none, fun k hk => absurd hk (Nat.not_lt_zero _), rfl, rfl⟩) (fun i ds h' hj => by rw [hJ] at hj; obtain ⟨q, a, b, c, d, _, rfl, _⟩ := hj; exact get_app r) ?_ ?_
    · intro i d ds h' hi hj
      rw [hJ] at hj
      obtain ⟨q, a, b, c, d', hk, rfl, rfl⟩ := hj
      obtain ⟨v, ev, rfl⟩ := numD_get hi
      have il : i < row.length := by
        have := (List.getElem?_eq_some_iff.mp ev).1
        rwa [List.length_map] at this
      have vk : v = .int (row.getD i 0) := by
        rw [List.getElem?_map, List.getElem?_eq_getElem il] at ev
        rw [List.getD_eq_getElem?_getD, List.getElem?_eq_getElem il]
        cases ev; rfl
      subst vk
      have r2 : ∀ q : Hs, (h ++ q)[m]? = some (.lst (row.map D.int)) := fun q => get_app r
      have e2 : ∀ q : Hs, (h ++ q)[l]? = some (.lst (P.map pD)) := fun q => get_app e
      have le := fun q => len_lst (r2 q)
      have lk1 := fun q => likeness_ok n (h ++ q) l P (row.getD i 0) (e2 q)
      have lk2 := fun q => likeness_ok n (h ++ q) l P (row.getD ((i + 1) % row.length) 0) (e2 q)
      have ml : (i + 1) % row.length < row.length := Nat.mod_lt _ rp
      have im : ((i : Int) + 1) % (row.length : Int) = (((i + 1) % row.length : Nat) : Int) := by rw [Int.natCast_emod]; rfl
      have ixr := fun q => ix_row (r2 q) ml
      have cm : cMod ((i : Int) + 1) (row.length : Int) = true := cMod_of (by omega)
      have notg : rowAt P row i = false → ¬ goodRow P row := fun z g => by have := g.2 i il; rw [z] at this; cases this
      have ra : rowAt P row i = (match getP P (row.getD i 0), getP P (row.getD ((i + 1) % row.length) 0) with
        | some p, some q => lnk p q
        | _, _ => false) := rfl
      generalize row.getD i 0 = k1 at lk1 ra
      generalize row.getD ((i + 1) % row.length) 0 = k2 at lk2 ra ixr
      generalize ((i + 1) % row.length : Nat) = mi at im ixr ml
      generalize hR : rowAt P row i = R0 at ra notg
      have tk : ∀ q : Hs, (h ++ q).take h.length = h := fun q => List.take_left
      cases g1 : getP P k1 with
      | none =>
        rw [g1] at ra lk1
        simp only at ra lk1
        have ng := notg ra
        simp [wp_v, lk1, ng]
      | some p1 =>
        rw [g1] at ra lk1
        simp only at lk1
        cases g2 : getP P k2 with
        | none =>
          rw [g2] at ra lk2
          simp only at ra lk2
          have ng := notg ra
          simp [wp_v, lk1, le, cm, im, ixr, lk2, ng]
        | some p2 =>
          rw [g2] at ra lk2
          simp only at ra lk2
          have mem1 : p1 ∈ P := by
            unfold getP at g1
            split at g1
            · exact List.mem_of_getElem? g1
            · cases g1
          have bo := fun q => blanks_of_ok (n + 1) (h ++ q) p1.2 (hP p1 mem1).1 (hP p1 mem1).2
          have okk : ∀ (q : Hs) (a b c d : Option D), R0 = true → J (i + 1) [some (.loc l), some (.loc m), a, b, c, d] (h ++ q) := fun q a b c d z => by
            rw [hJ]
            refine ⟨q, a, b, c, d, fun k hk' => ?_, rfl, rfl⟩
            by_cases c : k = i
            · subst c; rw [hR]; exact z
            · exact hk k (by omega)
          obtain ⟨a1, b1⟩ := p1
          obtain ⟨a2, b2⟩ := p2
          have q0 : ∀ h, ixF (pD (a1, b1)) (.int 0) h = some (tD a1, h) := fun h => rfl
          have q1 : ∀ h, ixF (pD (a1, b1)) (.int 1) h = some (tD b1, h) := fun h => rfl
          have q2 : ∀ h, ixF (pD (a2, b2)) (.int 0) h = some (tD a2, h) := fun h => rfl
          simp only at bo
          rw [lnk_eq] at ra
          simp only at ra
          by_cases zA : isBk a1 = true
          · rw [zA] at ra
            simp at ra
            have ng := notg ra
            have kA : ∀ h, ixF (tD a1) (.int 0) h = some (.str "block", h) := fun h => by rw [kind0, if_pos zA]
            simp [wp_v, lk1, le, cm, im, ixr, lk2, ng, q0, q1, q2, kA, nkl]
          · have zA' : isBk a1 = false := by simpa using zA
            rw [zA'] at ra
            have kA : ∀ h, ixF (tD a1) (.int 0) h = some (.str "blank", h) := fun h => by rw [kind0, if_neg zA]
            by_cases zB : isBk b1 = true
            · rw [zB] at ra
              have kB : ∀ h, ixF (tD b1) (.int 0) h = some (.str "block", h) := fun h => by rw [kind0, if_pos zB]
              cases a2 with
              | bk s ps =>
                simp at ra
                have ng := notg ra
                have kC : ∀ h, ixF (tD (.bk s ps)) (.int 0) h = some (.str "block", h) := fun h => by rw [kind0]; rfl
                simp [wp_v, lk1, le, cm, im, ixr, lk2, ng, q0, q1, q2, kA, kB, kC, nbl, nbk, nkl]
              | bl y =>
                simp at ra
                have kC : ∀ h, ixF (tD (.bl y)) (.int 0) h = some (.str "blank", h) := fun h => by rw [kind0]; rfl
                have kD : ∀ h, ixF (tD (.bl y)) (.int 1) h = some (.int y, h) := fun h => rfl
                have ni := nin_ints (h := (h ++ q) ++ [.lst (b1.blanks.map D.int)]) (l := (h ++ q).length) (k := y) (xs := b1.blanks) (by simp)
                have bo := bo q
                have lk1 := lk1 q
                have lk2 := lk2 q
                have le := le q
                have ixr := ixr q
                by_cases zC : y ∈ b1.blanks
                · have ok2 := fun a b c d => okk (q ++ [.lst (b1.blanks.map D.int)]) a b c d (by rw [ra]; simp [zC])
                  rw [← List.append_assoc] at ok2
                  generalize hG : h ++ q = G at *
                  simp [wp_v, lk1, le, cm, im, ixr, lk2, q0, q1, q2, kA, kB, kC, kD, nbl, nbk, bo, ni, zC]
                  simp [ok2]
                · have ng := notg (by rw [ra]; simp [zC])
                  generalize hG : h ++ q = G at *
                  simp [wp_v, lk1, le, cm, im, ixr, lk2, ng, q0, q1, q2, kA, kB, kC, kD, nbl, nbk, bo, ni, zC]
                  rw [← hG, List.append_assoc, List.take_left]
            · have zB' : isBk b1 = false := by simpa using zB
              rw [zB'] at ra
              simp at ra
              have ng := notg ra
              have kB : ∀ h, ixF (tD b1) (.int 0) h = some (.str "blank", h) := fun h => by rw [kind0, if_neg zB]
              simp [wp_v, lk1, le, cm, im, ixr, lk2, ng, q0, q1, q2, kA, kB, nbl, nlk]
    · intro ds h' hj
      rw [hJ] at hj
      obtain ⟨q, a, b, c, d, hk, rfl, rfl⟩ := hj
      have nl : (numD (row.map D.int)).length = row.length := by simp [numD]
      rw [nl] at hk
      exact ⟨⟨rfl, List.take_left⟩, ⟨rne, hk⟩, trivial, trivial⟩
end DV
namespace DV
open PySem PySem.Spec PyProof.Rows L2
theorem ev_within {h : Hs} : eqF (.str "within") (.str "within") h = some (.bl true, h) := by
  have : PyData.strOk "within" = true := by decide +kernel
  rw [eq_strs this this, decide_eq_true rfl]
theorem ev_unl {h : Hs} : eqF (.str "within") (.str "unlike") h = some (.bl false, h) := by
  have a : PyData.strOk "within" = true := by decide +kernel
  have b : PyData.strOk "unlike" = true := by decide +kernel
  rw [eq_strs a b, decide_eq_false (by decide +kernel)]
theorem ev_pp {h : Hs} : eqF (.str "part") (.str "part") h = some (.bl true, h) := by
  have : PyData.strOk "part" = true := by decide +kernel
  rw [eq_strs this this, decide_eq_true rfl]
theorem ev_pt {h : Hs} : eqF (.str "part") (.str "turned") h = some (.bl false, h) := by
  have a : PyData.strOk "part" = true := by decide +kernel
  have b : PyData.strOk "turned" = true := by decide +kernel
  rw [eq_strs a b, decide_eq_false (by decide +kernel)]
theorem check_end_row (n : Nat) (h : Hs) (l m : Nat) (P : List Pr) (row : List Int) (e : h[l]? = some (.lst (P.map pD))) (r : h[m]? = some (.lst (row.map D.int))) (hz : row.length ≤ 1000000) (hP : ∀ p ∈ P, p.2.depth ≤ n + 1 ∧ p.2.knots ≤ 1000000) :
    (F_check_end (n + 3) [.loc l, .tup [.str "within", .loc m]] h).wp (fun d h' => goodRow P row ∧ d = .non ∧ h' = h) (fun c h' => ¬ goodRow P row ∧ c = "BadPaper" ∧ h' = h) := by
  rw [show F_check_end (n + 3) = _ from S_check_end (n + 2)]
  rw [wp_pure, wp_run]
  refine ⟨rfl, ?_⟩
  unfold m_check_end
  simp only [startD, List.map_cons, List.map_nil, List.length_cons, List.length_nil]
  have cr := check_row_ok n h l m P row e r hz hP
  simp [wp_v, ev_unl, ev_within]
  refine R.wp_mono cr ?_ ?_
  · rintro d h' ⟨g, rfl, rfl⟩
    simp [noloc, g]
  · rintro c h' ⟨g, rfl, rfl⟩
    simp [g]
theorem noloc_pairs : ∀ P : List Pr, nolocL (P.map pD) = true
  | [] => rfl
  | p :: P => by rw [List.map_cons, nolocL, noloc_pD, noloc_pairs P]; rfl
end DV
namespace DV
open PySem PySem.Spec PyProof.Rows L2
/-- pairs that can be compared -/
def Pr.fine (p : Pr) : Prop := p.1.nam ∧ p.2.nam ∧ p.1.depth ≤ 90 ∧ p.2.depth ≤ 90
def bothP (p : Pr) : Bool := isBk p.1 && isBk p.2
noncomputable def sameP (p : Pr) : Bool := match p.1, p.2 with
  | .bk s ps, .bk t qs => decide (s = t) && decide (ps.length = qs.length)
  | _, _ => false
theorem ek_bl {h : Hs} : eqF (.str "blank") (.str "block") h = some (.bl false, h) := by rw [eq_strs ok_blank ok_block, decide_eq_false bl_bk]
theorem ek_bk {h : Hs} : eqF (.str "block") (.str "block") h = some (.bl true, h) := by rw [eq_strs ok_block ok_block, decide_eq_true rfl]
theorem kindE {t : Tr} {h : Hs} : eqF (.str (if isBk t = true then "block" else "blank")) (.str "block") h = some (.bl (isBk t), h) := by
  cases t
  · exact ek_bl
  · exact ek_bk
theorem both_ok (n : Nat) (h : Hs) (p : Pr) : F_both_blocks (n + 1) [pD p] h = .ok (.bl (bothP p)) h := by
  rw [S_both_blocks]
  refine R.wp_eq.mp ?_
  obtain ⟨a, b⟩ := p
  have q0 : ∀ h, ixF (pD (a, b)) (.int 0) h = some (tD a, h) := fun h => rfl
  have q1 : ∀ h, ixF (pD (a, b)) (.int 1) h = some (tD b, h) := fun h => rfl
  have k0 := fun h => kind0 (t := a) (h := h)
  have k1 := fun h => kind0 (t := b) (h := h)
  have e0 := fun h => kindE (t := a) (h := h)
  have e1 := fun h => kindE (t := b) (h := h)
  generalize (if isBk a = true then ("block" : Str) else "blank") = ka at k0 e0
  generalize (if isBk b = true then ("block" : Str) else "blank") = kb at k1 e1
  unfold bothP
  simp only
  rw [wp_pure, wp_run]
  refine ⟨rfl, ?_⟩
  unfold m_both_blocks
  simp only [startD]
  cases ha : isBk a <;> cases hb : isBk b <;> simp [wp_v, q0, q1, k0, k1, e0, e1, ha, hb, noloc]
theorem same_ok (n : Nat) (h : Hs) (p : Pr) (f : p.fine) : F_same_kind (n + 2) [pD p] h = .ok (.bl (sameP p)) h := by
  rw [show F_same_kind (n + 2) = _ from S_same_kind (n + 1)]
  refine R.wp_eq.mp ?_
  have bo := fun h => both_ok n h p
  obtain ⟨a, b⟩ := p
  obtain ⟨fa, fb, _, _⟩ := f
  have q0 : ∀ h, ixF (pD (a, b)) (.int 0) h = some (tD a, h) := fun h => rfl
  have q1 : ∀ h, ixF (pD (a, b)) (.int 1) h = some (tD b, h) := fun h => rfl
  generalize pD (a, b) = PD at *
  rw [wp_pure, wp_run]
  refine ⟨rfl, ?_⟩
  unfold m_same_kind
  simp only [startD]
  cases a with
  | bl x => simp [wp_v, bo, bothP, sameP, isBk, noloc]
  | bk s ps =>
    cases b with
    | bl y => simp [wp_v, bo, bothP, sameP, isBk, noloc]
    | bk t qs =>
      have es := fun h => eq_strs (h := h) (strOk_name fa.1) (strOk_name fb.1)
      by_cases c : s = t
      · subst c
        have es := fun h => eq_strs (h := h) (strOk_name fa.1) (strOk_name fa.1)
        by_cases c2 : ps.length = qs.length
        · simp [wp_v, bo, bothP, sameP, isBk, q0, q1, tD, es, c2, noloc]
        · have c3 : ¬ (ps.length : Int) = (qs.length : Int) := by omega
          simp [wp_v, bo, bothP, sameP, isBk, q0, q1, tD, es, c2, c3, noloc]
      · simp [wp_v, bo, bothP, sameP, isBk, q0, q1, tD, es, c, noloc]
/-- a step of a paper -/
inductive Stp where
  | part (e k : Int)
  | turned (e : Int)
  | linked (e f : Int)
  | joined (e k : Int)
def sD : Stp → D
  | .part e k => .tup [.str "part", .int e, .int k]
  | .turned e => .tup [.str "turned", .int e]
  | .linked e f => .tup [.str "linked", .int e, .int f]
  | .joined e k => .tup [.str "joined", .int e, .int k]
def partP (p : Pr) (k : Int) : Option Pr := if 0 ≤ k then (match p.1.parts[k.toNat]?, p.2.parts[k.toNat]? with
  | some a, some b => some (a, b)
  | _, _ => none) else none
open Classical in
noncomputable def stepP (P : List Pr) : Stp → Option Pr
  | .part e k => match getP P e with
    | some p => if sameP p = true then partP p k else none
    | none => none
  | .turned e => match getP P e with
    | some p => some (p.2, p.1)
    | none => none
  | .linked e f => match getP P e, getP P f with
    | some p, some q => if p.2 = q.1 then some (p.1, q.2) else none
    | _, _ => none
  | .joined _ _ => none
theorem ok_turned : PyData.strOk "turned" = true := by decide +kernel
theorem ok_part : PyData.strOk "part" = true := by decide +kernel
theorem ok_linked : PyData.strOk "linked" = true := by decide +kernel
theorem ok_joined : PyData.strOk "joined" = true := by decide +kernel
section
variable {h : Hs}
theorem ew_tt : eqF (.str "turned") (.str "turned") h = some (.bl true, h) := by rw [eq_strs ok_turned ok_turned, decide_eq_true rfl]
theorem ew_lt : eqF (.str "linked") (.str "turned") h = some (.bl false, h) := by rw [eq_strs ok_linked ok_turned, decide_eq_false (by decide +kernel)]
theorem ew_lp : eqF (.str "linked") (.str "part") h = some (.bl false, h) := by rw [eq_strs ok_linked ok_part, decide_eq_false (by decide +kernel)]
theorem ew_ll : eqF (.str "linked") (.str "linked") h = some (.bl true, h) := by rw [eq_strs ok_linked ok_linked, decide_eq_true rfl]
theorem ew_jt : eqF (.str "joined") (.str "turned") h = some (.bl false, h) := by rw [eq_strs ok_joined ok_turned, decide_eq_false (by decide +kernel)]
theorem ew_jp : eqF (.str "joined") (.str "part") h = some (.bl false, h) := by rw [eq_strs ok_joined ok_part, decide_eq_false (by decide +kernel)]
theorem ew_jl : eqF (.str "joined") (.str "linked") h = some (.bl false, h) := by rw [eq_strs ok_joined ok_linked, decide_eq_false (by decide +kernel)]
end
theorem getP_mem {P : List Pr} {k : Int} {p : Pr} (e : getP P k = some p) : p ∈ P := by
  unfold getP at e
  split at e
  · exact List.mem_of_getElem? e
  · cases e
/-- a step is done, or refused as no paper -/
theorem by_step_ok (n : Nat) (h : Hs) (l : Nat) (P : List Pr) (st : Stp) (e : h[l]? = some (.lst (P.map pD))) (fP : ∀ p ∈ P, p.fine) :
    (F_by_step (n + 3) [.loc l, sD st] h).wp (fun d h' => ∃ p, stepP P st = some p ∧ d = pD p ∧ h' = h) (fun c h' => stepP P st = none ∧ c = "BadPaper" ∧ h' = h) := by
  rw [show F_by_step (n + 3) = _ from S_by_step (n + 2)]
  rw [wp_pure, wp_run]
  refine ⟨rfl, ?_⟩
  unfold m_by_step
  simp only [startD, List.map_cons, List.map_nil, List.length_cons, List.length_nil]
  have lk := fun k => likeness_ok (n + 1) h l P k e
  cases st with
  | turned k =>
    have lk := lk k
    unfold stepP
    simp only
    cases g : getP P k with
    | none =>
      rw [g] at lk
      simp [wp_v, sD, lk]
    | some p =>
      rw [g] at lk
      obtain ⟨a, b⟩ := p
      have q0 : ∀ h, ixF (pD (a, b)) (.int 0) h = some (tD a, h) := fun h => rfl
      have q1 : ∀ h, ixF (pD (a, b)) (.int 1) h = some (tD b, h) := fun h => rfl
      simp only at lk
      simp [wp_v, sD, lk, ew_tt, q0, q1, noloc, nolocL, noloc_tD]
      rfl
  | joined k j =>
    have lk := lk k
    unfold stepP
    cases g : getP P k with
    | none =>
      rw [g] at lk
      simp [wp_v, sD, lk]
    | some p =>
      rw [g] at lk
      simp only at lk
      simp [wp_v, sD, lk, ew_jt, ew_jp, ew_jl]
  | linked k j =>
    have lk1 := lk k
    have lk2 := lk j
    unfold stepP
    simp only
    cases g : getP P k with
    | none =>
      rw [g] at lk1
      simp [wp_v, sD, lk1]
    | some p =>
      rw [g] at lk1
      simp only at lk1
      cases g2 : getP P j with
      | none =>
        rw [g2] at lk2
        simp [wp_v, sD, lk1, lk2, ew_lt, ew_lp, ew_ll]
      | some q =>
        rw [g2] at lk2
        simp only at lk2
        have fp := fP p (getP_mem g)
        have fq := fP q (getP_mem g2)
        obtain ⟨a, b⟩ := p
        obtain ⟨c, d⟩ := q
        have q0 : ∀ h, ixF (pD (a, b)) (.int 0) h = some (tD a, h) := fun h => rfl
        have q1 : ∀ h, ixF (pD (a, b)) (.int 1) h = some (tD b, h) := fun h => rfl
        have q2 : ∀ h, ixF (pD (c, d)) (.int 0) h = some (tD c, h) := fun h => rfl
        have q3 : ∀ h, ixF (pD (c, d)) (.int 1) h = some (tD d, h) := fun h => rfl
        have ne := fun h => ne_tree (h := h) (t := b) (u := c) fp.2.1 fq.1 (by have := fp.2.2.2; simp only at this; omega)
        by_cases z : b = c
        · rw [decide_eq_true z] at ne
          subst z
          simp [wp_v, sD, lk1, lk2, ew_lt, ew_lp, ew_ll, q0, q1, q2, q3, ne, noloc, nolocL, noloc_tD]
          rfl
        · rw [decide_eq_false z] at ne
          simp [wp_v, sD, lk1, lk2, ew_lt, ew_lp, ew_ll, q0, q1, q2, q3, ne, z]
  | part k j =>
    have lk := lk k
    unfold stepP
    simp only
    cases g : getP P k with
    | none =>
      rw [g] at lk
      simp [wp_v, sD, lk]
    | some p =>
      rw [g] at lk
      simp only at lk
      have fp := fP p (getP_mem g)
      have sk := fun h => same_ok n h p fp
      obtain ⟨a, b⟩ := p
      have q0 : ∀ h, ixF (pD (a, b)) (.int 0) h = some (tD a, h) := fun h => rfl
      have q1 : ∀ h, ixF (pD (a, b)) (.int 1) h = some (tD b, h) := fun h => rfl
      cases hs : sameP (a, b) with
      | false =>
        rw [hs] at sk
        simp [wp_v, sD, lk, ev_pt, ev_pp, sk, truD, hs]
      | true =>
        rw [hs] at sk
        cases a with
        | bl x => unfold sameP at hs; cases hs
        | bk s ps =>
          cases b with
          | bl y => unfold sameP at hs; cases hs
          | bk t qs =>
            have ll : ps.length = qs.length := by
              unfold sameP at hs
              simp at hs
              exact hs.2
            have t0 : ∀ h, ixF (tD (.bk s ps)) (.int 2) h = some (.tup (tDs ps), h) := fun h => by simp [tD]
            have t1 : ∀ h, ixF (tD (.bk t qs)) (.int 2) h = some (.tup (tDs qs), h) := fun h => by simp [tD]
            have ltn : ∀ h, lenF [.tup (tDs ps)] h = some (.int (ps.length : Int), h) := fun h => by simp
            by_cases j0 : j < 0
            · have hp : partP (.bk s ps, .bk t qs) j = none := by unfold partP; rw [if_neg (by omega)]
              simp [wp_v, sD, lk, ev_pt, ev_pp, sk, truD, j0, hp]
            · obtain ⟨m, rfl⟩ := Int.eq_ofNat_of_zero_le (show 0 ≤ j by omega)
              by_cases jl : ps.length ≤ m
              · have hp : partP (.bk s ps, .bk t qs) (m : Int) = none := by
                  unfold partP
                  rw [if_pos (by omega), Int.toNat_natCast]
                  simp only [Tr.parts]
                  rw [List.getElem?_eq_none jl]
                simp [wp_v, sD, lk, ev_pt, ev_pp, sk, truD, q0, t0, jl, hp]
              · have ia' : ps[m]? = some ps[m] := List.getElem?_eq_getElem (by omega)
                have ib' : qs[m]? = some (qs[m]'(by omega)) := List.getElem?_eq_getElem (by omega)
                obtain ⟨u, hu⟩ : ∃ u, ps[m]? = some u := ⟨_, ia'⟩
                obtain ⟨v, hv⟩ : ∃ v, qs[m]? = some v := ⟨_, ib'⟩
                clear ia' ib'
                have hp : partP (.bk s ps, .bk t qs) (m : Int) = some (u, v) := by
                  unfold partP
                  rw [if_pos (by omega), Int.toNat_natCast]
                  simp only [Tr.parts]
                  rw [hu, hv]
                have ia : ∀ h, ixF (.tup (tDs ps)) (.int (m : Int)) h = some (tD u, h) := fun h => by
                  rw [ix_tup', atI_nat (by rw [tDs_len]; omega), tDs_map, List.getElem?_map, hu]; rfl
                have ib : ∀ h, ixF (.tup (tDs qs)) (.int (m : Int)) h = some (tD v, h) := fun h => by
                  rw [ix_tup', atI_nat (by rw [tDs_len]; omega), tDs_map, List.getElem?_map, hv]; rfl
                obtain ⟨ST, hST⟩ : ∃ ST, ST = sD (.part k (m : Int)) := ⟨_, rfl⟩
                have w0 : ∀ h, ixF ST (.int 0) h = some (.str "part", h) := fun h => by rw [hST]; rfl
                have w1 : ∀ h, ixF ST (.int 1) h = some (.int k, h) := fun h => by rw [hST]; rfl
                have w2 : ∀ h, ixF ST (.int 2) h = some (.int (m : Int), h) := fun h => by rw [hST]; rfl
                rw [← hST]
                have nu := noloc_tD u
                have nv := noloc_tD v
                have pe : pD (u, v) = .tup [tD u, tD v] := rfl
                generalize tDs ps = TA at *
                generalize tDs qs = TB at *
                generalize tD u = DU at *
                generalize tD v = DV_ at *
                generalize tD (.bk s ps) = D1 at *
                generalize tD (.bk t qs) = D2 at *
                simp [-ix_tup', -len_tup, wp_v, w0, w1, w2, lk, ev_pt, ev_pp, sk, truD, q0, q1, t0, t1, ltn, j0, jl, ia, ib, noloc, nolocL, nu, nv, pe, hs, hp]
end DV
namespace DV
open PySem PySem.Spec PyProof.Rows L2
end DV
namespace DV
open PySem PySem.Spec PyProof.Rows L2
/-- an end of a paper -/
inductive Ed where
  | unlike (k : Int)
  | within (lr : Nat) (row : List Int)
  | alike
def eD : Ed → D
  | .unlike k => .tup [.str "unlike", .int k]
  | .within lr _ => .tup [.str "within", .loc lr]
  | .alike => .tup [.str "alike", .int 0]
/-- its row lies in the heap -/
def Ed.inH (h : Hs) : Ed → Prop
  | .within lr row => h[lr]? = some (.lst (row.map D.int)) ∧ row.length ≤ 1000000
  | _ => True
def endOk (P : List Pr) : Ed → Prop
  | .unlike k => ∃ p, getP P k = some p ∧ bothP p = true ∧ sameP p = false
  | .within _ row => goodRow P row
  | .alike => False
def fineK (p : Pr) : Prop := p.fine ∧ p.1.knots ≤ 100000 ∧ p.2.knots ≤ 100000
theorem ok_unlike : PyData.strOk "unlike" = true := by decide +kernel
theorem ok_within : PyData.strOk "within" = true := by decide +kernel
theorem ok_alike : PyData.strOk "alike" = true := by decide +kernel
section
variable {h : Hs}
theorem ez_uu : eqF (.str "unlike") (.str "unlike") h = some (.bl true, h) := by rw [eq_strs ok_unlike ok_unlike, decide_eq_true rfl]
theorem ez_au : eqF (.str "alike") (.str "unlike") h = some (.bl false, h) := by rw [eq_strs ok_alike ok_unlike, decide_eq_false (by decide +kernel)]
theorem ez_aw : eqF (.str "alike") (.str "within") h = some (.bl false, h) := by rw [eq_strs ok_alike ok_within, decide_eq_false (by decide +kernel)]
end
theorem check_end_ok (n : Nat) (h : Hs) (l : Nat) (P : List Pr) (ed : Ed) (e : h[l]? = some (.lst (P.map pD))) (r : ed.inH h) (fP : ∀ p ∈ P, fineK p) (hn : 90 ≤ n) :
    (F_check_end (n + 3) [.loc l, eD ed] h).wp (fun d h' => endOk P ed ∧ h' = h) (fun c h' => ¬ endOk P ed ∧ c = "BadPaper" ∧ h' = h) := by
  cases ed with
  | within lr row =>
    refine R.wp_mono (check_end_row n h l lr P row e r.1 r.2 fun p hp => ?_) ?_ ?_
    · have := fP p hp
      have := this.1.2.2.2
      have := (fP p hp).2.2
      exact ⟨by omega, by omega⟩
    · rintro d h' ⟨g, _, rfl⟩
      exact ⟨g, rfl⟩
    · rintro c h' g
      exact g
  | alike =>
    rw [show F_check_end (n + 3) = _ from S_check_end (n + 2)]
    rw [wp_pure, wp_run]
    refine ⟨rfl, ?_⟩
    unfold m_check_end
    simp only [startD, List.map_cons, List.map_nil, List.length_cons, List.length_nil]
    simp [wp_v, eD, ez_au, ez_aw, endOk]
  | unlike k =>
    rw [show F_check_end (n + 3) = _ from S_check_end (n + 2)]
    rw [wp_pure, wp_run]
    refine ⟨rfl, ?_⟩
    unfold m_check_end
    simp only [startD, List.map_cons, List.map_nil, List.length_cons, List.length_nil]
    have lk := likeness_ok (n + 1) h l P k e
    cases g : getP P k with
    | none =>
      rw [g] at lk
      have ng : ¬ endOk P (.unlike k) := by
        rintro ⟨q, hq, _⟩
        rw [g] at hq; cases hq
      simp [wp_v, eD, ez_uu, lk, ng]
    | some p =>
      rw [g] at lk
      simp only at lk
      have bo := fun h => both_ok (n + 1) h p
      have sk := fun h => same_ok n h p (fP p (getP_mem g)).1
      cases hb : bothP p with
      | false =>
        rw [hb] at bo
        have ng : ¬ endOk P (.unlike k) := by
          rintro ⟨q, hq, z, _⟩
          rw [g] at hq; cases hq
          rw [hb] at z; cases z
        simp [wp_v, eD, ez_uu, lk, bo, truD, ng]
      | true =>
        rw [hb] at bo
        cases hs : sameP p with
        | false =>
          rw [hs] at sk
          have yes : endOk P (.unlike k) := ⟨p, g, hb, hs⟩
          simp [wp_v, eD, ez_uu, lk, bo, sk, truD, yes, noloc]
        | true =>
          rw [hs] at sk
          have ng : ¬ endOk P (.unlike k) := by
            rintro ⟨q, hq, _, z⟩
            rw [g] at hq; cases hq
            rw [hs] at z; cases z
          simp [wp_v, eD, ez_uu, lk, bo, sk, truD, ng]
theorem part_fine {p q : Pr} {k : Int} (f : fineK p) (e : partP p k = some q) : fineK q := by
  unfold partP at e
  split at e
  · cases ha : p.1.parts[k.toNat]? with
    | none => rw [ha] at e; cases e
    | some a =>
      cases hb : p.2.parts[k.toNat]? with
      | none => rw [ha, hb] at e; cases e
      | some b =>
        rw [ha, hb] at e
        cases e
        obtain ⟨⟨f1, f2, f3, f4⟩, f5, f6⟩ := f
        have m1 := List.mem_of_getElem? ha
        have m2 := List.mem_of_getElem? hb
        have d1 := depth_mem m1
        have d2 := depth_mem m2
        have e1 := depth_parts p.1
        have e2 := depth_parts p.2
        have k1 := knots_memL m1
        have k2 := knots_memL m2
        have e3 := knots_parts p.1
        have e4 := knots_parts p.2
        refine ⟨⟨?_, ?_, by simp only; omega, by simp only; omega⟩, by simp only; omega, by simp only; omega⟩
        · cases hp : p.1 with
          | bl x => rw [hp] at m1; simp [Tr.parts] at m1
          | bk s ps => rw [hp] at m1 f1; exact namL_mem f1.2.2 m1
        · cases hp : p.2 with
          | bl x => rw [hp] at m2; simp [Tr.parts] at m2
          | bk s ps => rw [hp] at m2 f2; exact namL_mem f2.2.2 m2
  · cases e
theorem step_fine {P : List Pr} {st : Stp} {q : Pr} (fP : ∀ p ∈ P, fineK p) (e : stepP P st = some q) : fineK q := by
  cases st with
  | part k j =>
    unfold stepP at e
    simp only at e
    cases g : getP P k with
    | none => rw [g] at e; cases e
    | some p =>
      rw [g] at e
      simp only at e
      split at e
      · exact part_fine (fP p (getP_mem g)) e
      · cases e
  | turned k =>
    unfold stepP at e
    simp only at e
    cases g : getP P k with
    | none => rw [g] at e; cases e
    | some p =>
      rw [g] at e
      cases e
      obtain ⟨⟨f1, f2, f3, f4⟩, f5, f6⟩ := fP p (getP_mem g)
      exact ⟨⟨f2, f1, f4, f3⟩, f6, f5⟩
  | linked k j =>
    unfold stepP at e
    simp only at e
    cases g : getP P k with
    | none => rw [g] at e; cases e
    | some p =>
      cases g2 : getP P j with
      | none => rw [g, g2] at e; cases e
      | some p2 =>
        rw [g, g2] at e
        simp only at e
        split at e
        · cases e
          obtain ⟨⟨f1, f2, f3, f4⟩, f5, f6⟩ := fP p (getP_mem g)
          obtain ⟨⟨u1, u2, u3, u4⟩, u5, u6⟩ := fP p2 (getP_mem g2)
          exact ⟨⟨f1, u2, f3, u4⟩, f5, u6⟩
        · cases e
  | joined k j => unfold stepP at e; cases e
noncomputable def walkP : List Pr → List Stp → Option (List Pr)
  | P, [] => some P
  | P, st :: sts => match stepP P st with
    | some p => walkP (P ++ [p]) sts
    | none => none
theorem walkP_app : ∀ (a b : List Stp) (P : List Pr), walkP P (a ++ b) = (walkP P a).bind fun Q => walkP Q b
  | [], b, P => rfl
  | st :: a, b, P => by
    rw [List.cons_append, walkP, walkP]
    cases stepP P st with
    | none => rfl
    | some p => exact walkP_app a b _
theorem walk_fine : ∀ (sts : List Stp) (P Q : List Pr), (∀ p ∈ P, fineK p) → walkP P sts = some Q → (∀ p ∈ Q, fineK p) ∧ Q.length = P.length + sts.length
  | [], P, Q, fP, e => by
    rw [walkP] at e
    cases e
    exact ⟨fP, rfl⟩
  | st :: sts, P, Q, fP, e => by
    rw [walkP] at e
    cases g : stepP P st with
    | none => rw [g] at e; cases e
    | some p =>
      rw [g] at e
      obtain ⟨a, b⟩ := walk_fine sts (P ++ [p]) Q (fun q hq => by
        rcases List.mem_append.mp hq with hq | hq
        · exact fP q hq
        · cases List.mem_singleton.mp hq; exact step_fine fP g) e
      refine ⟨a, ?_⟩
      rw [b, List.length_append, List.length_cons]
      simp
      omega
/-- a whole paper -/
theorem walked_ok (n : Nat) (h : Hs) (ls : Nat) (a b : Tr) (sts : List Stp) (ed : Ed) (es : h[ls]? = some (.lst (sts.map sD))) (hz : sts.length ≤ 100000) (r : ed.inH h) (f : fineK (a, b)) (hn : 90 ≤ n) :
    (F_walked (n + 4) [tD a, tD b, .tup [.loc ls, eD ed]] h).wp
      (fun d h' => ∃ P, walkP [(a, b)] sts = some P ∧ endOk P ed ∧ d = .loc h.length ∧ h' = h ++ [.lst (P.map pD)])
      (fun c h' => (∀ P, walkP [(a, b)] sts = some P → ¬ endOk P ed) ∧ c = "BadPaper" ∧ h' = h) := by
  rw [show F_walked (n + 4) = _ from S_walked (n + 3)]
  refine wp_new ?_
  rw [wp_run]
  refine ⟨rfl, ?_⟩
  unfold m_walked
  simp only [startD, List.map_cons, List.map_nil, List.length_cons, List.length_nil]
  simp only [List.set_cons_succ, List.set_cons_zero, List.replicate, List.cons_append, List.nil_append]
  refine st_set (.loc h.length) (h ++ [.lst ([(a, b)].map pD)]) (by simp [wp_v, pD]) ?_
  simp only [List.set_cons_succ, List.set_cons_zero]
  obtain ⟨o1, ho1⟩ : ∃ o1, o1 = tD a := ⟨_, rfl⟩
  obtain ⟨o2, ho2⟩ : ∃ o2, o2 = tD b := ⟨_, rfl⟩
  obtain ⟨PP, hPP⟩ : ∃ PP, PP = D.tup [.loc ls, eD ed] := ⟨_, rfl⟩
  have w0 : ∀ h, ixF PP (.int 0) h = some (.loc ls, h) := fun h => by rw [hPP]; rfl
  have w1 : ∀ h, ixF PP (.int 1) h = some (eD ed, h) := fun h => by rw [hPP]; rfl
  rw [← ho1, ← ho2, ← hPP]
  obtain ⟨J, hJ⟩ : ∃ J : Nat → Sl → Hs → Prop, J = fun i ds h' => ∃ (P : List Pr) (x : Option D), walkP [(a, b)] (sts.take i) = some P ∧ h' = h ++ [.lst (P.map pD)] ∧ ds = [some o1, some o2, some PP, some (.loc h.length), x] := ⟨_, rfl⟩
  have f1 : ∀ p ∈ [(a, b)], fineK p := fun p hp => by cases List.mem_singleton.mp hp; exact f
  refine st_for (sts.map sD) (fun h' => h'[ls]? = some (.lst (sts.map sD))) (h ++ [.lst ([(a, b)].map pD)]) J ?_ (by rw [hJ]; exact ⟨[(a, b)], none, rfl, rfl, rfl⟩) (fun i ds h' hj => by rw [hJ] at hj; obtain ⟨P, x, _, rfl, _⟩ := hj; exact get_app es) ?_ ?_
  · have it := its_lst (h := h ++ [.lst ([(a, b)].map pD)]) (get_app es)
    generalize AO.lst ([(a, b)].map pD) = O0 at it ⊢
    simp [wp_v, w0, it]
  · intro i d ds h' hi hj
    rw [hJ] at hj
    obtain ⟨P, x, wP, rfl, rfl⟩ := hj
    rw [List.getElem?_map] at hi
    cases q : sts[i]? with
    | none => rw [q] at hi; cases hi
    | some st =>
      rw [q] at hi
      have hi : sD st = d := Option.some.inj hi
      subst hi
      obtain ⟨il, _⟩ := List.getElem?_eq_some_iff.mp q
      have tk : sts.take (i + 1) = sts.take i ++ [st] := by rw [List.take_add_one, q]; rfl
      obtain ⟨fP, lP⟩ := walk_fine _ _ _ f1 wP
      have el : (h ++ [AO.lst (P.map pD)])[h.length]? = some (.lst (P.map pD)) := by simp
      have bs := by_step_ok n (h ++ [AO.lst (P.map pD)]) h.length P st el fun p hp => (fP p hp).1
      have ck := ck_lst el
      have wn : stepP P st = none → ∀ Q, walkP [(a, b)] sts = some Q → ¬ endOk Q ed := fun z Q hQ => by
        have : sts = sts.take (i + 1) ++ sts.drop (i + 1) := (List.take_append_drop _ _).symm
        rw [this, tk, List.append_assoc, walkP_app, wP] at hQ
        simp only [Option.bind_some, List.cons_append, List.nil_append, walkP, z] at hQ
        cases hQ
      have ws : ∀ p, stepP P st = some p → walkP [(a, b)] (sts.take (i + 1)) = some (P ++ [p]) := fun p z => by
        rw [tk, walkP_app, wP]
        simp only [Option.bind_some, walkP, z]
      have ap := fun p => append_lst (v := pD p) el (by rw [List.length_map, lP, List.length_take]; simp; omega)
      have apE : ∀ p, (h ++ [AO.lst (P.map pD)]).set h.length (.lst (P.map pD ++ [pD p])) = h ++ [.lst ((P ++ [p]).map pD)] := fun p => by simp
      simp only [apE] at ap
      have fin : ∀ p, stepP P st = some p → J (i + 1) [some o1, some o2, some PP, some (.loc h.length), some (sD st)] (h ++ [.lst ((P ++ [p]).map pD)]) := fun p z => by
        rw [hJ]; exact ⟨_, _, ws p z, rfl, rfl⟩
      have tkh : (h ++ [AO.lst (P.map pD)]).take h.length = h := List.take_left
      generalize sD st = SI at *
      generalize AO.lst (P.map pD) = O1 at *
      simp [wp_v, ck]
      refine R.wp_mono bs ?_ ?_
      · rintro d h' ⟨p, z, rfl, rfl⟩
        have ap := ap p
        have fin := fin p z
        generalize AO.lst ((P ++ [p]).map pD) = O2 at *
        generalize pD p = DP at *
        simp [ck, ap, fin]
      · rintro c h' ⟨z, rfl, rfl⟩
        have wz := wn z
        simp [tkh]
        exact wz
  · intro ds h' hj
    rw [hJ] at hj
    obtain ⟨P, x, wP, rfl, rfl⟩ := hj
    rw [List.length_map, List.take_length] at wP
    obtain ⟨fP, lP⟩ := walk_fine _ _ _ f1 wP
    have r2 : ed.inH (h ++ [.lst (P.map pD)]) := by
      cases ed with
      | within lr row => exact ⟨get_app r.1, r.2⟩
      | _ => trivial
    have ce := check_end_ok n (h ++ [.lst (P.map pD)]) h.length P ed (by simp) r2 fP hn
    have nl : nolocO (.lst (P.map pD)) = true := noloc_pairs P
    generalize hO : AO.lst (P.map pD) = O1 at *
    simp [wp_v, w1]
    refine R.wp_mono ce ?_ ?_
    · rintro d h' ⟨g, rfl⟩
      simp [nl]
      exact ⟨P, wP, g, hO.symm⟩
    · rintro c h' ⟨g, rfl, rfl⟩
      simp
      intro Q hQ
      rw [wP] at hQ
      cases hQ
      exact g
end DV
namespace DV
open PySem PySem.Spec PyProof.Rows L2
theorem walked_exc {n : Nat} {h : Hs} {a b c : D} (w : (F_walked n [a, b, c] h).wp (fun _ _ => False) (fun e h' => e = "BadPaper" ∧ h' = h)) : F_walked n [a, b, c] h = .exc "BadPaper" h := by
  cases q : F_walked n [a, b, c] h with
  | ok d h' => rw [q] at w; exact w.elim
  | exc e h' => rw [q] at w; obtain ⟨rfl, rfl⟩ := w; rfl
  | bad => rw [q] at w; exact w.elim
theorem law_refused_ok (n : Nat) (h : Hs) (a b c : D) (re : F_walked n [a, b, c] h = .exc "BadPaper" h) : F__law_refused (n + 1) [a, b, c] h = .ok (.bl true) h := by
  rw [S__law_refused]
  refine R.wp_eq.mp ?_
  rw [wp_pure, wp_run]
  refine ⟨rfl, ?_⟩
  unfold m__law_refused
  simp only [startD, List.map_cons, List.map_nil, List.length_cons, List.length_nil]
  refine st_set (.str "none") h ⟨rfl, rfl⟩ ?_
  simp only [List.set_cons_succ, List.set_cons_zero, List.replicate, List.cons_append, List.nil_append]
  have so : PyData.strOk "paper" = true := by decide +kernel
  have ee : ∀ h, eqF (.str "paper") (.str "paper") h = some (.bl true, h) := fun h => by rw [eq_strs so so, decide_eq_true rfl]
  simp [wp_v, ws_try, exprM, callM, consA, nilA, vM, lift, re]
  refine ws_suite _ _ ?_
  simp [wp_v, nameM, dropS, pick0, ee, noloc]
theorem law_refused_base_ok (n : Nat) (h : Hs) (a b c : D) (re : F_walked n [a, b, c] h = .exc "BadPaper" h) : F__law_refused_by_base (n + 1) [a, b, c] h = .ok (.bl true) h := by
  rw [S__law_refused_by_base]
  refine R.wp_eq.mp ?_
  rw [wp_pure, wp_run]
  refine ⟨rfl, ?_⟩
  unfold m__law_refused_by_base
  simp only [startD, List.map_cons, List.map_nil, List.length_cons, List.length_nil]
  refine st_set (.bl false) h ⟨rfl, rfl⟩ ?_
  simp only [List.set_cons_succ, List.set_cons_zero, List.replicate, List.cons_append, List.nil_append]
  simp [wp_v, ws_try, exprM, callM, consA, nilA, vM, lift, re]
  refine ws_suite _ _ ?_
  simp [wp_v, nameM, dropS, noloc]
end DV
namespace DV
open PySem PySem.Spec PyProof.Rows L2
theorem law_same_ok (n : Nat) (h : Hs) (p : Pr) (f : p.fine) : F__law_same (n + 1) [pD p] h = .ok (.bl (sameP p)) h := by
  rw [S__law_same]
  refine R.wp_eq.mp ?_
  obtain ⟨a, b⟩ := p
  obtain ⟨fa, fb, _, _⟩ := f
  have pe : pD (a, b) = .tup [tD a, tD b] := rfl
  rw [wp_pure, wp_run]
  refine ⟨rfl, ?_⟩
  unfold m__law_same
  simp only [startD]
  cases a with
  | bl x =>
    have k0 : ∀ h, ixF (tD (.bl x)) (.int 0) h = some (.str "blank", h) := fun h => by rw [kind0]; rfl
    simp [wp_v, pe, k0, nlk, sameP, noloc]
  | bk s ps =>
    have k0 : ∀ h, ixF (tD (.bk s ps)) (.int 0) h = some (.str "block", h) := fun h => by rw [kind0]; rfl
    cases b with
    | bl y =>
      have k1 : ∀ h, ixF (tD (.bl y)) (.int 0) h = some (.str "blank", h) := fun h => by rw [kind0]; rfl
      simp [wp_v, pe, k0, k1, nlk, nbk, sameP, noloc]
    | bk t qs =>
      have k1 : ∀ h, ixF (tD (.bk t qs)) (.int 0) h = some (.str "block", h) := fun h => by rw [kind0]; rfl
      have u0 : ∀ h, ixF (tD (.bk s ps)) (.int 1) h = some (.str s, h) := fun h => by simp [tD]
      have u1 : ∀ h, ixF (tD (.bk t qs)) (.int 1) h = some (.str t, h) := fun h => by simp [tD]
      have v0 : ∀ h, ixF (tD (.bk s ps)) (.int 2) h = some (.tup (tDs ps), h) := fun h => by simp [tD]
      have v1 : ∀ h, ixF (tD (.bk t qs)) (.int 2) h = some (.tup (tDs qs), h) := fun h => by simp [tD]
      have es := fun h => eq_strs (h := h) (strOk_name fa.1) (strOk_name fb.1)
      by_cases c : s = t
      · subst c
        have es := fun h => eq_strs (h := h) (strOk_name fa.1) (strOk_name fa.1)
        by_cases c2 : ps.length = qs.length
        · simp [wp_v, pe, k0, k1, nbk, u0, u1, v0, v1, es, sameP, c2, noloc]
        · have c3 : ¬ (ps.length : Int) = (qs.length : Int) := by omega
          simp [wp_v, pe, k0, k1, nbk, u0, u1, v0, v1, es, sameP, c2, c3, noloc]
      · simp [wp_v, pe, k0, k1, nbk, u0, u1, v0, v1, es, sameP, c, noloc]
end DV
namespace DV
open PySem PySem.Spec PyProof.Rows L2
def StepQ (P : List Pr) (d : D) : Prop := ∃ st p, d = .tup [sD st, pD p] ∧ stepP P st = some p
theorem ne_tup0 {h : Hs} {ps : List Tr} (g : namL ps) (d : depthL ps ≤ 90) : neF (.tup (tDs ps)) (.tup []) h = some (.bl (!decide (ps = [])), h) := by
  classical
  have e1 : pyOk (.tup (tDs ps)) = true := by unfold pyOk; exact pyOk_namL g
  have e2 := dep_tDs ps
  rw [ne_of' e1 rfl (by simp [depD]; omega)]
  congr 4
  cases ps with
  | nil => simp [tDs]
  | cons t ts => simp [tDs]
end DV
namespace DV
open PySem PySem.Spec PyProof.Rows L2
theorem law_step_turned (n : Nat) (h : Hs) (l m : Nat) (P : List Pr) (xs : List Int) (e : h[l]? = some (.lst (P.map pD))) (ex : h[m]? = some (.lst (xs.map D.int))) (xl : xs.length = 3) (P0 : 0 < P.length) (z2 : xs.getD 1 0 % 3 = 2) :
    (F__law_step (n + 2) [.loc l, .loc m] h).wp (fun d h' => h' = h ∧ StepQ P d) xF := by
  rw [show F__law_step (n + 2) = _ from S__law_step (n + 1)]
  rw [wp_pure, wp_run]
  refine ⟨rfl, ?_⟩
  unfold m__law_step
  simp only [startD, List.map_cons, List.map_nil, List.length_cons, List.length_nil]
  simp only [List.set_cons_succ, List.set_cons_zero, List.replicate, List.cons_append, List.nil_append]
  have i0 : ixF (.loc m) (.int 0) h = some (.int (xs.getD 0 0), h) := ix_row (k := 0) ex (by omega)
  have i1 : ixF (.loc m) (.int 1) h = some (.int (xs.getD 1 0), h) := ix_row (k := 1) ex (by omega)
  generalize xs.getD 0 0 = x0 at i0
  generalize xs.getD 1 0 = x1 at i1 z2
  have m3 : ∀ i, cMod i 3 = true := fun _ => cMod_of (by decide)
  have mp : ∀ i, cMod i (P.length : Int) = true := fun _ => cMod_of (by omega)
  have lp := len_lst e
  rw [List.length_map] at lp
  have b0 := Int.emod_nonneg x0 (b := (P.length : Int)) (by omega)
  have b1 := Int.emod_lt_of_pos x0 (b := (P.length : Int)) (by omega)
  obtain ⟨k, hk⟩ : ∃ k : Nat, x0 % (P.length : Int) = (k : Int) := ⟨(x0 % (P.length : Int)).toNat, by omega⟩
  have kl : k < P.length := by omega
  have ip : ixF (.loc l) (.int (k : Int)) h = some (pD P[k], h) := by
    rw [ix_lst e, atI_nat (by rw [List.length_map]; exact kl), List.getElem?_map, List.getElem?_eq_getElem kl]; rfl
  have g : getP P (k : Int) = some P[k] := by unfold getP; rw [if_pos (by omega), Int.toNat_natCast, List.getElem?_eq_getElem kl]
  generalize P[k] = p at ip g
  obtain ⟨a, b⟩ := p
  have q0 : ∀ h, ixF (pD (a, b)) (.int 0) h = some (tD a, h) := fun h => rfl
  have q1 : ∀ h, ixF (pD (a, b)) (.int 1) h = some (tD b, h) := fun h => rfl
  have fin : StepQ P (.tup [.tup [.str "turned", .int k], .tup [tD b, tD a]]) := ⟨.turned k, (b, a), rfl, by unfold stepP; simp only [g]⟩
  refine st_set (.int (k : Int)) h (by simp [wp_v, i0, lp, mp, hk]) ?_
  refine st_set (pD (a, b)) h (by simp [wp_v, ip]) ?_
  simp only [List.set_cons_succ, List.set_cons_zero]
  generalize pD (a, b) = PD at *
  simp [wp_v, i1, m3, z2, q0, q1, noloc, nolocL, noloc_tD, fin]
end DV
namespace DV
open PySem PySem.Spec PyProof.Rows L2
theorem sameP_ex {p : Pr} (e : sameP p = true) : ∃ s ps qs, p = (.bk s ps, .bk s qs) ∧ ps.length = qs.length := by
  obtain ⟨a, b⟩ := p
  unfold sameP at e
  cases a with
  | bl x => cases e
  | bk s ps =>
    cases b with
    | bl y => cases e
    | bk t qs =>
      simp only [Bool.and_eq_true, decide_eq_true_eq] at e
      obtain ⟨rfl, e2⟩ := e
      exact ⟨s, ps, qs, rfl, e2⟩
theorem ix_tuple {ps : List Tr} {k : Nat} {a : Tr} {h : Hs} (ha : ps[k]? = some a) : ixF (.tup (tDs ps)) (.int (k : Int)) h = some (tD a, h) := by
  obtain ⟨kl, _⟩ := List.getElem?_eq_some_iff.mp ha
  rw [ix_tup', atI_nat (by rw [tDs_len]; exact kl), tDs_map, List.getElem?_map, ha]; rfl
theorem law_step_part (n : Nat) (h : Hs) (l m : Nat) (P : List Pr) (xs : List Int) (e : h[l]? = some (.lst (P.map pD))) (ex : h[m]? = some (.lst (xs.map D.int))) (xl : xs.length = 3) (P0 : 0 < P.length) (fP : ∀ p ∈ P, p.fine) (z0 : xs.getD 1 0 % 3 = 0) :
    (F__law_step (n + 2) [.loc l, .loc m] h).wp (fun d h' => h' = h ∧ StepQ P d) xF := by
  rw [show F__law_step (n + 2) = _ from S__law_step (n + 1)]
  rw [wp_pure, wp_run]
  refine ⟨rfl, ?_⟩
  unfold m__law_step
  simp only [startD, List.map_cons, List.map_nil, List.length_cons, List.length_nil]
  simp only [List.set_cons_succ, List.set_cons_zero, List.replicate, List.cons_append, List.nil_append]
  have i0 : ixF (.loc m) (.int 0) h = some (.int (xs.getD 0 0), h) := ix_row (k := 0) ex (by omega)
  have i1 : ixF (.loc m) (.int 1) h = some (.int (xs.getD 1 0), h) := ix_row (k := 1) ex (by omega)
  have i2 : ixF (.loc m) (.int 2) h = some (.int (xs.getD 2 0), h) := ix_row (k := 2) ex (by omega)
  generalize xs.getD 0 0 = x0 at i0
  generalize xs.getD 1 0 = x1 at i1 z0
  generalize xs.getD 2 0 = x2 at i2
  have m3 : ∀ i, cMod i 3 = true := fun _ => cMod_of (by decide)
  have mp : ∀ i, cMod i (P.length : Int) = true := fun _ => cMod_of (by omega)
  have lp := len_lst e
  rw [List.length_map] at lp
  have b0 := Int.emod_nonneg x0 (b := (P.length : Int)) (by omega)
  have b1 := Int.emod_lt_of_pos x0 (b := (P.length : Int)) (by omega)
  obtain ⟨k, hk⟩ : ∃ k : Nat, x0 % (P.length : Int) = (k : Int) := ⟨(x0 % (P.length : Int)).toNat, by omega⟩
  have kl : k < P.length := by omega
  have ip : ixF (.loc l) (.int (k : Int)) h = some (pD P[k], h) := by
    rw [ix_lst e, atI_nat (by rw [List.length_map]; exact kl), List.getElem?_map, List.getElem?_eq_getElem kl]; rfl
  have g : getP P (k : Int) = some P[k] := by unfold getP; rw [if_pos (by omega), Int.toNat_natCast, List.getElem?_eq_getElem kl]
  have fp := fP P[k] (List.getElem_mem kl)
  generalize P[k] = p at ip g fp
  have sm := fun h => law_same_ok n h p fp
  cases sp : sameP p with
  | false =>
    rw [sp] at sm
    obtain ⟨a, b⟩ := p
    have q0 : ∀ h, ixF (pD (a, b)) (.int 0) h = some (tD a, h) := fun h => rfl
    have q1 : ∀ h, ixF (pD (a, b)) (.int 1) h = some (tD b, h) := fun h => rfl
    have fin : StepQ P (.tup [.tup [.str "turned", .int k], .tup [tD b, tD a]]) := ⟨.turned k, (b, a), rfl, by unfold stepP; simp only [g]⟩
    refine st_set (.int (k : Int)) h (by simp [wp_v, i0, lp, mp, hk]) ?_
    refine st_set (pD (a, b)) h (by simp [wp_v, ip]) ?_
    simp only [List.set_cons_succ, List.set_cons_zero]
    generalize pD (a, b) = PD at *
    simp [wp_v, i1, m3, z0, sm, truD, q0, q1, noloc, nolocL, noloc_tD, fin]
  | true =>
    rw [sp] at sm
    obtain ⟨s, ps, qs, rfl, hl⟩ := sameP_ex sp
    have q0 : ∀ h, ixF (pD (.bk s ps, .bk s qs)) (.int 0) h = some (tD (.bk s ps), h) := fun h => rfl
    have q1 : ∀ h, ixF (pD (.bk s ps, .bk s qs)) (.int 1) h = some (tD (.bk s qs), h) := fun h => rfl
    have t0 : ∀ h, ixF (tD (.bk s ps)) (.int 2) h = some (.tup (tDs ps), h) := fun h => by simp [tD]
    have t1 : ∀ h, ixF (tD (.bk s qs)) (.int 2) h = some (.tup (tDs qs), h) := fun h => by simp [tD]
    obtain ⟨f1, f2, f3, f4⟩ := fp
    have dps : depthL ps ≤ 90 := by
      have f3 : (Tr.bk s ps).depth ≤ 90 := f3
      rw [depth_bk] at f3; omega
    have ne := fun h => ne_tup0 (h := h) (ps := ps) f1.2.2 dps
    refine st_set (.int (k : Int)) h (by simp [wp_v, i0, lp, mp, hk]) ?_
    refine st_set (pD (.bk s ps, .bk s qs)) h (by simp [wp_v, ip]) ?_
    simp only [List.set_cons_succ, List.set_cons_zero]
    by_cases c : ps = []
    · rw [decide_eq_true c] at ne
      have fin : StepQ P (.tup [.tup [.str "turned", .int k], .tup [tD (.bk s qs), tD (.bk s ps)]]) := ⟨.turned k, (.bk s qs, .bk s ps), rfl, by unfold stepP; simp only [g]⟩
      have n1 := noloc_tD (.bk s ps)
      have n2 := noloc_tD (.bk s qs)
      generalize pD (.bk s ps, .bk s qs) = PD at *
      generalize tD (.bk s ps) = D1 at *
      generalize tD (.bk s qs) = D2 at *
      generalize tDs ps = TA at *
      simp [wp_v, i1, m3, z0, sm, truD, q0, q1, t0, ne, noloc, nolocL, n1, n2, fin]
    · rw [decide_eq_false c] at ne
      have pl : 0 < ps.length := List.length_pos_iff.mpr c
      have b2 := Int.emod_nonneg x2 (b := (ps.length : Int)) (by omega)
      have b3 := Int.emod_lt_of_pos x2 (b := (ps.length : Int)) (by omega)
      have mq : ∀ i, cMod i (ps.length : Int) = true := fun _ => cMod_of (by omega)
      obtain ⟨j, hj⟩ : ∃ j : Nat, x2 % (ps.length : Int) = (j : Int) := ⟨(x2 % (ps.length : Int)).toNat, by omega⟩
      have jl : j < ps.length := by omega
      have ea : ps[j]? = some ps[j] := List.getElem?_eq_getElem jl
      have eb : qs[j]? = some (qs[j]'(by omega)) := List.getElem?_eq_getElem (by omega)
      generalize ps[j] = a at ea
      generalize qs[j]'(by omega) = b at eb
      have ia := fun h => ix_tuple (h := h) ea
      have ib := fun h => ix_tuple (h := h) eb
      have fin : StepQ P (.tup [.tup [.str "part", .int k, .int j], .tup [tD a, tD b]]) := ⟨.part k j, (a, b), rfl, by
        unfold stepP partP
        simp only [g, sp, if_true]
        rw [if_pos (by omega)]
        simp only [Tr.parts, Int.toNat_natCast, ea, eb]⟩
      have n1 := noloc_tD a
      have n2 := noloc_tD b
      have ltn : ∀ h, lenF [.tup (tDs ps)] h = some (.int (ps.length : Int), h) := fun h => by simp
      generalize pD (.bk s ps, .bk s qs) = PD at *
      generalize tD (.bk s ps) = D1 at *
      generalize tD (.bk s qs) = D2 at *
      generalize tDs ps = TA at *
      generalize tDs qs = TB at *
      generalize tD a = DA at *
      generalize tD b = DB at *
      simp [-ix_tup', -ix_tup, -len_tup, wp_v, i1, i2, m3, z0, sm, truD, q0, q1, t0, t1, ne, ltn, mq, hj, ia, ib, noloc, nolocL, n1, n2, fin]
end DV
namespace DV
open PySem PySem.Spec PyProof.Rows L2
theorem ix_pairs {h : Hs} {l k : Nat} {P : List Pr} (e : h[l]? = some (.lst (P.map pD))) (kl : k < P.length) : ixF (.loc l) (.int (k : Int)) h = some (pD P[k], h) := by
  rw [ix_lst e, atI_nat (by rw [List.length_map]; exact kl), List.getElem?_map, List.getElem?_eq_getElem kl]; rfl
theorem getP_at {P : List Pr} {k : Nat} (kl : k < P.length) : getP P (k : Int) = some P[k] := by unfold getP; rw [if_pos (by omega), Int.toNat_natCast, List.getElem?_eq_getElem kl]
theorem filterMap_range (m : Nat) (f : Nat → Bool) : ((List.range m).map fun k : Nat => if f k then some (D.int (k : Int)) else none).filterMap id = (((List.range m).filter f).map fun k : Nat => (k : Int)).map D.int := by
  rw [List.filterMap_map, List.map_map]
  induction List.range m with
  | nil => rfl
  | cons a l ih =>
    rw [List.filterMap_cons, List.filter_cons]
    by_cases c : f a = true
    · simp only [Function.comp, c, if_true, id, List.map_cons]
      rw [← ih]
    · have c : f a = false := by simpa using c
      simp only [Function.comp, c, id]
      exact ih
theorem law_step_linked (n : Nat) (h : Hs) (l m : Nat) (P : List Pr) (xs : List Int) (e : h[l]? = some (.lst (P.map pD))) (ex : h[m]? = some (.lst (xs.map D.int))) (xl : xs.length = 3) (P0 : 0 < P.length) (Pz : P.length ≤ 1000) (fP : ∀ p ∈ P, p.fine) (z1 : xs.getD 1 0 % 3 = 1) :
    (F__law_step (n + 2) [.loc l, .loc m] h).wp (fun d h' => h' = h ∧ StepQ P d) xF := by
  classical
  rw [show F__law_step (n + 2) = _ from S__law_step (n + 1)]
  rw [wp_pure, wp_run]
  refine ⟨rfl, ?_⟩
  unfold m__law_step
  simp only [startD, List.map_cons, List.map_nil, List.length_cons, List.length_nil]
  simp only [List.set_cons_succ, List.set_cons_zero, List.replicate, List.cons_append, List.nil_append]
  have ex2 : ∀ q : Hs, (h ++ q)[m]? = some (.lst (xs.map D.int)) := fun q => get_app ex
  have i0 : ixF (.loc m) (.int 0) h = some (.int (xs.getD 0 0), h) := ix_row (k := 0) ex (by omega)
  have i1 : ixF (.loc m) (.int 1) h = some (.int (xs.getD 1 0), h) := ix_row (k := 1) ex (by omega)
  have i2 : ∀ q : Hs, ixF (.loc m) (.int 2) (h ++ q) = some (.int (xs.getD 2 0), h ++ q) := fun q => ix_row (k := 2) (ex2 q) (by omega)
  generalize xs.getD 0 0 = x0 at i0
  generalize xs.getD 1 0 = x1 at i1 z1
  generalize xs.getD 2 0 = x2 at i2
  have m3 : ∀ i, cMod i 3 = true := fun _ => cMod_of (by decide)
  have mp : ∀ i, cMod i (P.length : Int) = true := fun _ => cMod_of (by omega)
  have lp := len_lst e
  rw [List.length_map] at lp
  have b0 := Int.emod_nonneg x0 (b := (P.length : Int)) (by omega)
  have b1 := Int.emod_lt_of_pos x0 (b := (P.length : Int)) (by omega)
  obtain ⟨k, hk⟩ : ∃ k : Nat, x0 % (P.length : Int) = (k : Int) := ⟨(x0 % (P.length : Int)).toNat, by omega⟩
  have kl : k < P.length := by omega
  have e2 : ∀ q : Hs, (h ++ q)[l]? = some (.lst (P.map pD)) := fun q => get_app e
  have ip := ix_pairs e kl
  have g := getP_at kl
  have fp := fP P[k] (List.getElem_mem kl)
  generalize P[k] = p at ip g fp
  obtain ⟨a, b⟩ := p
  have q0 : ∀ h, ixF (pD (a, b)) (.int 0) h = some (tD a, h) := fun h => rfl
  have q1 : ∀ h, ixF (pD (a, b)) (.int 1) h = some (tD b, h) := fun h => rfl
  have fin : StepQ P (.tup [.tup [.str "turned", .int k], .tup [tD b, tD a]]) := ⟨.turned k, (b, a), rfl, by unfold stepP; simp only [g]⟩
  refine st_set (.int (k : Int)) h (by simp [wp_v, i0, lp, mp, hk]) ?_
  refine st_set (pD (a, b)) h (by simp [wp_v, ip]) ?_
  simp only [List.set_cons_succ, List.set_cons_zero]
  obtain ⟨f, hf⟩ : ∃ f : Nat → Bool, f = fun j => match P[j]? with
    | some q => decide (q.1 = b)
    | none => false := ⟨_, rfl⟩
  obtain ⟨M, hM⟩ : ∃ M : List Int, M = ((List.range P.length).filter f).map fun k : Nat => (k : Int) := ⟨_, rfl⟩
  have Mm : ∀ x ∈ M, ∃ (j : Nat) (q : Pr), x = (j : Int) ∧ j < P.length ∧ P[j]? = some q ∧ q.1 = b := by
    rw [hM]
    intro x hx
    obtain ⟨j, hj, rfl⟩ := List.mem_map.mp hx
    obtain ⟨hj1, hj2⟩ := List.mem_filter.mp hj
    rw [List.mem_range] at hj1
    rw [hf] at hj2
    simp only [List.getElem?_eq_getElem hj1, decide_eq_true_eq] at hj2
    exact ⟨j, P[j], rfl, hj1, List.getElem?_eq_getElem hj1, hj2⟩
  have Ml : M.length ≤ 1000 := by
    rw [hM, List.length_map]
    have := List.length_filter_le f (List.range P.length)
    rw [List.length_range] at this
    omega
  have lc := lc_loop (h0 := h) (gd := fun _ => True) (T := nameG 6) (C := tbM (binM eqF (binM ixF (binM ixF (vM 0) (vM 6)) (cM (.int 0))) (binM ixF (vM 3) (cM (.int 1))))) (A := vM 6) (ds := [some (.loc l), some (.loc m), some (.int k), some (pD (a, b)), none, none, none])
    ((List.range P.length).map fun i : Nat => D.int i) ((List.range P.length).map fun j : Nat => if f j then some (D.int (j : Int)) else none) (by simp) [] (by simp; omega) (fun _ => trivial) (fun i d o acc h1 h2 => by
      have il : i < P.length := by
        have := (List.getElem?_eq_some_iff.mp h1).1
        rwa [List.length_map, List.length_range] at this
      rw [List.getElem?_map, List.getElem?_range il] at h1 h2
      cases h1
      cases h2
      have ipi := ix_pairs (e2 [.lst acc]) il
      have fpi := fP P[i] (List.getElem_mem il)
      have fi : f i = decide (P[i].1 = b) := by rw [hf]; simp only [List.getElem?_eq_getElem il]
      generalize P[i] = p2 at *
      obtain ⟨c, d⟩ := p2
      have w0 : ∀ h, ixF (pD (c, d)) (.int 0) h = some (tD c, h) := fun h => rfl
      have eq := fun h => eq_tree (h := h) (t := c) (u := b) fpi.1 fp.2.1 (by have := fpi.2.2.1; simp only at this; omega)
      unfold LcTurn
      generalize h ++ [AO.lst acc] = G at *
      generalize pD (c, d) = PC at *
      generalize pD (a, b) = PD at *
      simp only at fi
      by_cases cc : c = b
      · rw [decide_eq_true cc] at eq fi
        simp [wp_v, ipi, w0, q1, eq, fi]
      · rw [decide_eq_false cc] at eq fi
        simp [wp_v, ipi, w0, q1, eq, fi])
  rw [filterMap_range, ← hM] at lc
  have ir : inR (P.length : Int) = true := inR_of (by omega) (by omega)
  have el : (h ++ [AO.lst (M.map D.int)])[h.length]? = some (.lst (M.map D.int)) := by simp
  have le := len_lst el
  rw [List.length_map] at le
  have ne := neempty el
  simp only [List.nil_append] at lc
  refine st_guard h (by simp [wp_v, i1, m3, z1]) ?_
  by_cases mz : M = []
  · have ne : neF (.loc h.length) (.loc (h.length + 1)) ((h ++ [AO.lst (M.map D.int)]) ++ [.lst []]) = some (.bl false, (h ++ [AO.lst (M.map D.int)]) ++ [.lst []]) := by
      rw [mz] at ne ⊢
      simpa using ne
    clear hM el
    generalize AO.lst (M.map D.int) = OM at *
    generalize pD (a, b) = PD at *
    refine st_seq [some (.loc l), some (.loc m), some (.int k), some PD, none, some (.loc h.length), none] (h ++ [OM, .lst []]) ?_ ?_
    · simp at ne lc
      simp [wp_v, i1, m3, z1, lp, ir, wipeD, lc, ne]
    · simp [wp_v, q0, q1, noloc, nolocL, noloc_tD, fin]
  · have mpos : 0 < M.length := List.length_pos_iff.mpr mz
    have ne : neF (.loc h.length) (.loc (h.length + 1)) ((h ++ [AO.lst (M.map D.int)]) ++ [.lst []]) = some (.bl true, (h ++ [AO.lst (M.map D.int)]) ++ [.lst []]) := by
      have : (M.map D.int).isEmpty = false := by cases M with
        | nil => exact absurd rfl mz
        | cons _ _ => rfl
      rw [this] at ne
      simpa using ne
    have mm : ∀ i, cMod i (M.length : Int) = true := fun _ => cMod_of (by omega)
    obtain ⟨x, ix, xm⟩ := ix_int (h := h ++ [AO.lst (M.map D.int), .lst []]) (l := h.length) (ss := M) (k := x2 % (M.length : Int)) (by simp) (Int.emod_nonneg _ (by omega)) (Int.emod_lt_of_pos _ (by omega))
    obtain ⟨j, q, rfl, jl, ej, qb⟩ := Mm x xm
    have ipj := ix_pairs (e2 [AO.lst (M.map D.int), .lst []]) jl
    have gj := getP_at jl
    have eq : P[j] = q := by rw [List.getElem?_eq_getElem jl] at ej; exact Option.some.inj ej
    rw [eq] at ipj gj
    obtain ⟨c, d⟩ := q
    have w1 : ∀ h, ixF (pD (c, d)) (.int 1) h = some (tD d, h) := fun h => rfl
    have fin2 : StepQ P (.tup [.tup [.str "linked", .int k, .int j], .tup [tD a, tD d]]) := ⟨.linked k j, (a, d), rfl, by
      unfold stepP
      simp only [g, gj]
      rw [if_pos qb.symm]⟩
    have i2 := i2 [AO.lst (M.map D.int), .lst []]
    have le2 := len_lst (h := h ++ [AO.lst (M.map D.int), .lst []]) (l := h.length) (xs := M.map D.int) (by simp)
    rw [List.length_map] at le2
    clear hM el
    generalize AO.lst (M.map D.int) = OM at *
    generalize pD (a, b) = PD at *
    generalize pD (c, d) = PC at *
    simp at ne lc
    simp [wp_v, i1, i2, m3, z1, lp, ir, wipeD, lc, ne, le2, mm, ix, ipj, q0, w1, noloc, nolocL, noloc_tD, fin2]
theorem law_step_ok (n : Nat) (h : Hs) (l m : Nat) (P : List Pr) (xs : List Int) (e : h[l]? = some (.lst (P.map pD))) (ex : h[m]? = some (.lst (xs.map D.int))) (xl : xs.length = 3) (P0 : 0 < P.length) (Pz : P.length ≤ 1000) (fP : ∀ p ∈ P, p.fine) :
    (F__law_step (n + 2) [.loc l, .loc m] h).wp (fun d h' => h' = h ∧ StepQ P d) xF := by
  have b0 := Int.emod_nonneg (xs.getD 1 0) (b := 3) (by decide)
  have b1 := Int.emod_lt_of_pos (xs.getD 1 0) (b := 3) (by decide)
  rcases (show xs.getD 1 0 % 3 = 0 ∨ xs.getD 1 0 % 3 = 1 ∨ xs.getD 1 0 % 3 = 2 by omega) with z | z | z
  · exact law_step_part n h l m P xs e ex xl P0 fP z
  · exact law_step_linked n h l m P xs e ex xl P0 Pz fP z
  · exact law_step_turned n h l m P xs e ex xl P0 z
end DV
namespace DV
open PySem PySem.Spec PyProof.Rows L2
theorem kRaw_f (φ : Fm) : kRaw.f φ = φ := rfl
/-- the numbers below i that a test takes, in order -/
def picked (f : Nat → Bool) (i : Nat) : List Int := ((List.range i).filter f).map fun k : Nat => (k : Int)
theorem picked_succ (f : Nat → Bool) (i : Nat) : picked f (i + 1) = if f i = true then picked f i ++ [(i : Int)] else picked f i := by
  unfold picked
  rw [List.range_succ, List.filter_append, List.map_append]
  by_cases c : f i = true
  · rw [if_pos c]; simp [c]
  · rw [if_neg c]; simp [c]
theorem mem_picked {f : Nat → Bool} {i : Nat} {x : Int} : x ∈ picked f i ↔ ∃ j : Nat, x = (j : Int) ∧ j < i ∧ f j = true := by
  unfold picked
  constructor
  · intro hx
    obtain ⟨j, hj, rfl⟩ := List.mem_map.mp hx
    obtain ⟨h1, h2⟩ := List.mem_filter.mp hj
    exact ⟨j, rfl, List.mem_range.mp h1, h2⟩
  · rintro ⟨j, rfl, h1, h2⟩
    exact List.mem_map.mpr ⟨j, List.mem_filter.mpr ⟨List.mem_range.mpr h1, h2⟩, rfl⟩
theorem len_picked (f : Nat → Bool) (i : Nat) : (picked f i).length ≤ i := by
  unfold picked
  rw [List.length_map]
  have := List.length_filter_le f (List.range i)
  rwa [List.length_range] at this
noncomputable def uAt (P : List Pr) (j : Nat) : Bool := match P[j]? with
  | some p => bothP p && !sameP p
  | none => false
def wAt (P : List Pr) (j : Nat) : Bool := match P[j]? with
  | some p => lnk p p
  | none => false
theorem getP_nat {P : List Pr} {j : Nat} : getP P (j : Int) = P[j]? := by unfold getP; rw [if_pos (by omega), Int.toNat_natCast]
theorem endOk_u {P : List Pr} {j : Nat} : endOk P (.unlike (j : Int)) ↔ uAt P j = true := by
  show (∃ p, getP P (j : Int) = some p ∧ bothP p = true ∧ sameP p = false) ↔ _
  unfold uAt
  rw [getP_nat]
  cases P[j]? with
  | none => simp
  | some p => simp
theorem endOk_w {P : List Pr} {j lr : Nat} : endOk P (.within lr [(j : Int)]) ↔ wAt P j = true := by
  have ra : rowAt P [(j : Int)] 0 = wAt P j := by
    unfold rowAt wAt
    simp only [List.length_singleton, Nat.mod_one, List.getD_cons_zero]
    rw [getP_nat]
    cases P[j]? <;> rfl
  show goodRow P [(j : Int)] ↔ _
  unfold goodRow
  constructor
  · rintro ⟨_, g⟩
    rw [← ra]
    exact g 0 (by simp)
  · intro g
    refine ⟨by simp, fun k hk => ?_⟩
    have : k = 0 := by
      have : k < 1 := hk
      omega
    subst this
    rw [ra]; exact g
theorem kindB {t : Tr} {h : Hs} : eqF (.str (if isBk t = true then "block" else "blank")) (.str "blank") h = some (.bl (!isBk t), h) := by
  cases t
  · show eqF (.str "blank") (.str "blank") h = _
    rw [eq_strs ok_blank ok_blank, decide_eq_true rfl]; rfl
  · show eqF (.str "block") (.str "blank") h = _
    rw [eq_strs ok_block ok_blank, decide_eq_false bk_bl]; rfl
def EndQ (P : List Pr) (h : Hs) (d : D) (h' : Hs) : Prop := ∃ (ed : Ed) (b : Bool) (q : Hs), d = .tup [eD ed, .bl b] ∧ h' = h ++ q ∧ ed.inH h' ∧ (b = true ↔ endOk P ed)
theorem law_end_ok (n : Nat) (h : Hs) (l m : Nat) (P : List Pr) (xs : List Int) (e : h[l]? = some (.lst (P.map pD))) (ex : h[m]? = some (.lst (xs.map D.int))) (xl : xs.length = 3) (P0 : 0 < P.length) (Pz : P.length ≤ 1000) (fP : ∀ p ∈ P, fineK p) (hn : 90 ≤ n) :
    (F__law_end (n + 2) [.loc l, .loc m] h).wp (EndQ P h) xF := by
  rw [show F__law_end (n + 2) = _ from S__law_end (n + 1)]
  rw [kRaw_f, wp_run]
  refine ⟨rfl, ?_⟩
  unfold m__law_end
  simp only [startD, List.map_cons, List.map_nil, List.length_cons, List.length_nil]
  simp only [List.set_cons_succ, List.set_cons_zero, List.replicate, List.cons_append, List.nil_append]
  have e2 : ∀ q : Hs, (h ++ q)[l]? = some (.lst (P.map pD)) := fun q => get_app e
  have i0 : ∀ q : Hs, ixF (.loc m) (.int 0) (h ++ q) = some (.int (xs.getD 0 0), h ++ q) := fun q => ix_row (k := 0) (get_app ex) (by omega)
  have i1 : ∀ q : Hs, ixF (.loc m) (.int 1) (h ++ q) = some (.int (xs.getD 1 0), h ++ q) := fun q => ix_row (k := 1) (get_app ex) (by omega)
  have i2 : ∀ q : Hs, ixF (.loc m) (.int 2) (h ++ q) = some (.int (xs.getD 2 0), h ++ q) := fun q => ix_row (k := 2) (get_app ex) (by omega)
  generalize xs.getD 0 0 = x0 at i0
  generalize xs.getD 1 0 = x1 at i1
  generalize xs.getD 2 0 = x2 at i2
  have lp : ∀ q : Hs, lenF [.loc l] (h ++ q) = some (.int (P.length : Int), h ++ q) := fun q => by
    have := len_lst (e2 q)
    rwa [List.length_map] at this
  obtain ⟨HH, hHH⟩ : ∃ HH : Nat → Nat → Hs → Hs, HH = fun u w q => h ++ (.lst ((picked (uAt P) u).map D.int) :: .lst ((picked (wAt P) w).map D.int) :: q) := ⟨_, rfl⟩
  have hU : ∀ u w q, (HH u w q)[h.length]? = some (.lst ((picked (uAt P) u).map D.int)) := fun u w q => by rw [hHH]; simp
  have hW : ∀ u w q, (HH u w q)[h.length + 1]? = some (.lst ((picked (wAt P) w).map D.int)) := fun u w q => by rw [hHH]; simp
  have hA : ∀ u w q r, HH u w q ++ r = HH u w (q ++ r) := fun u w q r => by rw [hHH]; simp
  have hL : ∀ u w q, ∃ r, HH u w q = h ++ r := fun u w q => by rw [hHH]; exact ⟨_, rfl⟩
  have e3 : ∀ u w q, (HH u w q)[l]? = some (.lst (P.map pD)) := fun u w q => by obtain ⟨r, hr⟩ := hL u w q; rw [hr]; exact e2 r
  have i0 : ∀ u w q, ixF (.loc m) (.int 0) (HH u w q) = some (.int x0, HH u w q) := fun u w q => by obtain ⟨r, hr⟩ := hL u w q; rw [hr]; exact i0 r
  have i1 : ∀ u w q, ixF (.loc m) (.int 1) (HH u w q) = some (.int x1, HH u w q) := fun u w q => by obtain ⟨r, hr⟩ := hL u w q; rw [hr]; exact i1 r
  have i2 : ∀ u w q, ixF (.loc m) (.int 2) (HH u w q) = some (.int x2, HH u w q) := fun u w q => by obtain ⟨r, hr⟩ := hL u w q; rw [hr]; exact i2 r
  have lp : ∀ u w q, lenF [.loc l] (HH u w q) = some (.int (P.length : Int), HH u w q) := fun u w q => by obtain ⟨r, hr⟩ := hL u w q; rw [hr]; exact lp r
  have ir : inR (P.length : Int) = true := inR_of (by omega) (by omega)
  refine st_set (.loc h.length) (h ++ [.lst []]) (by simp [wp_v]) ?_
  refine st_set (.loc (h.length + 1)) (HH 0 0 []) (by rw [hHH]; simp [wp_v, picked]) ?_
  simp only [List.set_cons_succ, List.set_cons_zero]
  obtain ⟨J, hJ⟩ : ∃ J : Nat → Sl → Hs → Prop, J = fun i ds h' => ∃ (q : Hs) (x y z : Option D), h' = HH i i q ∧ ds = [some (.loc l), some (.loc m), some (.loc h.length), some (.loc (h.length + 1)), x, y, z] := ⟨_, rfl⟩
  refine st_for ((List.range P.length).map fun i : Nat => D.int i) (fun _ => True) (HH 0 0 []) J (by simp [wp_v, lp, ir]) (by rw [hJ]; exact ⟨[], none, none, none, rfl, rfl⟩) (fun _ _ _ _ => trivial) ?_ ?_
  · intro i d ds h' hi hj
    rw [hJ] at hj
    obtain ⟨q, x, y, z, rfl, rfl⟩ := hj
    have il : i < P.length := by
      have := (List.getElem?_eq_some_iff.mp hi).1
      rwa [List.length_map, List.length_range] at this
    rw [List.getElem?_map, List.getElem?_range il] at hi
    cases hi
    have ipi := fun w => ix_pairs (e3 i w q) il
    have ipi2 := fun w => ix_pairs (e3 (i + 1) w q) il
    have fp := fP P[i] (List.getElem_mem il)
    have uI : uAt P i = (bothP P[i] && !sameP P[i]) := by unfold uAt; rw [List.getElem?_eq_getElem il]
    have wI : wAt P i = lnk P[i] P[i] := by unfold wAt; rw [List.getElem?_eq_getElem il]
    have sm := fun h => law_same_ok n h P[i] fp.1
    have pu := picked_succ (uAt P) i
    have pw := picked_succ (wAt P) i
    have plu := len_picked (uAt P) i
    have plw := len_picked (wAt P) i
    generalize P[i] = p at *
    obtain ⟨a, b⟩ := p
    rw [lnk_eq] at wI
    simp only at wI
    have pe : pD (a, b) = .tup [tD a, tD b] := rfl
    refine st_seq [some (.loc l), some (.loc m), some (.loc h.length), some (.loc (h.length + 1)), some (.int (i : Int)), some (tD a), some (tD b)] (HH i i q) ?_ ?_
    · simp [wp_v, ipi, pe]
    have k0 := fun h => kind0 (t := a) (h := h)
    have k1 := fun h => kind0 (t := b) (h := h)
    have z0 := fun h => kindE (t := a) (h := h)
    have z1 := fun h => kindE (t := b) (h := h)
    have y0 := fun h => kindB (t := a) (h := h)
    have bo := fun h => blanks2_ok (n + 1) h b (by have := fp.1.2.2.2; simp only at this; omega) (by have := fp.2.2; simp only at this; omega)
    generalize hka : (if isBk a = true then ("block" : Str) else "blank") = ka at k0 z0 y0
    generalize hkb : (if isBk b = true then ("block" : Str) else "blank") = kb at k1 z1
    refine st_seq [some (.loc l), some (.loc m), some (.loc h.length), some (.loc (h.length + 1)), some (.int (i : Int)), some (tD a), some (tD b)] (HH (i + 1) i q) ?_ ?_
    · have el := hU i i q
      have ck := ck_lst el
      have ap := append_lst (v := .int (i : Int)) el (by rw [List.length_map]; omega)
      by_cases c : uAt P i = true
      · rw [if_pos c] at pu
        rw [show (HH i i q).set h.length (.lst ((picked (uAt P) i).map D.int ++ [.int (i : Int)])) = HH (i + 1) i q by rw [hHH]; simp [pu]] at ap
        rw [c] at uI
        have c1 : isBk a = true ∧ isBk b = true ∧ sameP (a, b) = false := by
          unfold bothP at uI
          simp at uI
          exact ⟨uI.1.1, uI.1.2, uI.2⟩
        obtain ⟨c1, c2, c3⟩ := c1
        simp [wp_v, k0, k1, z0, z1, c1, c2, ipi, sm, c3, truD, ck, ap]
      · rw [if_neg c] at pu
        have eH : HH (i + 1) i q = HH i i q := by rw [hHH]; simp only [pu]
        rw [eH]
        have c : uAt P i = false := by simpa using c
        rw [c] at uI
        cases c1 : isBk a with
        | false => simp [wp_v, k0, k1, z0, z1, c1]
        | true =>
          cases c2 : isBk b with
          | false => simp [wp_v, k0, k1, z0, z1, c1, c2]
          | true =>
            have c3 : sameP (a, b) = true := by
              unfold bothP at uI
              simpa [c1, c2] using uI
            simp [wp_v, k0, k1, z0, z1, c1, c2, ipi, sm, c3, truD]
    · have stp : ∀ q', J (i + 1) [some (.loc l), some (.loc m), some (.loc h.length), some (.loc (h.length + 1)), some (.int (i : Int)), some (tD a), some (tD b)] (HH (i + 1) (i + 1) q') := fun q' => by rw [hJ]; exact ⟨q', _, _, _, rfl, rfl⟩
      by_cases c1 : isBk a = true
      · have wF : ¬ wAt P i = true := by rw [wI, c1]; simp
        rw [if_neg wF] at pw
        have eH : HH (i + 1) (i + 1) q = HH (i + 1) i q := by rw [hHH]; simp only [pw]
        have stp := stp q
        rw [eH] at stp
        simp [wp_v, k0, k1, z0, z1, y0, c1, stp]
      · have c1 : isBk a = false := by simpa using c1
        by_cases c2 : isBk b = true
        · cases a with
          | bk s ps => cases c1
          | bl y =>
            have kD : ∀ h, ixF (tD (.bl y)) (.int 1) h = some (.int y, h) := fun h => rfl
            have bo := bo (HH (i + 1) i q)
            rw [hA] at bo
            have ni := in_ints (h := HH (i + 1) i (q ++ [.lst (b.blanks.map D.int)])) (l := (HH (i + 1) i q).length) (k := y) (xs := b.blanks) (by rw [← hA]; simp)
            have el := hW (i + 1) i (q ++ [.lst (b.blanks.map D.int)])
            have ck := ck_lst el
            have ap := append_lst (v := .int (i : Int)) el (by rw [List.length_map]; omega)
            simp only [c1, c2] at wI
            have stp := stp (q ++ [.lst (b.blanks.map D.int)])
            generalize tD (.bl y) = DY at *
            generalize tD b = DB at *
            by_cases c3 : y ∈ b.blanks
            · rw [decide_eq_true c3] at wI ni
              have wI : wAt P i = true := by simpa using wI
              rw [if_pos wI] at pw
              rw [show (HH (i + 1) i (q ++ [.lst (b.blanks.map D.int)])).set (h.length + 1) (.lst ((picked (wAt P) i).map D.int ++ [.int (i : Int)])) = HH (i + 1) (i + 1) (q ++ [.lst (b.blanks.map D.int)]) by rw [hHH]; simp [pw]] at ap
              simp [wp_v, k0, k1, z0, z1, y0, c1, c2, kD, bo, ni, ck, ap, stp]
            · rw [decide_eq_false c3] at wI ni
              have wI : ¬ wAt P i = true := by rw [wI]; simp
              rw [if_neg wI] at pw
              have eH : HH (i + 1) (i + 1) (q ++ [.lst (b.blanks.map D.int)]) = HH (i + 1) i (q ++ [.lst (b.blanks.map D.int)]) := by rw [hHH]; simp only [pw]
              rw [eH] at stp
              simp [wp_v, k0, k1, z0, z1, y0, c1, c2, kD, bo, ni, stp]
        · have c2 : isBk b = false := by simpa using c2
          have wF : ¬ wAt P i = true := by rw [wI, c2]; simp
          rw [if_neg wF] at pw
          have eH : HH (i + 1) (i + 1) q = HH (i + 1) i q := by rw [hHH]; simp only [pw]
          have stp := stp q
          rw [eH] at stp
          simp [wp_v, k0, k1, z0, z1, y0, c1, c2, stp]
  · intro ds h' hj
    rw [hJ] at hj
    obtain ⟨q, x, y, z, rfl, rfl⟩ := hj
    rw [List.length_map, List.length_range]
    have i0 := i0 P.length P.length
    have i1 := i1 P.length P.length
    have i2 := i2 P.length P.length
    have lp := lp P.length P.length
    have hU := hU P.length P.length
    have hW := hW P.length P.length
    have hA := hA P.length P.length
    have hL : ∀ q, ∃ r, HH P.length P.length q = h ++ r := hL P.length P.length
    have lU : ∀ q, lenF [.loc h.length] (HH P.length P.length q) = some (.int ((picked (uAt P) P.length).length : Int), HH P.length P.length q) := fun q => by
      have := len_lst (hU q)
      rwa [List.length_map] at this
    have lW : ∀ q, lenF [.loc (h.length + 1)] (HH P.length P.length q) = some (.int ((picked (wAt P) P.length).length : Int), HH P.length P.length q) := fun q => by
      have := len_lst (hW q)
      rwa [List.length_map] at this
    have neU : ∀ q, neF (.loc h.length) (.loc (HH P.length P.length q).length) (HH P.length P.length (q ++ [.lst []])) = some (.bl (!((picked (uAt P) P.length).map D.int).isEmpty), HH P.length P.length (q ++ [.lst []])) := fun q => by
      have := neempty (hU q); rwa [hA] at this
    have neW : ∀ q, neF (.loc (h.length + 1)) (.loc (HH P.length P.length q).length) (HH P.length P.length (q ++ [.lst []])) = some (.bl (!((picked (wAt P) P.length).map D.int).isEmpty), HH P.length P.length (q ++ [.lst []])) := fun q => by
      have := neempty (hW q); rwa [hA] at this
    have mU : ∀ x, x ∈ picked (uAt P) P.length ↔ ∃ j : Nat, x = (j : Int) ∧ j < P.length ∧ uAt P j = true := fun x => mem_picked
    have mW : ∀ x, x ∈ picked (wAt P) P.length ↔ ∃ j : Nat, x = (j : Int) ∧ j < P.length ∧ wAt P j = true := fun x => mem_picked
    clear hJ hHH
    generalize hHP : HH P.length P.length = HP at *
    generalize picked (uAt P) P.length = U at *
    generalize picked (wAt P) P.length = W at *
    have m2 : ∀ i, cMod i 2 = true := fun _ => cMod_of (by decide)
    have isE : ∀ (L : List Int), L ≠ [] → (L.map D.int).isEmpty = false := fun L z => by
      cases L with
      | nil => exact absurd rfl z
      | cons _ _ => rfl
    have lenA : ∀ q (r : AO), (HP (q ++ [r]))[(HP q).length]? = some r := fun q r => by rw [← hA]; simp
    have lenS : ∀ q (r : AO), (HP (q ++ [r])).length = (HP q).length + 1 := fun q r => by rw [← hA]; simp
    by_cases cW : x0 % 2 = 0 ∧ W ≠ []
    · obtain ⟨ca, cb⟩ := cW
      have Wp : 0 < W.length := List.length_pos_iff.mpr cb
      have mm : ∀ i, cMod i (W.length : Int) = true := fun _ => cMod_of (by
        have : ∀ x ∈ W, True := fun _ _ => trivial
        omega)
      obtain ⟨v, iv, vm⟩ := ix_int (k := x1 % (W.length : Int)) (hW (q ++ [.lst []])) (Int.emod_nonneg _ (by omega)) (Int.emod_lt_of_pos _ (by omega))
      obtain ⟨j, rfl, jl, jw⟩ := (mW v).mp vm
      have neW := neW q
      rw [isE W cb] at neW
      have fin : EndQ P h (.tup [.tup [.str "within", .loc ((HP q).length + 1)], .bl true]) (HP (q ++ [.lst []] ++ [.lst [.int (j : Int)]])) := by
        obtain ⟨r, hr⟩ := hL (q ++ [.lst []] ++ [.lst [.int (j : Int)]])
        refine ⟨.within ((HP q).length + 1) [(j : Int)], true, r, rfl, hr, ⟨?_, by simp⟩, ?_⟩
        · have := lenA (q ++ [.lst []]) (.lst [.int (j : Int)])
          rw [lenS] at this
          exact this
        · rw [endOk_w]; simp [jw]
      have iv := iv
      have i1 := i1 (q ++ [.lst []])
      have lW := lW (q ++ [.lst []])
      have hA2 := hA q [.lst []]
      have hA3 := hA (q ++ [.lst []]) [.lst [.int (j : Int)]]
      have lenS := lenS q (.lst [])
      simp [wp_v, i0, m2, ca, hA2, neW, i1, lW, mm, iv, hA3, lenS]
      simpa using fin
    · obtain ⟨q1, g1⟩ : ∃ q1, ((andM (tbM (binM eqF (binM modF (binM ixF (vM 1) (cM (.int 0))) (cM (.int 2))) (cM (.int 0)))) (tbM (binM neF (vM 3) (argM lstF (nilA))))) [some (.loc l), some (.loc m), some (.loc h.length), some (.loc (h.length + 1)), x, y, z] (HP q)).wp (fun a' h' => a' = false ∧ h' = HP q1) xF := by
        by_cases ca : x0 % 2 = 0
        · have cb : W = [] := Classical.byContradiction fun z => cW ⟨ca, z⟩
          refine ⟨q ++ [.lst []], ?_⟩
          have neW := neW q
          rw [cb] at neW
          have hA2 := hA q [.lst []]
          simp at neW
          simp [wp_v, i0, m2, ca, hA2, neW]
        · exact ⟨q, by simp [wp_v, i0, m2, ca]⟩
      refine st_guard (HP q1) g1 ?_
      by_cases cU : U = []
      · refine st_guard (HP (q1 ++ [.lst []])) ?_ ?_
        · have neU := neU q1
          have hA2 := hA q1 [.lst []]
          rw [cU] at neU
          simp at neU
          simp [wp_v, hA2, neU]
        have mp : ∀ i, cMod i (P.length : Int) = true := fun _ => cMod_of (by omega)
        have b0 := Int.emod_nonneg x1 (b := (P.length : Int)) (by omega)
        have b1 := Int.emod_lt_of_pos x1 (b := (P.length : Int)) (by omega)
        obtain ⟨k, hk⟩ : ∃ k : Nat, x1 % (P.length : Int) = (k : Int) := ⟨(x1 % (P.length : Int)).toNat, by omega⟩
        have kl : k < P.length := by omega
        obtain ⟨Q1, hQ1⟩ : ∃ Q1, Q1 = q1 ++ [AO.lst []] := ⟨_, rfl⟩
        rw [← hQ1]
        refine st_set (.int (k : Int)) (HP Q1) (by simp [wp_v, i1, lp, mp, hk]) ?_
        simp only [List.set_cons_succ, List.set_cons_zero]
        obtain ⟨A1, hA1⟩ : ∃ A1, A1 = AO.lst [.int (k : Int)] := ⟨_, rfl⟩
        obtain ⟨d0, hd0⟩ : ∃ d0, d0 = D.tup [.str "unlike", .int (k : Int)] := ⟨_, rfl⟩
        obtain ⟨d1, hd1⟩ : ∃ d1, d1 = D.tup [.str "within", .loc (HP Q1).length] := ⟨_, rfl⟩
        have nU := in_ints (k := (k : Int)) (hU (Q1 ++ [A1] ++ [.lst [d0, d1]]))
        have nW := in_ints (k := (k : Int)) (hW (Q1 ++ [A1] ++ [.lst [d0, d1]]))
        generalize hbu : decide ((k : Int) ∈ U) = bu at nU
        generalize hbw : decide ((k : Int) ∈ W) = bw at nW
        have hu : bu = true ↔ endOk P (.unlike (k : Int)) := by
          rw [endOk_u, ← hbu, decide_eq_true_eq, mU]
          constructor
          · rintro ⟨j, ej, _, w⟩
            have : j = k := by omega
            subst this; exact w
          · exact fun w => ⟨k, rfl, kl, w⟩
        have hw : bw = true ↔ endOk P (.within (HP Q1).length [(k : Int)]) := by
          rw [endOk_w, ← hbw, decide_eq_true_eq, mW]
          constructor
          · rintro ⟨j, ej, _, w⟩
            have : j = k := by omega
            subst this; exact w
          · exact fun w => ⟨k, rfl, kl, w⟩
        obtain ⟨r, hr⟩ := hL (Q1 ++ [A1] ++ [.lst [d0, d1]] ++ [.lst [.bl bu, .bl bw]])
        have fin0 : EndQ P h (.tup [d0, .bl bu]) (HP (Q1 ++ [A1] ++ [.lst [d0, d1]] ++ [.lst [.bl bu, .bl bw]])) := ⟨.unlike (k : Int), bu, r, by rw [hd0]; rfl, hr, trivial, hu⟩
        have fin1 : EndQ P h (.tup [d1, .bl bw]) (HP (Q1 ++ [A1] ++ [.lst [d0, d1]] ++ [.lst [.bl bu, .bl bw]])) := ⟨.within (HP Q1).length [(k : Int)], bw, r, by rw [hd1]; rfl, hr, ⟨by
          have := lenA Q1 A1
          have := get_app (r := [.lst [d0, d1]] ++ [.lst [.bl bu, .bl bw]]) this
          rw [hA] at this
          rw [show Q1 ++ [A1] ++ ([AO.lst [d0, d1]] ++ [.lst [.bl bu, .bl bw]]) = Q1 ++ [A1] ++ [.lst [d0, d1]] ++ [.lst [.bl bu, .bl bw]] by simp] at this
          rw [this, hA1]; rfl, by simp⟩, hw⟩
        have h1 := hA Q1 [A1]
        have h2 := hA (Q1 ++ [A1]) [.lst [d0, d1]]
        have h3 := hA (Q1 ++ [A1] ++ [.lst [d0, d1]]) [.lst [.bl bu, .bl bw]]
        have i2a := i2 (Q1 ++ [A1] ++ [.lst [d0, d1]])
        have i2b := i2 (Q1 ++ [A1])
        have i2c := i2 (Q1 ++ [A1] ++ [.lst [d0, d1]] ++ [.lst [.bl bu, .bl bw]])
        have p0 := pick0 (h := HP (Q1 ++ [A1])) (a := d0) (b := d1)
        have p1 := pick1 (h := HP (Q1 ++ [A1])) (a := d0) (b := d1)
        have r0 := pick0 (h := HP (Q1 ++ [A1] ++ [.lst [d0, d1]])) (a := .bl bu) (b := .bl bw)
        have r1 := pick1 (h := HP (Q1 ++ [A1] ++ [.lst [d0, d1]])) (a := .bl bu) (b := .bl bw)
        rw [h2] at p0 p1
        rw [h3] at r0 r1
        have T1 : (argM tupF (consA (cM (.str "unlike")) (consA (vM 4) nilA))) [some (.loc l), some (.loc m), some (.loc h.length), some (.loc (h.length + 1)), some (.int (k : Int)), y, z] (HP Q1) = .ok d0 (HP Q1) := by
          refine R.wp_eq.mp ?_
          rw [hd0]
          simp [wp_v]
        have LL : (argM lstF (consA (argM tupF (consA (cM (.str "unlike")) (consA (vM 4) nilA))) (consA (argM tupF (consA (cM (.str "within")) (consA (argM lstF (consA (vM 4) nilA)) nilA))) nilA))) [some (.loc l), some (.loc m), some (.loc h.length), some (.loc (h.length + 1)), some (.int (k : Int)), y, z] (HP Q1) = .ok (.loc (HP (Q1 ++ [A1])).length) (HP (Q1 ++ [A1] ++ [.lst [d0, d1]])) := by
          refine R.wp_eq.mp ?_
          rw [← h2, ← h1, hd0, hd1, hA1]
          simp [wp_v]
        clear hA1 hd0 hd1
        generalize (argM lstF (consA (argM tupF (consA (cM (.str "unlike")) (consA (vM 4) nilA))) (consA (argM tupF (consA (cM (.str "within")) (consA (argM lstF (consA (vM 4) nilA)) nilA))) nilA))) = LM at *
        generalize (Q1 ++ [A1]) = Q2 at *
        generalize (Q2 ++ [AO.lst [d0, d1]]) = Q3 at *
        generalize (Q3 ++ [AO.lst [.bl bu, .bl bw]]) = Q4 at *
        have LLw : ∀ (Q : D → Hs → Prop) (X : QX), (LM [some (.loc l), some (.loc m), some (.loc h.length), some (.loc (h.length + 1)), some (.int (k : Int)), y, z] (HP Q1)).wp Q X = Q (.loc (HP Q2).length) (HP Q3) := fun Q X => by rw [LL]; rfl
        have : x2 % 2 = 0 ∨ x2 % 2 = 1 := by omega
        rcases this with c | c
        · simp [wp_v, LLw, i2, m2, c, p0, nU, nW, h3, r0]
          exact fin0
        · simp [wp_v, LLw, i2, m2, c, p1, nU, nW, h3, r1]
          exact fin1
      · have Up : 0 < U.length := List.length_pos_iff.mpr cU
        have mm : ∀ i, cMod i (U.length : Int) = true := fun _ => cMod_of (by omega)
        obtain ⟨v, iv, vm⟩ := ix_int (k := x1 % (U.length : Int)) (hU (q1 ++ [.lst []])) (Int.emod_nonneg _ (by omega)) (Int.emod_lt_of_pos _ (by omega))
        obtain ⟨j, rfl, jl, jw⟩ := (mU v).mp vm
        have neU := neU q1
        rw [isE U cU] at neU
        have fin : EndQ P h (.tup [.tup [.str "unlike", .int (j : Int)], .bl true]) (HP (q1 ++ [.lst []])) := by
          obtain ⟨r, hr⟩ := hL (q1 ++ [.lst []])
          exact ⟨.unlike (j : Int), true, r, rfl, hr, trivial, by rw [endOk_u]; simp [jw]⟩
        have i1 := i1 (q1 ++ [.lst []])
        have lU := lU (q1 ++ [.lst []])
        have hA2 := hA q1 [.lst []]
        simp [wp_v, hA2, neU, i1, lU, mm, iv]
        exact fin
end DV
namespace DV
open PySem PySem.Spec PyProof.Rows L2
theorem inH_app {ed : Ed} {h q : Hs} (r : ed.inH h) : ed.inH (h ++ q) := by
  cases ed with
  | within lr row => exact ⟨get_app r.1, r.2⟩
  | _ => trivial
theorem getP_len {P : List Pr} : getP P (P.length : Int) = none := by rw [getP_nat, List.getElem?_eq_none (Nat.le_refl _)]
theorem getP_neg {P : List Pr} {k : Int} (c : k < 0) : getP P k = none := by unfold getP; rw [if_neg (by omega)]
theorem bad_unl {P : List Pr} {k : Int} (g : getP P k = none) : ¬ endOk P (.unlike k) := by
  rintro ⟨p, hp, _⟩
  rw [g] at hp; cases hp
theorem bad_wit {P : List Pr} {k : Int} {lr : Nat} (g : getP P k = none) : ¬ endOk P (.within lr [k]) := by
  rintro ⟨_, w⟩
  have := w 0 (by simp)
  unfold rowAt at this
  rw [show ([k] : List Int).getD 0 0 = k from rfl, g] at this
  cases this
def BadEdQ (P : List Pr) (h : Hs) (d : D) (h' : Hs) : Prop := ∃ (ed : Ed) (q : Hs), d = eD ed ∧ h' = h ++ q ∧ ed.inH h' ∧ ¬ endOk P ed
theorem law_bad_end_ok (n : Nat) (h : Hs) (l m : Nat) (P : List Pr) (xs : List Int) (e : h[l]? = some (.lst (P.map pD))) (ex : h[m]? = some (.lst (xs.map D.int))) (xl : xs.length = 5) (P0 : 0 < P.length) (Pz : P.length ≤ 1000) (fP : ∀ p ∈ P, fineK p) (hn : 90 ≤ n) :
    (F__law_bad_end (n + 2) [.loc l, .loc m] h).wp (BadEdQ P h) xF := by
  rw [show F__law_bad_end (n + 2) = _ from S__law_bad_end (n + 1)]
  rw [kRaw_f, wp_run]
  refine ⟨rfl, ?_⟩
  unfold m__law_bad_end
  simp only [startD, List.map_cons, List.map_nil, List.length_cons, List.length_nil]
  simp only [List.set_cons_succ, List.set_cons_zero, List.replicate, List.cons_append, List.nil_append]
  have e2 : ∀ q : Hs, (h ++ q)[l]? = some (.lst (P.map pD)) := fun q => get_app e
  have i2 : ∀ q : Hs, ixF (.loc m) (.int 2) (h ++ q) = some (.int (xs.getD 2 0), h ++ q) := fun q => ix_row (k := 2) (get_app ex) (by omega)
  generalize xs.getD 2 0 = x2 at i2
  have lp : ∀ q : Hs, lenF [.loc l] (h ++ q) = some (.int (P.length : Int), h ++ q) := fun q => by
    have := len_lst (e2 q)
    rwa [List.length_map] at this
  obtain ⟨HH, hHH⟩ : ∃ HH : List Ed → Hs → Hs, HH = fun eds q => h ++ (.lst [] :: .lst [.int (P.length : Int)] :: .lst (eds.map eD) :: q) := ⟨_, rfl⟩
  have hS : ∀ eds q, (HH eds q)[h.length + 2]? = some (.lst (eds.map eD)) := fun eds q => by rw [hHH]; simp
  have hA : ∀ eds q r, HH eds q ++ r = HH eds (q ++ r) := fun eds q r => by rw [hHH]; simp
  have hL : ∀ eds q, ∃ r, HH eds q = h ++ r := fun eds q => by rw [hHH]; exact ⟨_, rfl⟩
  have hSet : ∀ eds q ed, (HH eds q).set (h.length + 2) (.lst (eds.map eD ++ [eD ed])) = HH (eds ++ [ed]) q := fun eds q ed => by rw [hHH]; simp
  have hLen : ∀ eds q, (HH eds q).length = h.length + 3 + q.length := fun eds q => by rw [hHH]; simp; omega
  have e3 : ∀ eds q, (HH eds q)[l]? = some (.lst (P.map pD)) := fun eds q => by obtain ⟨r, hr⟩ := hL eds q; rw [hr]; exact e2 r
  have i2 : ∀ eds q, ixF (.loc m) (.int 2) (HH eds q) = some (.int x2, HH eds q) := fun eds q => by obtain ⟨r, hr⟩ := hL eds q; rw [hr]; exact i2 r
  have lpH : ∀ eds q, lenF [.loc l] (HH eds q) = some (.int (P.length : Int), HH eds q) := fun eds q => by obtain ⟨r, hr⟩ := hL eds q; rw [hr]; exact lp r
  have ir : inR (P.length : Int) = true := inR_of (by omega) (by omega)
  obtain ⟨E0, hE0⟩ : ∃ E0 : List Ed, E0 = [.unlike (P.length : Int), .within h.length [], .within (h.length + 1) [(P.length : Int)], .alike, .unlike (-1)] := ⟨_, rfl⟩
  have lp0 := lp []
  rw [List.append_nil] at lp0
  have lp1 := lp [.lst []]
  refine st_set (.loc (h.length + 2)) (HH E0 []) (by rw [hHH, hE0]; simp [wp_v, lp0, lp1, eD]) ?_
  simp only [List.set_cons_succ, List.set_cons_zero]
  refine st_seq [some (.loc l), some (.loc m), some (.loc (h.length + 2)), none, none, none] (HH (E0 ++ [.within (h.length + 3) [-1]]) [.lst [.int (-1)]]) ?_ ?_
  · have el := hS E0 [.lst [.int (-1)]]
    have ck := ck_lst el
    have ap := append_lst (v := .tup [.str "within", .loc (h.length + 3)]) el (by rw [hE0]; simp)
    have hSet := hSet E0 [.lst [.int (-1)]] (.within (h.length + 3) [-1])
    rw [show (eD (.within (h.length + 3) [-1])) = .tup [.str "within", .loc (h.length + 3)] from rfl] at hSet
    rw [hSet] at ap
    have hA := hA E0 [] [.lst [.int (-1)]]
    have hLen := hLen E0 []
    simp at hA hLen
    have ck0 := ck_lst (hS E0 [])
    clear hHH hE0
    generalize HH E0 [] = G0 at *
    simp [wp_v, ck0, hLen, hA, ck, ap]
  obtain ⟨good, hgood⟩ : ∃ good : List Ed → Hs → Prop, good = fun eds q => ∀ ed ∈ eds, (∀ eds', ed.inH (HH eds' q)) ∧ ¬ endOk P ed := ⟨_, rfl⟩
  have goodA : ∀ eds q r, good eds q → good eds (q ++ r) := fun eds q r g => by
    rw [hgood] at g ⊢
    intro ed hed
    obtain ⟨g1, g2⟩ := g ed hed
    exact ⟨fun eds' => by rw [← hA]; exact inH_app (g1 eds'), g2⟩
  have goodC : ∀ eds q ed, good eds q → (∀ eds', ed.inH (HH eds' q)) → ¬ endOk P ed → good (eds ++ [ed]) q := fun eds q ed g w1 w2 => by
    rw [hgood] at g ⊢
    intro ed' hed
    rcases List.mem_append.mp hed with hed | hed
    · exact g ed' hed
    · cases List.mem_singleton.mp hed; exact ⟨w1, w2⟩
  have g0 : good (E0 ++ [.within (h.length + 3) [-1]]) [.lst [.int (-1)]] := by
    rw [hgood, hE0]
    intro ed hed
    simp only [List.cons_append, List.nil_append, List.mem_cons, List.not_mem_nil, or_false] at hed
    rcases hed with rfl | rfl | rfl | rfl | rfl | rfl
    · exact ⟨fun _ => trivial, bad_unl getP_len⟩
    · exact ⟨fun _ => ⟨by rw [hHH]; simp, by simp⟩, fun w => w.1 rfl⟩
    · exact ⟨fun _ => ⟨by rw [hHH]; simp, by simp⟩, bad_wit getP_len⟩
    · exact ⟨fun _ => trivial, fun w => w⟩
    · exact ⟨fun _ => trivial, bad_unl (getP_neg (by decide))⟩
    · exact ⟨fun _ => ⟨by rw [hHH]; simp, by simp⟩, bad_wit (getP_neg (by decide))⟩
  have lE : (E0 ++ [Ed.within (h.length + 3) [-1]]).length = 6 := by rw [hE0]; rfl
  generalize E0 ++ [Ed.within (h.length + 3) [-1]] = E1 at *
  obtain ⟨J, hJ⟩ : ∃ J : Nat → Sl → Hs → Prop, J = fun i ds h' => ∃ (eds : List Ed) (q : Hs) (x y z : Option D), good eds q ∧ 1 ≤ eds.length ∧ eds.length ≤ 6 + 2 * i ∧ h' = HH eds q ∧ ds = [some (.loc l), some (.loc m), some (.loc (h.length + 2)), x, y, z] := ⟨_, rfl⟩
  refine st_for ((List.range P.length).map fun i : Nat => D.int i) (fun _ => True) (HH E1 [.lst [.int (-1)]]) J (by simp [wp_v, lpH, ir]) (by rw [hJ]; exact ⟨E1, _, none, none, none, g0, by omega, by omega, rfl, rfl⟩) (fun _ _ _ _ => trivial) ?_ ?_
  · intro i d ds h' hi hj
    rw [hJ] at hj
    obtain ⟨eds, q, x, y, z, gq, l1, l2, rfl, rfl⟩ := hj
    have il : i < P.length := by
      have := (List.getElem?_eq_some_iff.mp hi).1
      rwa [List.length_map, List.length_range] at this
    rw [List.getElem?_map, List.getElem?_range il] at hi
    cases hi
    have ipi := fun eds q => ix_pairs (e3 eds q) il
    have fp := fP P[i] (List.getElem_mem il)
    have uI : uAt P i = (bothP P[i] && !sameP P[i]) := by unfold uAt; rw [List.getElem?_eq_getElem il]
    have wI : wAt P i = lnk P[i] P[i] := by unfold wAt; rw [List.getElem?_eq_getElem il]
    have sm := fun h => law_same_ok n h P[i] fp.1
    generalize P[i] = p at *
    obtain ⟨a, b⟩ := p
    rw [lnk_eq] at wI
    simp only at wI
    have pe : pD (a, b) = .tup [tD a, tD b] := rfl
    have pe2 : ixF (.loc l) (.int (i : Int)) (HH eds q) = some (.tup [tD a, tD b], HH eds q) := ipi eds q
    refine st_seq [some (.loc l), some (.loc m), some (.loc (h.length + 2)), some (.int (i : Int)), some (tD a), some (tD b)] (HH eds q) ?_ ?_
    · simp [wp_v, pe2]
    have k0 := fun h => kind0 (t := a) (h := h)
    have k1 := fun h => kind0 (t := b) (h := h)
    have z0 := fun h => kindE (t := a) (h := h)
    have y1 := fun h => kindB (t := b) (h := h)
    have y0 := fun h => kindB (t := a) (h := h)
    have bo := fun h => blanks2_ok (n + 1) h b (by have := fp.1.2.2.2; simp only at this; omega) (by have := fp.2.2; simp only at this; omega)
    generalize hka : (if isBk a = true then ("block" : Str) else "blank") = ka at k0 z0 y0
    generalize hkb : (if isBk b = true then ("block" : Str) else "blank") = kb at k1 y1
    obtain ⟨eds1, he1⟩ : ∃ eds1 : List Ed, eds1 = if uAt P i = true then eds else eds ++ [.unlike (i : Int)] := ⟨_, rfl⟩
    have ge1 : good eds1 q ∧ 1 ≤ eds1.length ∧ eds1.length ≤ 6 + 2 * i + 1 := by
      rw [he1]
      split
      · exact ⟨gq, l1, by omega⟩
      · rename_i c
        exact ⟨goodC _ _ _ gq (fun _ => trivial) (by rw [endOk_u]; exact c), by simp, by simp; omega⟩
    refine st_seq [some (.loc l), some (.loc m), some (.loc (h.length + 2)), some (.int (i : Int)), some (tD a), some (tD b)] (HH eds1 q) ?_ ?_
    · have el := hS eds q
      have ck := ck_lst el
      have ap := append_lst (v := .tup [.str "unlike", .int (i : Int)]) el (by rw [List.length_map]; omega)
      have hSet := hSet eds q (.unlike (i : Int))
      rw [show (eD (.unlike (i : Int))) = .tup [.str "unlike", .int (i : Int)] from rfl] at hSet
      rw [hSet] at ap
      by_cases c : uAt P i = true
      · rw [if_pos c] at he1
        rw [he1]
        rw [c] at uI
        have c1 : isBk a = true ∧ isBk b = true ∧ sameP (a, b) = false := by
          unfold bothP at uI
          simp at uI
          exact ⟨uI.1.1, uI.1.2, uI.2⟩
        obtain ⟨c1, c2, c3⟩ := c1
        have ipi := ipi eds q
        clear pe
        simp [wp_v, k0, k1, y0, y1, c1, c2, ipi, sm, c3, truD]
      · rw [if_neg c] at he1
        rw [he1]
        have c : uAt P i = false := by simpa using c
        rw [c] at uI
        have ipi := ipi eds q
        clear pe
        cases c1 : isBk a with
        | false => simp [wp_v, k0, k1, y0, y1, c1, ck, ap]
        | true =>
          cases c2 : isBk b with
          | false => simp [wp_v, k0, k1, y0, y1, c1, c2, ck, ap]
          | true =>
            have c3 : sameP (a, b) = true := by
              unfold bothP at uI
              simpa [c1, c2] using uI
            simp [wp_v, k0, k1, y0, y1, c1, c2, ipi, sm, c3, truD, ck, ap]
    · obtain ⟨ge1, le1, le2⟩ := ge1
      have stp : ∀ eds2 q', good eds2 q' → 1 ≤ eds2.length → eds2.length ≤ 6 + 2 * i + 2 → J (i + 1) [some (.loc l), some (.loc m), some (.loc (h.length + 2)), some (.int (i : Int)), some (tD a), some (tD b)] (HH eds2 q') := fun eds2 q' w1 w2 w3 => by
        rw [hJ]; exact ⟨eds2, q', _, _, _, w1, w2, by omega, rfl, rfl⟩
      -- the append of a row
      have row : ∀ q', good eds1 q' → wAt P i = false → ∃ ap : appendF (.loc (h.length + 2)) [.tup [.str "within", .loc (HH eds1 q').length]] (HH eds1 (q' ++ [.lst [.int (i : Int)]])) = some (.non, HH (eds1 ++ [.within (HH eds1 q').length [(i : Int)]]) (q' ++ [.lst [.int (i : Int)]])), good (eds1 ++ [.within (HH eds1 q').length [(i : Int)]]) (q' ++ [.lst [.int (i : Int)]]) := fun q' g w => by
        have el := hS eds1 (q' ++ [.lst [.int (i : Int)]])
        have ap := append_lst (v := .tup [.str "within", .loc (HH eds1 q').length]) el (by rw [List.length_map]; omega)
        have hSet := hSet eds1 (q' ++ [.lst [.int (i : Int)]]) (.within (HH eds1 q').length [(i : Int)])
        rw [show (eD (.within (HH eds1 q').length [(i : Int)])) = .tup [.str "within", .loc (HH eds1 q').length] from rfl] at hSet
        rw [hSet] at ap
        refine ⟨ap, goodC _ _ _ (goodA _ _ _ g) (fun eds' => ⟨?_, by simp⟩) (by rw [endOk_w, w]; simp)⟩
        rw [← hA, hLen, show h.length + 3 + q'.length = (HH eds' q').length from (hLen eds' q').symm]
        simp
      have cks : ∀ q', ckList (.loc (h.length + 2)) (HH eds1 q') = true := fun q' => ck_lst (hS eds1 q')
      by_cases c1 : isBk a = true
      · have wF : wAt P i = false := by rw [wI, c1]; simp
        obtain ⟨ap, g2⟩ := row q ge1 wF
        have stp := stp _ _ g2 (by simp) (by simp; omega)
        have hA := hA eds1 q [.lst [.int (i : Int)]]
        have cks1 := cks q
        have cks2 := cks (q ++ [.lst [.int (i : Int)]])
        generalize HH eds1 q = G1 at *
        simp [wp_v, k0, k1, z0, y1, c1, cks1, hA, cks2, ap, stp]
      · have c1 : isBk a = false := by simpa using c1
        by_cases c2 : isBk b = true
        · cases a with
          | bk s ps => cases c1
          | bl y =>
            have kD : ∀ h, ixF (tD (.bl y)) (.int 1) h = some (.int y, h) := fun h => rfl
            have bo := bo (HH eds1 q)
            rw [hA] at bo
            have ni := nin_ints (h := HH eds1 (q ++ [.lst (b.blanks.map D.int)])) (l := (HH eds1 q).length) (k := y) (xs := b.blanks) (by rw [← hA]; simp)
            simp only [c1, c2] at wI
            have ge2 := goodA eds1 q [.lst (b.blanks.map D.int)] ge1
            by_cases c3 : y ∈ b.blanks
            · rw [decide_eq_true c3] at ni
              have stp := stp _ _ ge2 le1 (by omega)
              generalize tD (.bl y) = DY at *
              generalize tD b = DB at *
              generalize HH eds1 (q ++ [.lst (b.blanks.map D.int)]) = G2 at *
              generalize HH eds1 q = G1 at *
              simp [wp_v, k0, k1, z0, y1, c1, c2, kD, bo, ni, stp]
            · rw [decide_eq_false c3] at wI ni
              have wF : wAt P i = false := by rw [wI]; simp
              obtain ⟨ap, g2⟩ := row _ ge2 wF
              have stp := stp _ _ g2 (by simp) (by simp; omega)
              have hA := hA eds1 (q ++ [.lst (b.blanks.map D.int)]) [.lst [.int (i : Int)]]
              have cks1 := cks (q ++ [.lst (b.blanks.map D.int)])
              have cks2 := cks (q ++ [.lst (b.blanks.map D.int)] ++ [.lst [.int (i : Int)]])
              generalize tD (.bl y) = DY at *
              generalize tD b = DB at *
              generalize HH eds1 (q ++ [.lst (b.blanks.map D.int)]) = G2 at *
              generalize HH eds1 q = G1 at *
              generalize q ++ [.lst (b.blanks.map D.int)] ++ [.lst [.int (i : Int)]] = Q3 at *
              simp [wp_v, k0, k1, z0, y1, c1, c2, kD, bo, ni, cks1, hA, cks2, ap, stp]
        · have c2 : isBk b = false := by simpa using c2
          have wF : wAt P i = false := by rw [wI, c2]; simp
          obtain ⟨ap, g2⟩ := row q ge1 wF
          have stp := stp _ _ g2 (by simp) (by simp; omega)
          have hA := hA eds1 q [.lst [.int (i : Int)]]
          have cks1 := cks q
          have cks2 := cks (q ++ [.lst [.int (i : Int)]])
          generalize HH eds1 q = G1 at *
          simp [wp_v, k0, k1, z0, y1, c1, c2, cks1, hA, cks2, ap, stp]
  · intro ds h' hj
    rw [hJ] at hj
    obtain ⟨eds, q, x, y, z, gq, l1, l2, rfl, rfl⟩ := hj
    have mm : ∀ i, cMod i (eds.length : Int) = true := fun _ => cMod_of (by omega)
    have b0 := Int.emod_nonneg x2 (b := (eds.length : Int)) (by omega)
    have b1 := Int.emod_lt_of_pos x2 (b := (eds.length : Int)) (by omega)
    obtain ⟨k, hk⟩ : ∃ k : Nat, x2 % (eds.length : Int) = (k : Int) := ⟨(x2 % (eds.length : Int)).toNat, by omega⟩
    have kl : k < eds.length := by omega
    have iv : ixF (.loc (h.length + 2)) (.int (k : Int)) (HH eds q) = some (eD eds[k], HH eds q) := by
      rw [ix_lst (hS eds q), atI_nat (by rw [List.length_map]; exact kl), List.getElem?_map, List.getElem?_eq_getElem kl]; rfl
    have le := len_lst (hS eds q)
    rw [List.length_map] at le
    rw [hgood] at gq
    obtain ⟨r1, r2⟩ := gq eds[k] (List.getElem_mem kl)
    obtain ⟨r, hr⟩ := hL eds q
    have fin : BadEdQ P h (eD eds[k]) (HH eds q) := ⟨eds[k], r, rfl, hr, r1 eds, r2⟩
    generalize eD eds[k] = EE at *
    have i2 := i2 eds q
    generalize HH eds q = G1 at *
    simp [wp_v, i2, le, mm, hk, iv]
    exact fin
end DV
namespace DV
open PySem PySem.Spec PyProof.Rows L2
theorem getP_big {P : List Pr} {k : Int} (c : (P.length : Int) ≤ k) : getP P k = none := by
  unfold getP
  split
  · exact List.getElem?_eq_none (by omega)
  · rfl
theorem parts9 {t : Tr} (g : t.nam) : t.parts.length ≤ 9 := by
  cases t with
  | bl _ => simp [Tr.parts]
  | bk s ps => exact g.2.1
theorem st_part_big {P : List Pr} {e k : Int} (fP : ∀ p ∈ P, p.fine) (hk : 9 ≤ k) : stepP P (.part e k) = none := by
  unfold stepP
  simp only
  cases g : getP P e with
  | none => rfl
  | some p =>
    simp only
    split
    · unfold partP
      have := parts9 (fP p (getP_mem g)).1
      rw [if_pos (by omega), List.getElem?_eq_none (show p.1.parts.length ≤ k.toNat by omega)]
    · rfl
theorem st_part_neg {P : List Pr} {e k : Int} (hk : k < 0) : stepP P (.part e k) = none := by
  unfold stepP
  simp only
  cases g : getP P e with
  | none => rfl
  | some p =>
    simp only
    split
    · unfold partP
      rw [if_neg (by omega)]
    · rfl
theorem st_part_none {P : List Pr} {e k : Int} (g : getP P e = none) : stepP P (.part e k) = none := by
  unfold stepP
  simp only [g]
theorem st_turned_none {P : List Pr} {e : Int} (g : getP P e = none) : stepP P (.turned e) = none := by
  unfold stepP
  simp only [g]
theorem st_linked_l {P : List Pr} {e f : Int} (g : getP P e = none) : stepP P (.linked e f) = none := by
  unfold stepP
  simp only [g]
theorem st_linked_r {P : List Pr} {e f : Int} (g : getP P f = none) : stepP P (.linked e f) = none := by
  unfold stepP
  simp only [g]
  cases getP P e <;> rfl
def BadStQ (P : List Pr) (d : D) : Prop := ∃ st, d = sD st ∧ stepP P st = none
theorem noloc_sD (st : Stp) : noloc (sD st) = true := by cases st <;> rfl
theorem law_bad_step_ok (n : Nat) (h : Hs) (l m : Nat) (P : List Pr) (xs : List Int) (e : h[l]? = some (.lst (P.map pD))) (ex : h[m]? = some (.lst (xs.map D.int))) (xl : xs.length = 5) (P0 : 0 < P.length) (Pz : P.length ≤ 1000) (fP : ∀ p ∈ P, p.fine) :
    (F__law_bad_step (n + 2) [.loc l, .loc m] h).wp (fun d h' => h' = h ∧ BadStQ P d) xF := by
  classical
  rw [show F__law_bad_step (n + 2) = _ from S__law_bad_step (n + 1)]
  rw [wp_pure, wp_run]
  refine ⟨rfl, ?_⟩
  unfold m__law_bad_step
  simp only [startD, List.map_cons, List.map_nil, List.length_cons, List.length_nil]
  simp only [List.set_cons_succ, List.set_cons_zero, List.replicate, List.cons_append, List.nil_append]
  have e2 : ∀ q : Hs, (h ++ q)[l]? = some (.lst (P.map pD)) := fun q => get_app e
  have i0 : ixF (.loc m) (.int 0) h = some (.int (xs.getD 0 0), h) := ix_row (k := 0) ex (by omega)
  have i1 : ∀ q : Hs, ixF (.loc m) (.int 1) (h ++ q) = some (.int (xs.getD 1 0), h ++ q) := fun q => ix_row (k := 1) (get_app ex) (by omega)
  have i1h : ixF (.loc m) (.int 1) h = some (.int (xs.getD 1 0), h) := ix_row (k := 1) ex (by omega)
  have i2 : ∀ q : Hs, ixF (.loc m) (.int 2) (h ++ q) = some (.int (xs.getD 2 0), h ++ q) := fun q => ix_row (k := 2) (get_app ex) (by omega)
  generalize xs.getD 0 0 = x0 at i0
  generalize xs.getD 1 0 = x1 at i1 i1h
  generalize xs.getD 2 0 = x2 at i2
  have lp := len_lst e
  rw [List.length_map] at lp
  have m3 : ∀ i, cMod i 3 = true := fun _ => cMod_of (by decide)
  have m9 : ∀ i, cMod i 9 = true := fun _ => cMod_of (by decide)
  have mp : ∀ i, cMod i (P.length : Int) = true := fun _ => cMod_of (by omega)
  have ir : inR (P.length : Int) = true := inR_of (by omega) (by omega)
  have b0 := Int.emod_nonneg x0 (b := (P.length : Int)) (by omega)
  have b1 := Int.emod_lt_of_pos x0 (b := (P.length : Int)) (by omega)
  obtain ⟨k, hk⟩ : ∃ k : Nat, x0 % (P.length : Int) = (k : Int) := ⟨(x0 % (P.length : Int)).toNat, by omega⟩
  have kl : k < P.length := by omega
  have c0 := Int.emod_nonneg x1 (b := 3) (by decide)
  have c1 := Int.emod_nonneg x1 (b := 9) (by decide)
  refine st_set (.int (P.length : Int)) h (by simp [wp_v, lp]) ?_
  refine st_set (.int (k : Int)) h (by simp [wp_v, i0, mp, hk]) ?_
  simp only [List.set_cons_succ, List.set_cons_zero]
  obtain ⟨S1, hS1⟩ : ∃ S1 : List Stp, S1 = [.part k (9 + x1 % 3), .turned P.length, .linked k P.length, .turned (-1 - x1 % 3)] := ⟨_, rfl⟩
  obtain ⟨S2, hS2⟩ : ∃ S2 : List Stp, S2 = [.joined k 0, .part k (-1), .linked ((P.length : Int) + 1 + x1 % 9) k, .part P.length 0] := ⟨_, rfl⟩
  obtain ⟨S3, hS3⟩ : ∃ S3 : List Stp, S3 = [.part (-1 - x1 % 3) 0, .linked k (-1 - x1 % 3), .linked (-1 - x1 % 3) k] := ⟨_, rfl⟩
  refine st_set (.loc h.length) (h ++ [.lst (S1.map sD)]) (by rw [hS1]; simp [wp_v, i1h, m3, sD]) ?_
  simp only [List.set_cons_succ, List.set_cons_zero]
  have ad1 := add_lsts (h := h ++ [AO.lst (S1.map sD), .lst (S2.map sD)]) (i := h.length) (j := h.length + 1) (xs := S1.map sD) (ys := S2.map sD) (by simp) (by simp) (by rw [hS1, hS2]; simp)
  refine st_set (.loc (h.length + 2)) (h ++ [.lst (S1.map sD), .lst (S2.map sD), .lst ((S1 ++ S2).map sD)]) ?_ ?_
  · have i1 := i1 [.lst (S1.map sD)]
    have l2 : [D.tup [.str "joined", .int k, .int 0], .tup [.str "part", .int k, .int (-1)], .tup [.str "linked", .int ((P.length : Int) + 1 + x1 % 9), .int k], .tup [.str "part", .int (P.length : Int), .int 0]] = S2.map sD := by rw [hS2]; rfl
    rw [show (h ++ [AO.lst (S1.map sD), .lst (S2.map sD)]).length = h.length + 2 by simp, ← List.map_append] at ad1
    clear hS1 hS2 hS3
    generalize AO.lst ((S1 ++ S2).map sD) = O3 at *
    generalize AO.lst (S1.map sD) = O1 at *
    generalize S2.map sD = T2 at *
    simp at ad1
    simp [wp_v, i1, m9, l2, ad1]
  simp only [List.set_cons_succ, List.set_cons_zero]
  obtain ⟨O1, hO1⟩ : ∃ O1, O1 = AO.lst (S1.map sD) := ⟨_, rfl⟩
  obtain ⟨O2, hO2⟩ : ∃ O2, O2 = AO.lst (S2.map sD) := ⟨_, rfl⟩
  obtain ⟨O3, hO3⟩ : ∃ O3, O3 = AO.lst ((S1 ++ S2).map sD) := ⟨_, rfl⟩
  obtain ⟨O4, hO4⟩ : ∃ O4, O4 = AO.lst (S3.map sD) := ⟨_, rfl⟩
  have ad2 := add_lsts (h := h ++ [O1, O2, O3, O4]) (i := h.length + 2) (j := h.length + 3) (xs := (S1 ++ S2).map sD) (ys := S3.map sD) (by rw [hO3]; simp) (by rw [hO4]; simp) (by rw [hS1, hS2, hS3]; simp)
  rw [← hO1, ← hO2, ← hO3]
  obtain ⟨HH, hHH⟩ : ∃ HH : List Stp → Hs, HH = fun sts => h ++ [O1, O2, O3, O4, .lst (sts.map sD)] := ⟨_, rfl⟩
  refine st_set (.loc (h.length + 4)) (HH (S1 ++ S2 ++ S3)) ?_ ?_
  · have i1 := i1 [O1, O2, O3]
    have l3 : [D.tup [.str "part", .int (-1 - x1 % 3), .int 0], .tup [.str "linked", .int k, .int (-1 - x1 % 3)], .tup [.str "linked", .int (-1 - x1 % 3), .int k]] = S3.map sD := by rw [hS3]; rfl
    rw [hHH]
    rw [show (h ++ [O1, O2, O3, O4]).length = h.length + 4 by simp, ← List.map_append] at ad2
    simp only
    clear hS1 hS2 hS3 hO1 hO2 hO3
    generalize AO.lst ((S1 ++ S2 ++ S3).map sD) = O5 at *
    generalize S3.map sD = T3 at *
    subst hO4
    simp at ad2
    simp [wp_v, i1, m3, l3, ad2]
  simp only [List.set_cons_succ, List.set_cons_zero]
  have bad0 : ∀ st ∈ S1 ++ S2 ++ S3, stepP P st = none := by
    rw [hS1, hS2, hS3]
    intro st hst
    simp only [List.cons_append, List.nil_append, List.mem_cons, List.not_mem_nil, or_false] at hst
    rcases hst with rfl | rfl | rfl | rfl | rfl | rfl | rfl | rfl | rfl | rfl | rfl
    · exact st_part_big fP (by omega)
    · exact st_turned_none getP_len
    · exact st_linked_r getP_len
    · exact st_turned_none (getP_neg (by omega))
    · rfl
    · exact st_part_neg (by decide)
    · exact st_linked_l (getP_big (by omega))
    · exact st_part_none getP_len
    · exact st_part_none (getP_neg (by omega))
    · exact st_linked_r (getP_neg (by omega))
    · exact st_linked_l (getP_neg (by omega))
  have l0 : (S1 ++ S2 ++ S3).length = 11 := by rw [hS1, hS2, hS3]; rfl
  generalize S1 ++ S2 ++ S3 = S0 at bad0 l0
  clear ad1 ad2 hO1 hO2 hO3 hO4 hS1 hS2 hS3
  have hS : ∀ sts, (HH sts)[h.length + 4]? = some (.lst (sts.map sD)) := fun sts => by rw [hHH]; simp
  have hSet : ∀ sts st, (HH sts).set (h.length + 4) (.lst (sts.map sD ++ [sD st])) = HH (sts ++ [st]) := fun sts st => by rw [hHH]; simp
  have hT : ∀ sts, (HH sts).take h.length = h := fun sts => by rw [hHH]; simp
  have e3 : ∀ sts, (HH sts)[l]? = some (.lst (P.map pD)) := fun sts => by rw [hHH]; exact e2 _
  have i1 : ∀ sts, ixF (.loc m) (.int 1) (HH sts) = some (.int x1, HH sts) := fun sts => by rw [hHH]; exact i1 _
  have i2 : ∀ sts, ixF (.loc m) (.int 2) (HH sts) = some (.int x2, HH sts) := fun sts => by rw [hHH]; exact i2 _
  clear hHH
  have fpk := fP P[k] (List.getElem_mem kl)
  have gk := getP_at kl
  have ipk := fun sts => ix_pairs (e3 sts) kl
  generalize P[k] = pk at fpk gk ipk
  obtain ⟨ak, bk⟩ := pk
  have q1 : ∀ h, ixF (pD (ak, bk)) (.int 1) h = some (tD bk, h) := fun h => rfl
  generalize pD (ak, bk) = PK at *
  obtain ⟨J, hJ⟩ : ∃ J : Nat → Sl → Hs → Prop, J = fun i ds h' => ∃ (sts : List Stp) (x y : Option D), (∀ st ∈ sts, stepP P st = none) ∧ 1 ≤ sts.length ∧ sts.length ≤ 11 + 3 * i ∧ h' = HH sts ∧ ds = [some (.loc l), some (.loc m), some (.int (P.length : Int)), some (.int (k : Int)), some (.loc (h.length + 4)), x, y] := ⟨_, rfl⟩
  refine st_for ((List.range P.length).map fun i : Nat => D.int i) (fun _ => True) (HH S0) J (by simp [wp_v, ir]) (by rw [hJ]; exact ⟨S0, none, none, bad0, by omega, by omega, rfl, rfl⟩) (fun _ _ _ _ => trivial) ?_ ?_
  · intro i d ds h' hi hj
    rw [hJ] at hj
    obtain ⟨sts, x, y, bad, l1, l2, rfl, rfl⟩ := hj
    have il : i < P.length := by
      have := (List.getElem?_eq_some_iff.mp hi).1
      rwa [List.length_map, List.length_range] at this
    rw [List.getElem?_map, List.getElem?_range il] at hi
    cases hi
    have ipi := fun sts => ix_pairs (e3 sts) il
    have fp := fP P[i] (List.getElem_mem il)
    have gi := getP_at il
    have sm := fun h => law_same_ok n h P[i] fp
    generalize P[i] = p at *
    obtain ⟨a, b⟩ := p
    have q0 : ∀ h, ixF (pD (a, b)) (.int 0) h = some (tD a, h) := fun h => rfl
    have it : ∀ h, itsF (pD (a, b)) h = some ([tD a, tD b], fun _ => True) := fun h => rfl
    have ne := fun h => ne_tree (h := h) (t := a) (u := bk) fp.1 fpk.2.1 (by have := fp.2.2.1; simp only at this; omega)
    have apS : ∀ sts st, sts.length ≤ 100000 → appendF (.loc (h.length + 4)) [sD st] (HH sts) = some (.non, HH (sts ++ [st])) := fun sts st z => by
      have := append_lst (v := sD st) (hS sts) (by rw [List.length_map]; omega)
      rwa [hSet] at this
    have ckS : ∀ sts, ckList (.loc (h.length + 4)) (HH sts) = true := fun sts => ck_lst (hS sts)
    have badC : ∀ (sts : List Stp) (st : Stp), (∀ s ∈ sts, stepP P s = none) → stepP P st = none → ∀ s ∈ sts ++ [st], stepP P s = none := fun sts st z1 z2 s hs => by
      rcases List.mem_append.mp hs with hs | hs
      · exact z1 s hs
      · cases List.mem_singleton.mp hs; exact z2
    obtain ⟨sts1, bad1, la1, lb1, ev1⟩ : ∃ sts1 : List Stp, (∀ s ∈ sts1, stepP P s = none) ∧ 1 ≤ sts1.length ∧ sts1.length ≤ 11 + 3 * i + 1 ∧ sts1 = if a = bk then sts else sts ++ [.linked k i] := by
      by_cases c : a = bk
      · exact ⟨sts, bad, l1, by omega, by rw [if_pos c]⟩
      · exact ⟨sts ++ [.linked k i], badC _ _ bad (by
          unfold stepP
          simp only [gk, gi]
          rw [if_neg fun z => c z.symm]), by simp, by simp; omega, by rw [if_neg c]⟩
    refine st_seq [some (.loc l), some (.loc m), some (.int (P.length : Int)), some (.int (k : Int)), some (.loc (h.length + 4)), some (.int (i : Int)), y] (HH sts1) ?_ ?_
    · have ap := apS sts (.linked k i) (by omega)
      have ap : appendF (.loc (h.length + 4)) [.tup [.str "linked", .int (k : Int), .int (i : Int)]] (HH sts) = some (.non, HH (sts ++ [.linked k i])) := ap
      have ipi := ipi sts
      have ipk := ipk sts
      have ck := ckS sts
      generalize pD (a, b) = PI at *
      by_cases c : a = bk
      · rw [if_pos c] at ev1
        rw [decide_eq_true c] at ne
        rw [ev1]
        simp [wp_v, ipi, ipk, q0, q1, ne]
      · rw [if_neg c] at ev1
        rw [decide_eq_false c] at ne
        rw [ev1]
        simp [wp_v, ipi, ipk, q0, q1, ne, ck, ap]
    · clear ev1 bad
      obtain ⟨G, hG⟩ : ∃ G : Nat → Sl → Hs → Prop, G = fun j ds h' => ∃ (sts : List Stp) (y : Option D), (∀ st ∈ sts, stepP P st = none) ∧ 1 ≤ sts.length ∧ sts.length ≤ 11 + 3 * i + 1 + j ∧ h' = HH sts ∧ ds = [some (.loc l), some (.loc m), some (.int (P.length : Int)), some (.int (k : Int)), some (.loc (h.length + 4)), some (.int (i : Int)), y] := ⟨_, rfl⟩
      have itv : (valI (binM ixF (vM 0) (vM 5)) [some (.loc l), some (.loc m), some (.int (P.length : Int)), some (.int (k : Int)), some (.loc (h.length + 4)), some (.int (i : Int)), y] (HH sts1)).wp (fun p h' => p = ([tD a, tD b], fun _ => True) ∧ h' = HH sts1) xF := by
        have ipi := ipi sts1
        generalize pD (a, b) = PI at *
        simp [wp_v, ipi, it]
      rw [ws_for, R.wp_eq.mp itv]
      refine ws_loop [tD a, tD b] G (by rw [hG]; exact ⟨sts1, y, bad1, la1, by omega, rfl, rfl⟩) (fun _ _ _ _ => trivial) ?_ ?_
      · intro j d ds h' hi hj
        rw [hG] at hj
        obtain ⟨sts, y, bad, l1, l2, rfl, rfl⟩ := hj
        have jl : j < 2 := (List.getElem?_eq_some_iff.mp hi).1
        obtain ⟨u, rfl, un, ud⟩ : ∃ u, d = tD u ∧ u.nam ∧ u.depth ≤ 90 := by
          have : d ∈ [tD a, tD b] := List.mem_of_getElem? hi
          simp only [List.mem_cons, List.not_mem_nil, or_false] at this
          rcases this with rfl | rfl
          · exact ⟨a, rfl, fp.1, fp.2.2.1⟩
          · exact ⟨b, rfl, fp.2.1, fp.2.2.2⟩
        have stp : ∀ sts2 : List Stp, (∀ s ∈ sts2, stepP P s = none) → 1 ≤ sts2.length → sts2.length ≤ sts.length + 1 → G (j + 1) [some (.loc l), some (.loc m), some (.int (P.length : Int)), some (.int (k : Int)), some (.loc (h.length + 4)), some (.int (i : Int)), some (tD u)] (HH sts2) := fun sts2 w1 w2 w3 => by
          rw [hG]; exact ⟨sts2, _, w1, w2, by omega, rfl, rfl⟩
        have st0 := stp sts bad l1 (by omega)
        have ipi := ipi sts
        cases sp : sameP (a, b) with
        | true =>
          rw [sp] at sm
          generalize pD (a, b) = PI at *
          simp [wp_v, ipi, sm, truD, st0]
        | false =>
          rw [sp] at sm
          cases u with
          | bl v =>
            have k0 : ∀ h, ixF (tD (.bl v)) (.int 0) h = some (.str "blank", h) := fun h => by rw [kind0]; rfl
            generalize pD (a, b) = PI at *
            generalize tD (.bl v) = DU at *
            simp [wp_v, ipi, sm, truD, k0, ek_bl, st0]
          | bk s ps =>
            have k0 : ∀ h, ixF (tD (.bk s ps)) (.int 0) h = some (.str "block", h) := fun h => by rw [kind0]; rfl
            have k2 : ∀ h, ixF (tD (.bk s ps)) (.int 2) h = some (.tup (tDs ps), h) := fun h => by simp [tD]
            have dps : depthL ps ≤ 90 := by
              rw [depth_bk] at ud; omega
            have ne := fun h => ne_tup0 (h := h) (ps := ps) un.2.2 dps
            have ltn : ∀ h, lenF [.tup (tDs ps)] h = some (.int (ps.length : Int), h) := fun h => by simp
            by_cases c : ps = []
            · rw [decide_eq_true c] at ne
              generalize pD (a, b) = PI at *
              generalize tD (.bk s ps) = DU at *
              generalize tDs ps = TP at *
              simp [wp_v, ipi, sm, truD, k0, ek_bk, k2, ne, st0]
            · rw [decide_eq_false c] at ne
              have pl : 0 < ps.length := List.length_pos_iff.mpr c
              have mq : ∀ i, cMod i (ps.length : Int) = true := fun _ => cMod_of (by omega)
              have ap := apS sts (.part i (x1 % (ps.length : Int))) (by omega)
              have ap : appendF (.loc (h.length + 4)) [.tup [.str "part", .int (i : Int), .int (x1 % (ps.length : Int))]] (HH sts) = some (.non, HH (sts ++ [.part i (x1 % (ps.length : Int))])) := ap
              have st1 := stp (sts ++ [.part i (x1 % (ps.length : Int))]) (badC _ _ bad (by unfold stepP; simp [gi, sp])) (by simp) (by simp)
              have ck := ckS sts
              have i1 := i1 sts
              generalize HH (sts ++ [.part i (x1 % (ps.length : Int))]) = G2 at *
              generalize pD (a, b) = PI at *
              generalize tD (.bk s ps) = DU at *
              generalize tDs ps = TP at *
              simp [-len_tup, wp_v, ipi, sm, truD, k0, ek_bk, k2, ne, ck, i1, ltn, mq, ap, st1]
      · intro ds h' hj
        rw [hG] at hj
        obtain ⟨sts, y, bad, l1, l2, rfl, rfl⟩ := hj
        have l2 : sts.length ≤ 11 + 3 * i + 1 + 2 := l2
        rw [hJ]
        exact ⟨sts, _, _, bad, l1, by omega, rfl, rfl⟩
  · intro ds h' hj
    rw [hJ] at hj
    obtain ⟨sts, x, y, bad, l1, l2, rfl, rfl⟩ := hj
    rw [List.length_map, List.length_range] at l2
    have mm : ∀ i, cMod i (sts.length : Int) = true := fun _ => cMod_of (by omega)
    have b0 := Int.emod_nonneg x2 (b := (sts.length : Int)) (by omega)
    have b1 := Int.emod_lt_of_pos x2 (b := (sts.length : Int)) (by omega)
    obtain ⟨j, hj⟩ : ∃ j : Nat, x2 % (sts.length : Int) = (j : Int) := ⟨(x2 % (sts.length : Int)).toNat, by omega⟩
    have jl : j < sts.length := by omega
    have iv : ixF (.loc (h.length + 4)) (.int (j : Int)) (HH sts) = some (sD sts[j], HH sts) := by
      rw [ix_lst (hS sts), atI_nat (by rw [List.length_map]; exact jl), List.getElem?_map, List.getElem?_eq_getElem jl]; rfl
    have le := len_lst (hS sts)
    rw [List.length_map] at le
    have fin : BadStQ P (sD sts[j]) := ⟨sts[j], rfl, bad _ (List.getElem_mem jl)⟩
    have nl := noloc_sD sts[j]
    generalize sD sts[j] = SJ at *
    have i2 := i2 sts
    have hT := hT sts
    generalize HH sts = G1 at *
    simp [wp_v, i2, le, mm, hj, iv, nl, hT, fin]
end DV
namespace DV
open PySem PySem.Spec PyProof.Rows L2
theorem walk_pre : ∀ (sts : List Stp) (P0 P : List Pr), walkP P0 sts = some P → P.take P0.length = P0
  | [], P0, P, e => by
    rw [walkP] at e
    cases e
    exact List.take_length
  | st :: sts, P0, P, e => by
    rw [walkP] at e
    cases g : stepP P0 st with
    | none => rw [g] at e; cases e
    | some p =>
      rw [g] at e
      have ih := walk_pre sts (P0 ++ [p]) P e
      have := congrArg (List.take P0.length) ih
      rw [List.take_take, List.length_append] at this
      rw [Nat.min_eq_left (by omega)] at this
      rw [this]
      simp
theorem walk_take : ∀ (sts : List Stp) (P0 P : List Pr) (t : Nat), t ≤ sts.length → walkP P0 sts = some P → walkP P0 (sts.take t) = some (P.take (P0.length + t))
  | sts, P0, P, 0, _, e => by
    rw [List.take_zero, Nat.add_zero, walk_pre sts P0 P e]
    rfl
  | [], P0, P, t + 1, ht, e => by simp at ht
  | st :: sts, P0, P, t + 1, ht, e => by
    rw [walkP] at e
    rw [List.take_succ_cons, walkP]
    cases g : stepP P0 st with
    | none => rw [g] at e; cases e
    | some p =>
      rw [g] at e
      have ih := walk_take sts (P0 ++ [p]) P t (by simpa using ht) e
      simp only
      rw [ih, List.length_append]
      congr 2
      simp
      omega
def BadQ (a b : Tr) (m : Nat) (h : Hs) (d : D) (h' : Hs) : Prop := ∃ (ls : Nat) (sts : List Stp) (ed : Ed) (q : Hs), d = .tup [.loc ls, eD ed] ∧ h' = h ++ q ∧ h'[ls]? = some (.lst (sts.map sD)) ∧ sts.length ≤ m + 1 ∧ ed.inH h' ∧ ∀ Q, walkP [(a, b)] sts = some Q → ¬ endOk Q ed
theorem law_bad_ok (n : Nat) (h : Hs) (ls lp lx : Nat) (sts : List Stp) (P : List Pr) (ed : Ed) (xs : List Int) (a b : Tr) (es : h[ls]? = some (.lst (sts.map sD))) (ep : h[lp]? = some (.lst (P.map pD))) (ex : h[lx]? = some (.lst (xs.map D.int))) (xl : xs.length = 5) (r : ed.inH h)
    (wk : walkP [(a, b)] sts = some P) (f : fineK (a, b)) (sl : sts.length ≤ 900) (hn : 90 ≤ n) :
    (F__law_bad (n + 3) [.loc ls, .loc lp, eD ed, .loc lx] h).wp (BadQ a b sts.length h) xF := by
  have f1 : ∀ p ∈ [(a, b)], fineK p := fun p hp => by cases List.mem_singleton.mp hp; exact f
  obtain ⟨fP, lP⟩ := walk_fine _ _ _ f1 wk
  have lP : P.length = 1 + sts.length := lP
  rw [show F__law_bad (n + 3) = _ from S__law_bad (n + 2)]
  rw [kRaw_f, wp_run]
  refine ⟨rfl, ?_⟩
  unfold m__law_bad
  simp only [startD, List.map_cons, List.map_nil, List.length_cons, List.length_nil]
  simp only [List.set_cons_succ, List.set_cons_zero, List.replicate, List.cons_append, List.nil_append]
  have i3 : ixF (.loc lx) (.int 3) h = some (.int (xs.getD 3 0), h) := ix_row (k := 3) ex (by omega)
  have i4 : ixF (.loc lx) (.int 4) h = some (.int (xs.getD 4 0), h) := ix_row (k := 4) ex (by omega)
  generalize xs.getD 3 0 = x3 at i3
  generalize xs.getD 4 0 = x4 at i4
  have m2 : ∀ i, cMod i 2 = true := fun _ => cMod_of (by decide)
  have ml : ∀ i, cMod i ((sts.length : Int) + 1) = true := fun _ => cMod_of (by omega)
  have le := len_lst es
  rw [List.length_map] at le
  by_cases c : x3 % 2 = 0
  · have b0 := Int.emod_nonneg x4 (b := (sts.length : Int) + 1) (by omega)
    have b1 := Int.emod_lt_of_pos x4 (b := (sts.length : Int) + 1) (by omega)
    obtain ⟨t, ht⟩ : ∃ t : Nat, x4 % ((sts.length : Int) + 1) = (t : Int) := ⟨(x4 % ((sts.length : Int) + 1)).toNat, by omega⟩
    have tl : t ≤ sts.length := by omega
    obtain ⟨A1, hA1⟩ : ∃ A1, A1 = AO.lst ((sts.take t).map sD) := ⟨_, rfl⟩
    obtain ⟨A2, hA2⟩ : ∃ A2, A2 = AO.lst ((P.take (t + 1)).map pD) := ⟨_, rfl⟩
    have s1 : slF (.loc ls) none (some (t : Int)) h = some (.loc h.length, h ++ [A1]) := by
      rw [slF_lst es, cut_toN, hA1, List.map_take]
    have tt : (t : Int) + 1 = ((t + 1 : Nat) : Int) := by omega
    have s2 : slF (.loc lp) none (some ((t : Int) + 1)) (h ++ [A1]) = some (.loc (h.length + 1), h ++ [A1, A2]) := by
      rw [tt, slF_lst (get_app ep), cut_toN, hA2, List.map_take]
      simp
    have fT : ∀ p ∈ P.take (t + 1), p.fine := fun p hp => (fP p (List.mem_of_mem_take hp)).1
    have lT : (P.take (t + 1)).length = t + 1 := by rw [List.length_take]; omega
    obtain ⟨d, h', eb, rfl, st, rfl, bst⟩ := R.wp_ex (law_bad_step_ok n (h ++ [A1, A2]) (h.length + 1) lx (P.take (t + 1)) xs (by rw [hA2]; simp) (get_app ex) xl (by omega) (by omega) fT)
    obtain ⟨A4, hA4⟩ : ∃ A4, A4 = AO.lst ((sts.take t ++ [st]).map sD) := ⟨_, rfl⟩
    obtain ⟨A5, hA5⟩ : ∃ A5, A5 = AO.lst ((sts.drop t).map sD) := ⟨_, rfl⟩
    obtain ⟨A6, hA6⟩ : ∃ A6, A6 = AO.lst ((sts.take t ++ [st] ++ sts.drop t).map sD) := ⟨_, rfl⟩
    have ad1 : addF (.loc h.length) (.loc (h.length + 2)) (h ++ [A1, A2, .lst [sD st]]) = some (.loc (h.length + 3), h ++ [A1, A2, .lst [sD st], A4]) := by
      rw [add_lsts (h := h ++ [A1, A2, .lst [sD st]]) (i := h.length) (j := h.length + 2) (xs := (sts.take t).map sD) (ys := [sD st]) (by rw [hA1]; simp) (by simp) (by simp; omega), hA4]
      simp
    have s3 : slF (.loc ls) (some (t : Int)) none (h ++ [A1, A2, .lst [sD st], A4]) = some (.loc (h.length + 4), h ++ [A1, A2, .lst [sD st], A4, A5]) := by
      rw [slF_lst (get_app es), cut_from, hA5, List.map_drop]
      simp
    have ad2 : addF (.loc (h.length + 3)) (.loc (h.length + 4)) (h ++ [A1, A2, .lst [sD st], A4, A5]) = some (.loc (h.length + 5), h ++ [A1, A2, .lst [sD st], A4, A5, A6]) := by
      rw [add_lsts (h := h ++ [A1, A2, .lst [sD st], A4, A5]) (i := h.length + 3) (j := h.length + 4) (xs := (sts.take t ++ [st]).map sD) (ys := (sts.drop t).map sD) (by rw [hA4]; simp) (by rw [hA5]; simp) (by simp; omega), hA6]
      simp
    have wt := walk_take sts [(a, b)] P t tl wk
    have fin : BadQ a b sts.length h (.tup [.loc (h.length + 5), eD ed]) (h ++ [A1, A2, .lst [sD st], A4, A5, A6]) := by
      refine ⟨h.length + 5, sts.take t ++ [st] ++ sts.drop t, ed, _, rfl, rfl, by rw [hA6]; simp, by simp; omega, inH_app r, fun Q hQ => ?_⟩
      rw [List.append_assoc, walkP_app, wt] at hQ
      simp only [Option.bind_some, List.cons_append, List.nil_append, walkP] at hQ
      rw [show ([(a, b)] : List Pr).length + t = t + 1 by simp; omega, bst] at hQ
      cases hQ
    have eb : F__law_bad_step (n + 2) [.loc (h.length + 1), .loc lx] (h ++ [A1, A2]) = .ok (sD st) (h ++ [A1, A2]) := eb
    clear hA1 hA2 hA4 hA5 hA6
    generalize eD ed = EE at *
    generalize sD st = SS at *
    simp [wp_v, i3, m2, c, i4, le, ml, ht, s1, s2, eb, ad1, s3, ad2]
    exact fin
  · refine st_guard h (by simp [wp_v, i3, m2, c]) ?_
    obtain ⟨d, h', eb, ed2, q, rfl, rfl, r2, ne⟩ := R.wp_ex (law_bad_end_ok n h lp lx P xs ep ex xl (by omega) (by omega) fP hn)
    have fin : BadQ a b sts.length h (.tup [.loc ls, eD ed2]) (h ++ q) := ⟨ls, sts, ed2, q, rfl, rfl, get_app es, by omega, r2, fun Q hQ => by
      rw [wk] at hQ
      cases hQ
      exact ne⟩
    generalize eD ed = EE at *
    generalize eD ed2 = EE2 at *
    simp [wp_v, eb]
    exact fin
end DV
namespace DV
open PySem PySem.Spec PyProof.Rows L2
theorem pyOk_sD (st : Stp) : pyOk (sD st) = true := by
  cases st <;> simp [sD, pyOk, pyOkL, ok_part, ok_turned, ok_linked, ok_joined]
theorem dep_sD (st : Stp) : depD (sD st) ≤ 1 := by
  cases st <;> simp [sD, depD, depL]
theorem pyOk_sts : ∀ sts : List Stp, pyOkL (sts.map sD) = true ∧ depL (sts.map sD) ≤ 1
  | [] => ⟨rfl, by simp [depL]⟩
  | st :: sts => by
    obtain ⟨h1, h2⟩ := pyOk_sts sts
    have := dep_sD st
    exact ⟨by simp [pyOkL, pyOk_sD, h1], by simp only [List.map_cons, depL]; omega⟩
theorem pyOk_fine : ∀ P : List Pr, (∀ p ∈ P, p.fine) → pyOkL (P.map pD) = true ∧ depL (P.map pD) ≤ 189
  | [], _ => ⟨rfl, by simp [depL]⟩
  | p :: P, h => by
    obtain ⟨h1, h2⟩ := pyOk_fine P fun q hq => h q (List.mem_cons_of_mem _ hq)
    obtain ⟨g1, g2, d1, d2⟩ := h p List.mem_cons_self
    have e1 := dep_tD p.1
    have e2 := dep_tD p.2
    refine ⟨by simp [pyOkL, h1, pD, pyOk, pyOk_nam g1, pyOk_nam g2], ?_⟩
    simp [depL, pD, depD]
    omega
/-- an end as data: what == is told of -/
theorem eD_py {h : Hs} {ed : Ed} (r : ed.inH h) : ∃ p, pyH h (eD ed) = some p ∧ p.canLay0 = true ∧ p.depth ≤ 5 ∧ PyData.eqv p p = true := by
  have nol : ∀ d : D, pyOk d = true → depD d ≤ 1 → ∃ p, pyH h d = some p ∧ p.canLay0 = true ∧ p.depth ≤ 5 ∧ PyData.eqv p p = true := fun d a z => by
    refine ⟨toPy d, pyW_of _ a, canLay_of a, ?_, (eqv_iff a a).mpr rfl⟩
    rw [dep_toPy]; omega
  cases ed with
  | unlike k => exact nol _ (by simp [eD, pyOk, pyOkL, ok_unlike]) (by simp [eD, depD, depL])
  | alike => exact nol _ (by simp [eD, pyOk, pyOkL, ok_alike]) (by simp [eD, depD, depL])
  | within lr row =>
    obtain ⟨e, _⟩ := r
    have oi := pyOk_ints row
    have di := dep_ints row
    refine ⟨.tuple [.str "within", .list (toPyL (row.map D.int))], ?_, ?_, ?_, ?_⟩
    · unfold pyH eD pyW pyWL pyW pyWL pyW pyWL pyLoc
      simp only [e, pyWL_of _ oi]; rfl
    · show (PyData.strOk "within" && (PyData.canLayAll0 (toPyL (row.map D.int)) && true)) = true
      rw [ok_within, canLay_ofL oi]; rfl
    · show max _ (max (PyData.depthAll (toPyL (row.map D.int)) + 1) _) + 1 ≤ 5
      rw [dep_toPyL, di]
      decide
    · show (PyData.eqv (.str "within") (.str "within") && (PyData.eqvAll (toPyL (row.map D.int)) (toPyL (row.map D.int)) && true)) = true
      rw [(eqv_iffL oi oi).mpr rfl]
      have := (eqv_iff (d := .str "within") (e := .str "within") (by simp [pyOk, ok_within]) (by simp [pyOk, ok_within])).mpr rfl
      have : PyData.eqv (.str "within") (.str "within") = true := this
      rw [this]; rfl
theorem ne_handed {h : Hs} {i j : Nat} {sts : List Stp} {ed : Ed} (ei : h[i]? = some (.lst (sts.map sD))) (ej : h[j]? = some (.lst (sts.map sD))) (r : ed.inH h) : neF (.tup [.loc i, eD ed]) (.tup [.loc j, eD ed]) h = some (.bl false, h) := by
  obtain ⟨p, e1, e2, e3, e4⟩ := eD_py r
  obtain ⟨o1, o2⟩ := pyOk_sts sts
  have pl : ∀ i : Nat, h[i]? = some (.lst (sts.map sD)) → pyH h (.tup [.loc i, eD ed]) = some (.tuple [.list (toPyL (sts.map sD)), p]) := fun i ei => by
    have a : pyW (pyLoc 4 h) (.loc i) = some (.list (toPyL (sts.map sD))) := by
      unfold pyW pyLoc
      simp only [ei, pyWL_of _ o1]; rfl
    have b : pyW (pyLoc 4 h) (eD ed) = some p := e1
    unfold pyH pyW pyWL
    rw [a]
    unfold pyWL pyWL
    rw [b]
    rfl
  unfold neF eqB
  rw [show lenNe (.tup [.loc i, eD ed]) (.tup [.loc j, eD ed]) h = false from rfl, if_neg Bool.false_ne_true, pl i ei, pl j ej]
  simp only
  have c1 : (PyData.tuple [.list (toPyL (sts.map sD)), p]).canLay0 = true := by
    show (PyData.canLayAll0 (toPyL (sts.map sD)) && (p.canLay0 && true)) = true
    rw [canLay_ofL o1, e2]; rfl
  have c3 : (PyData.tuple [.list (toPyL (sts.map sD)), p]).depth ≤ 190 := by
    show max (PyData.depthAll (toPyL (sts.map sD)) + 1) (max p.depth 0) + 1 ≤ 190
    rw [dep_toPyL]
    omega
  have c4 : PyData.eqv (.tuple [.list (toPyL (sts.map sD)), p]) (.tuple [.list (toPyL (sts.map sD)), p]) = true := by
    show (PyData.eqvAll (toPyL (sts.map sD)) (toPyL (sts.map sD)) && (PyData.eqv p p && true)) = true
    rw [(eqv_iffL o1 o1).mpr rfl, e4]; rfl
  rw [if_pos ⟨c1, c1, c3⟩, c4]
  rfl
theorem isl_lst {h : Hs} {l : Nat} {xs : List D} (e : h[l]? = some (.lst xs)) : isF "list" (.loc l) h = some (.bl true, h) := by
  unfold isF tyD
  simp only [e]
  rfl
end DV
namespace DV
open PySem PySem.Spec PyProof.Rows L2
end DV
namespace DV
open PySem PySem.Spec PyProof.Rows L2
theorem ix_trees {h : Hs} {l : Nat} {ts : List Tr} {k : Int} (e : h[l]? = some (.lst (tDs ts))) (h0 : 0 ≤ k) (h1 : k < ts.length) : ∃ t, (∀ q : Hs, ixF (.loc l) (.int k) (h ++ q) = some (tD t, h ++ q)) ∧ t ∈ ts := by
  obtain ⟨n, rfl⟩ := Int.eq_ofNat_of_zero_le h0
  have hn : n < ts.length := by omega
  refine ⟨ts[n], fun q => ?_, List.getElem_mem _⟩
  rw [ix_lst (get_app e), atI_nat (by rw [tDs_len]; exact hn), tDs_map, List.getElem?_map, List.getElem?_eq_getElem hn]
  rfl
theorem ix_nm {h : Hs} {l : Nat} {ss : List Str} {k : Int} (e : h[l]? = some (.lst (ss.map D.str))) (h0 : 0 ≤ k) (h1 : k < ss.length) : ∃ s, (∀ q : Hs, ixF (.loc l) (.int k) (h ++ q) = some (.str s, h ++ q)) ∧ s ∈ ss := by
  obtain ⟨n, rfl⟩ := Int.eq_ofNat_of_zero_le h0
  have hn : n < ss.length := by omega
  refine ⟨ss[n], fun q => ?_, List.getElem_mem _⟩
  rw [ix_lst (get_app e), atI_nat (by rw [List.length_map]; exact hn), List.getElem?_map, List.getElem?_eq_getElem hn]
  rfl
end DV
namespace DV
open PySem PySem.Spec PyProof.Rows L2
def ChgQ (t : Tr) (at_ : Nat) (d : D) : Prop := ∃ (u : Tr) (k : Nat), d = .tup [tD u, .int (k : Int)] ∧ u.good ∧ u.depth ≤ t.depth + 1 ∧ u.knots ≤ 3 * t.knots ∧ k ≤ at_ + t.knots
theorem knotsL_take : ∀ (ps : List Tr) (i : Nat) (u : Tr), ps[i]? = some u → knotsL (ps.take (i + 1)) = knotsL (ps.take i) + u.knots
  | [], i, u, e => by cases e
  | p :: ps, 0, u, e => by
    cases e
    simp [knotsL]
  | p :: ps, i + 1, u, e => by
    have := knotsL_take ps i u e
    simp only [List.take_succ_cons, knotsL]
    omega
theorem knotsL_take_le : ∀ (ps : List Tr) (i : Nat), knotsL (ps.take i) ≤ knotsL ps
  | [], i => by simp [knotsL]
  | p :: ps, 0 => by simp [knotsL]
  | p :: ps, i + 1 => by
    have := knotsL_take_le ps i
    simp only [List.take_succ_cons, knotsL]
    omega
theorem changed_ok : ∀ (n : Nat) (t : Tr), t.depth ≤ n → t.good → ∀ (h : Hs) (lx ls at_ : Nat) (xs : List Int) (sm_ : List Tr), h[lx]? = some (.lst (xs.map D.int)) → xs.length = 16 → h[ls]? = some (.lst (tDs sm_)) → sm_.length = 4 → (∀ u ∈ sm_, u.good ∧ u.depth ≤ 2 ∧ u.knots ≤ 3) → at_ + t.knots ≤ 1000000 →
    (F__law_changed n [tD t, .loc lx, .int (at_ : Int), .loc ls] h).wp (fun d h' => h' = h ∧ ChgQ t at_ d) xF
  | 0, t, hd, g, h, lx, ls, at_, xs, sm_, ex, xl, es, sl, sg, hz => by
    have := depth_parts t
    omega
  | n + 1, t, hd, g, h, lx, ls, at_, xs, sm_, ex, xl, es, sl, sg, hz => by
    have kp := knots_pos t
    rw [S__law_changed, wp_pure, wp_run]
    refine ⟨rfl, ?_⟩
    unfold m__law_changed
    simp only [startD, List.map_cons, List.map_nil, List.length_cons, List.length_nil]
    simp only [List.set_cons_succ, List.set_cons_zero, List.replicate, List.cons_append, List.nil_append]
    have lx_ := len_lst ex
    rw [List.length_map, xl] at lx_
    have ls_ := len_lst es
    rw [tDs_len, sl] at ls_
    have lx_ : lenF [.loc lx] h = some (.int 16, h) := lx_
    have ls_ : lenF [.loc ls] h = some (.int 4, h) := ls_
    have m16 : ∀ i, cMod i 16 = true := fun _ => cMod_of (by decide)
    have m8 : ∀ i, cMod i 8 = true := fun _ => cMod_of (by decide)
    have m4 : ∀ i, cMod i 4 = true := fun _ => cMod_of (by decide)
    have d16 : ∀ i, cDiv i 16 = true := fun _ => cDiv_of (by decide) (by decide)
    have d8 : ∀ i, cDiv i 8 = true := fun _ => cDiv_of (by decide) (by decide)
    have dA : ∀ i, cDiv i (1 + (at_ : Int) / 16) = true := fun _ => cDiv_of (by omega) (by omega)
    obtain ⟨x, ix, _⟩ := ix_int (k := (at_ : Int) % 16) ex (by omega) (by omega)
    obtain ⟨turn, hturn⟩ : ∃ turn : Int, turn = x / (1 + (at_ : Int) / 16) := ⟨_, rfl⟩
    refine st_set (.int turn) h (by rw [hturn]; simp [wp_v, lx_, m16, ix, d16, dA]) ?_
    simp only [List.set_cons_succ, List.set_cons_zero]
    obtain ⟨A, hA⟩ : ∃ A : Nat, A = at_ + 1 := ⟨_, rfl⟩
    have hA' : (at_ : Int) + 1 = (A : Int) := by omega
    refine st_set (.int (A : Int)) h (by simp [wp_v, hA']) ?_
    simp only [List.set_cons_succ, List.set_cons_zero]
    by_cases c : turn % 8 = 0
    · obtain ⟨v, iv, vm⟩ := ix_trees es (Int.emod_nonneg (turn / 8) (b := 4) (by decide)) (by have := Int.emod_lt_of_pos (turn / 8) (b := 4) (by decide); omega)
      have iv := iv []
      rw [List.append_nil] at iv
      obtain ⟨v1, v2, v3⟩ := sg v vm
      have dp := depth_parts t
      have fin : ChgQ t at_ (.tup [tD v, .int A]) := ⟨v, A, rfl, v1, by omega, by omega, by omega⟩
      simp [wp_v, m8, c, d8, ls_, m4, iv, noloc, nolocL, noloc_tD, fin]
    · refine st_guard h (by simp [wp_v, m8, c]) ?_
      cases t with
      | bl y =>
        have k0 : ∀ h, ixF (tD (.bl y)) (.int 0) h = some (.str "blank", h) := fun h => by rw [kind0]; rfl
        have ebl : ∀ h, eqF (.str "blank") (.str "blank") h = some (.bl true, h) := fun h => by rw [eq_strs ok_blank ok_blank, decide_eq_true rfl]
        have fin : ChgQ (.bl y) at_ (.tup [tD (.bl y), .int A]) := ⟨.bl y, A, rfl, g, by omega, by omega, by omega⟩
        have nl := noloc_tD (.bl y)
        generalize tD (.bl y) = DY at *
        simp [wp_v, k0, ebl, noloc, nolocL, nl, fin]
      | bk s ps =>
        have k0 : ∀ h, ixF (tD (.bk s ps)) (.int 0) h = some (.str "block", h) := fun h => by rw [kind0]; rfl
        have k1 : ∀ h, ixF (tD (.bk s ps)) (.int 1) h = some (.str s, h) := fun h => by simp [tD]
        have k2 : ∀ h, ixF (tD (.bk s ps)) (.int 2) h = some (.tup (tDs ps), h) := fun h => by simp [tD]
        have ekl : ∀ h, eqF (.str "block") (.str "blank") h = some (.bl false, h) := fun h => by rw [eq_strs ok_block ok_blank, decide_eq_false bk_bl]
        have dpt := depth_bk (s := s) (ps := ps)
        have kpt : (Tr.bk s ps).knots = 1 + knotsL ps := by simp [Tr.knots]
        obtain ⟨g1, g2, g3⟩ := g
        obtain ⟨o0, ho0⟩ : ∃ o0, o0 = tD (.bk s ps) := ⟨_, rfl⟩
        rw [← ho0] at k0 k1 k2 ⊢
        refine st_guard h (by simp [wp_v, k0, ekl]) ?_
        refine st_set (.loc h.length) (h ++ [.lst []]) (by simp [wp_v]) ?_
        simp only [List.set_cons_succ, List.set_cons_zero]
        obtain ⟨J, hJ⟩ : ∃ J : Nat → Sl → Hs → Prop, J = fun i ds h' => ∃ (us : List Tr) (k : Nat) (x y : Option D), us.length = i ∧ goodL us ∧ depthL us ≤ depthL ps + 1 ∧ knotsL us ≤ 3 * knotsL (ps.take i) ∧ k ≤ A + knotsL (ps.take i) ∧ h' = h ++ [.lst (tDs us)] ∧ ds = [some o0, some (.loc lx), some (.int (k : Int)), some (.loc ls), some (.int turn), some (.loc h.length), x, y] := ⟨_, rfl⟩
        refine st_for (tDs ps) (fun _ => True) (h ++ [.lst []]) J (by simp [wp_v, k2]) (by rw [hJ]; exact ⟨[], A, none, none, rfl, trivial, by simp [depthL], by simp [knotsL], by omega, rfl, rfl⟩) (fun _ _ _ _ => trivial) ?_ ?_
        · intro i d ds h' hi hj
          rw [hJ] at hj
          obtain ⟨us, k, x, y, ul, ug, ud, uk, kk, rfl, rfl⟩ := hj
          rw [tDs_map, List.getElem?_map] at hi
          cases q : ps[i]? with
          | none => rw [q] at hi; cases hi
          | some u =>
            rw [q] at hi
            have hi : tD u = d := Option.some.inj hi
            subst hi
            have um := List.mem_of_getElem? q
            have du := depth_mem um
            have ku := knotsL_take ps i u q
            have kle := knotsL_take_le ps (i + 1)
            obtain ⟨il, _⟩ := List.getElem?_eq_some_iff.mp q
            obtain ⟨d', h2, e2, rfl, w, k', rfl, w1, w2, w3, w4⟩ := R.wp_ex (changed_ok n u (by omega) (goodL_iff.mp g3 u um) (h ++ [.lst (tDs us)]) lx ls k xs sm_ (get_app ex) xl (get_app es) sl sg (by omega))
            have el : (h ++ [AO.lst (tDs us)])[h.length]? = some (.lst (tDs us)) := by simp
            have ck := ck_lst el
            have ap := append_lst (v := tD w) el (by rw [tDs_len]; omega)
            rw [show (h ++ [AO.lst (tDs us)]).set h.length (.lst (tDs us ++ [tD w])) = h ++ [.lst (tDs (us ++ [w]))] by rw [tDs_app]; simp [tDs]] at ap
            have fin : J (i + 1) [some o0, some (.loc lx), some (.int (k' : Int)), some (.loc ls), some (.int turn), some (.loc h.length), some (tD u), some (tD w)] (h ++ [.lst (tDs (us ++ [w]))]) := by
              rw [hJ]
              refine ⟨us ++ [w], k', _, _, by simp [ul], goodL_iff.mpr fun z hz' => ?_, depthL_le.mpr fun z hz' => ?_, ?_, by omega, rfl, rfl⟩
              · rcases List.mem_append.mp hz' with hz' | hz'
                · exact goodL_iff.mp ug z hz'
                · cases List.mem_singleton.mp hz'; exact w1
              · rcases List.mem_append.mp hz' with hz' | hz'
                · exact depthL_le.mp ud z hz'
                · cases List.mem_singleton.mp hz'; omega
              · rw [knotsL_app]
                have : knotsL [w] = w.knots := by simp [knotsL]
                omega
            generalize tD u = DU at *
            generalize tD w = DW at *
            generalize AO.lst (tDs us) = O1 at *
            generalize AO.lst (tDs (us ++ [w])) = O2 at *
            simp [wp_v, e2, ck, ap]
            exact fin
        · intro ds h' hj
          rw [hJ] at hj
          obtain ⟨us, k, x, y, ul, ug, ud, uk, kk, rfl, rfl⟩ := hj
          rw [tDs_len, List.take_length] at *
          have tp : tupT [.loc h.length] (h ++ [AO.lst (tDs us)]) = some (.tup (tDs us), h ++ [AO.lst (tDs us)]) := tup_loc (by simp)
          have ntd := noloc_tDs us
          have fin : ChgQ (.bk s ps) at_ (.tup [.tup [.str "block", .str s, .tup (tDs us)], .int k]) := ⟨.bk s us, k, by simp [tD], ⟨g1, by omega, ug⟩, by rw [depth_bk]; omega, by simp [Tr.knots]; omega, by omega⟩
          generalize AO.lst (tDs us) = O1 at *
          generalize tDs us = TU at *
          simp [wp_v, k1, tp, noloc, nolocL, ntd, fin]
end DV
namespace DV
open PySem PySem.Spec PyProof.Rows L2
theorem cut_ab {α : Type} (xs : List α) (a b : Nat) : cutL xs (some (a : Int)) (some (b : Int)) = (xs.take b).drop a := by
  unfold cutL
  have e1 : HT.sIx xs.length 0 (some (a : Int)) = min a xs.length := HT.sIx_nat _ _ a
  have e2 : HT.sIx xs.length xs.length (some (b : Int)) = min b xs.length := HT.sIx_nat _ _ b
  rw [e1, e2, List.drop_take]
  by_cases c : a ≤ xs.length
  · rw [Nat.min_eq_left c, List.take_eq_take_min (l := List.drop a xs) (i := b - a)]
    congr 1
    rw [List.length_drop]
    omega
  · rw [Nat.min_eq_right (show xs.length ≤ a by omega), List.drop_eq_nil_of_le (Nat.le_refl _), List.drop_eq_nil_of_le (show xs.length ≤ a by omega)]
    simp
theorem law_pair_ok (m : Nat) (h : Hs) (ns : List Int) (hm : 6 ≤ m) : ∃ a b, F__law_pair_v2 (m + 3) [.ro ns] h = .ok (pD (a, b)) h ∧ fineK (a, b) := by
  have w : (F__law_pair_v2 (m + 3) [.ro ns] h).wp (fun d h' => ∃ a b, d = pD (a, b) ∧ h' = h ∧ fineK (a, b)) xF := by
    rw [show F__law_pair_v2 (m + 3) = _ from S__law_pair_v2 (m + 2)]
    have c0 := fun h => cell0_ok (m + 1) h ns
    have c1' := fun h => cell_ok (m + 1) h ns 1
    have c1 : ∀ h, F__law_cell_at (m + 2) [.ro ns, .int 1] h = .ok (.int (cellI ns 1)) h := c1'
    generalize cellI ns 0 = z0 at c0
    generalize cellI ns 1 = first at c1
    clear c1'
    rw [wp_pure, wp_run]
    refine ⟨rfl, ?_⟩
    unfold m__law_pair_v2
    simp only [startD, List.map_cons, List.map_nil, List.length_cons, List.length_nil]
    simp only [List.set_cons_succ, List.set_cons_zero, List.replicate, List.cons_append, List.nil_append]
    obtain ⟨nm, en, nl, ng⟩ := names3_ok m h z0
    obtain ⟨b0, hb0⟩ : ∃ b0, b0 = AO.lst (nm.map D.str) := ⟨_, rfl⟩
    rw [← hb0] at en
    have gn : ∀ q : Hs, (h ++ (b0 :: q))[h.length]? = some (.lst (nm.map D.str)) := fun q => by rw [hb0]; simp
    refine st_set (.loc h.length) (h ++ [b0]) (by simp [wp_v, c0, en]) ?_
    refine st_set (.int first) (h ++ [b0]) (by simp [wp_v, c1]) ?_
    simp only [List.set_cons_succ, List.set_cons_zero]
    obtain ⟨cells, hcells⟩ : ∃ cells, cells = (ns.take 22).drop 2 := ⟨_, rfl⟩
    have cl : cells.length ≤ 20 := by rw [hcells, List.length_drop, List.length_take]; omega
    have sl2 : slF (.ro ns) (some 2) (some 22) (h ++ [b0]) = some (.loc (h.length + 1), h ++ [b0, .lst (cells.map D.int)]) := by
      have e2 : (2 : Int) = ((2 : Nat) : Int) := rfl
      have e22 : (22 : Int) = ((22 : Nat) : Int) := rfl
      rw [slF_ro, e2, e22, cut_ab, ← hcells]
      simp
    obtain ⟨d, h', e, rfl, t, a', rfl, g1, g2, g3, g4, g5⟩ := R.wp_ex (grow_ok 6 (m + 2) (by omega) (h ++ [b0, .lst (cells.map D.int)]) (h.length + 1) h.length cells 0 nm first (by simp) (gn _) nl ng (Nat.zero_le _) (by omega))
    have e : F__law_grow (m + 2) [.loc (h.length + 1), .int 0, .int 6, .loc h.length, .int first] (h ++ [b0, .lst (cells.map D.int)]) = .ok (.tup [tD t, .int a']) (h ++ [b0, .lst (cells.map D.int)]) := e
    obtain ⟨b1, hb1⟩ : ∃ b1, b1 = AO.lst (cells.map D.int) := ⟨_, rfl⟩
    rw [← hb1] at e sl2
    refine st_set (tD t) (h ++ [b0, b1]) (by simp [wp_v, sl2, e]) ?_
    simp only [List.set_cons_succ, List.set_cons_zero]
    clear e sl2 en hb1 hcells
    obtain ⟨xs, ex, xl, xm⟩ := stream_ok (m + 1) (h ++ [b0, b1]) (z0 + 5) 16 (by decide)
    have ex : F__law_stream (m + 2) [.int (z0 + 5), .int 16] (h ++ [b0, b1]) = .ok (.loc (h.length + 2)) (h ++ [b0, b1, .lst (xs.map D.int)]) := by
      have e16 : ((16 : Nat) : Int) = 16 := rfl
      rw [e16] at ex
      rw [ex]
      simp
    obtain ⟨b2, hb2⟩ : ∃ b2, b2 = AO.lst (xs.map D.int) := ⟨_, rfl⟩
    rw [← hb2] at ex
    refine st_set (.loc (h.length + 2)) (h ++ [b0, b1, b2]) (by simp [wp_v, c0, ex]) ?_
    simp only [List.set_cons_succ, List.set_cons_zero]
    clear ex
    obtain ⟨s0, i0, sm0⟩ := ix_nm (h := h ++ [b0]) (l := h.length) (k := 0) (gn []) (by decide) (by omega)
    obtain ⟨s1, i1, sm1⟩ := ix_nm (h := h ++ [b0]) (l := h.length) (k := 1) (gn []) (by decide) (by omega)
    have i0 := fun q => i0 q
    simp only [List.append_assoc, List.cons_append, List.nil_append] at i0 i1
    obtain ⟨v1, ev1, v11, v12⟩ := number_ok (m + 1) (h ++ [b0, b1, b2]) first 1 (by decide) (by decide)
    obtain ⟨v2, ev2, v21, v22⟩ := number_ok (m + 1) (h ++ [b0, b1, b2]) first 4 (by decide) (by decide)
    refine st_set (.loc (h.length + 3)) (h ++ [b0, b1, b2, .lst (tDs [.bk s0 [], .bl v1, .bl v2])]) (by simp [wp_v, i0, ev1, ev2, tDs, tD]) ?_
    simp only [List.set_cons_succ, List.set_cons_zero]
    obtain ⟨O1, hO1⟩ : ∃ O1, O1 = AO.lst (tDs [.bk s0 [], .bl v1, .bl v2]) := ⟨_, rfl⟩
    rw [← hO1]
    obtain ⟨v3, ev3, v31, v32⟩ := number_ok (m + 1) (h ++ [b0, b1, b2, O1]) first 1 (by decide) (by decide)
    obtain ⟨v4, ev4, v41, v42⟩ := number_ok (m + 1) (h ++ [b0, b1, b2, O1]) first 2 (by decide) (by decide)
    obtain ⟨sm_, hsm⟩ : ∃ sm_ : List Tr, sm_ = [.bk s0 [], .bl v1, .bl v2, .bk s1 [.bl v3, .bl v4]] := ⟨_, rfl⟩
    obtain ⟨O2, hO2⟩ : ∃ O2, O2 = AO.lst (tDs sm_) := ⟨_, rfl⟩
    have el : (h ++ [b0, b1, b2, O1])[h.length + 3]? = some (.lst (tDs [.bk s0 [], .bl v1, .bl v2])) := by rw [hO1]; simp
    have ck := ck_lst el
    have ap := append_lst (v := .tup [.str "block", .str s1, .tup [.tup [.str "blank", .int v3], .tup [.str "blank", .int v4]]]) el (by simp [tDs])
    rw [show (h ++ [b0, b1, b2, O1]).set (h.length + 3) (.lst (tDs [.bk s0 [], .bl v1, .bl v2] ++ [.tup [.str "block", .str s1, .tup [.tup [.str "blank", .int v3], .tup [.str "blank", .int v4]]]])) = h ++ [b0, b1, b2, O2] by rw [hO2, hsm]; simp [tDs, tD]] at ap
    refine st_seq [some (.ro ns), some (.loc h.length), some (.int first), some (tD t), some (.loc (h.length + 2)), some (.loc (h.length + 3))] (h ++ [b0, b1, b2, O2]) ?_ ?_
    · clear hO1 hO2 hb0 hb2
      simp [wp_v, i1, ev3, ev4, ck, ap]
    obtain ⟨d, h', e, rfl, u, k', rfl, u1, u2, u3, u4⟩ := R.wp_ex (changed_ok (m + 2) t (by omega) g1 (h ++ [b0, b1, b2, O2]) (h.length + 2) (h.length + 3) 0 xs sm_ (by rw [hb2]; simp) xl (by rw [hO2]; simp) (by rw [hsm]; rfl) (by
      rw [hsm]
      intro u hu
      simp only [List.mem_cons, List.not_mem_nil, or_false] at hu
      rcases hu with rfl | rfl | rfl | rfl
      · exact ⟨⟨ng s0 sm0, by simp, trivial⟩, by simp [Tr.depth, depthL], by simp [Tr.knots, knotsL]⟩
      · exact ⟨⟨v11, v12⟩, by simp [Tr.depth], by simp [Tr.knots]⟩
      · exact ⟨⟨v21, v22⟩, by simp [Tr.depth], by simp [Tr.knots]⟩
      · exact ⟨⟨ng s1 sm1, by simp, ⟨v31, v32⟩, ⟨v41, v42⟩, trivial⟩, by simp [Tr.depth, depthL], by simp [Tr.knots, knotsL]⟩) (by omega))
    have e : F__law_changed (m + 2) [tD t, .loc (h.length + 2), .int 0, .loc (h.length + 3)] (h ++ [b0, b1, b2, O2]) = .ok (.tup [tD u, .int k']) (h ++ [b0, b1, b2, O2]) := e
    have nt := noloc_tD t
    have nu := noloc_tD u
    have fin : ∃ a b, D.tup [tD t, tD u] = pD (a, b) ∧ fineK (a, b) := ⟨t, u, rfl, ⟨nam_good g1, nam_good u1, by simp only; omega, by simp only; omega⟩, by simp only; omega, by simp only; omega⟩
    generalize tD t = DT at *
    generalize tD u = DU at *
    simp [wp_v, e, noloc, nolocL, nt, nu]
    obtain ⟨a, b, e1, e2⟩ := fin
    exact ⟨a, b, e1, e2⟩
  obtain ⟨d, h', e, a, b, rfl, rfl, f⟩ := R.wp_ex w
  exact ⟨a, b, e, f⟩
end DV
namespace DV
open PySem PySem.Spec PyProof.Rows L2
theorem bad_exc {n : Nat} {h : Hs} {ls : Nat} {a b : Tr} {sts : List Stp} {ed : Ed} (es : h[ls]? = some (.lst (sts.map sD))) (hz : sts.length ≤ 100000) (r : ed.inH h) (f : fineK (a, b)) (hn : 90 ≤ n) (no : ∀ P, walkP [(a, b)] sts = some P → ¬ endOk P ed) :
    F_walked (n + 4) [tD a, tD b, .tup [.loc ls, eD ed]] h = .exc "BadPaper" h := by
  refine walked_exc (R.wp_mono (walked_ok n h ls a b sts ed es hz r f hn) ?_ ?_)
  · rintro d h' ⟨P, w, g, _⟩
    exact no P w g
  · rintro c h' ⟨_, rfl, rfl⟩
    exact ⟨rfl, rfl⟩
theorem good_ret {n : Nat} {h : Hs} {ls : Nat} {a b : Tr} {sts : List Stp} {P : List Pr} {ed : Ed} (es : h[ls]? = some (.lst (sts.map sD))) (hz : sts.length ≤ 100000) (r : ed.inH h) (f : fineK (a, b)) (hn : 90 ≤ n) (w : walkP [(a, b)] sts = some P) (g : endOk P ed) :
    F_walked (n + 4) [tD a, tD b, .tup [.loc ls, eD ed]] h = .ok (.loc h.length) (h ++ [.lst (P.map pD)]) := by
  refine R.wp_eq.mp (R.wp_mono (walked_ok n h ls a b sts ed es hz r f hn) ?_ ?_)
  · rintro d h' ⟨Q, w2, _, rfl, rfl⟩
    rw [w] at w2
    cases w2
    exact ⟨rfl, rfl⟩
  · rintro c h' ⟨z, _⟩
    exact absurd g (z P w)
theorem law_k37_ok (ns : List Int) (hl : ns.length ≤ 63) : ∃ h, F_law_k37 230 [.ro ns] [] = .ok (.bl true) h := by
  have w : (F_law_k37 (229 + 1) [.ro ns] []).wp (fun d _ => d = .bl true) xF := by
    rw [S_law_k37]
    have c1' := fun h => cell_ok 228 h ns 1
    have c1 : ∀ h, F__law_cell_at 229 [.ro ns, .int 1] h = .ok (.int (cellI ns 1)) h := c1'
    generalize cellI ns 1 = first at c1
    clear c1'
    rw [wp_pure, wp_run]
    refine ⟨rfl, ?_⟩
    unfold m_law_k37
    simp only [startD, List.map_cons, List.map_nil, List.length_cons, List.length_nil]
    simp only [List.set_cons_succ, List.set_cons_zero, List.replicate, List.cons_append, List.nil_append]
    obtain ⟨a, b, ep, f⟩ := law_pair_ok 226 [] ns (by decide)
    have ep : F__law_pair_v2 229 [.ro ns] [] = .ok (.tup [tD a, tD b]) [] := ep
    have f1 : ∀ p ∈ [(a, b)], fineK p := fun p hp => by cases List.mem_singleton.mp hp; exact f
    obtain ⟨DA, hDA⟩ : ∃ DA, DA = tD a := ⟨_, rfl⟩
    obtain ⟨DB, hDB⟩ : ∃ DB, DB = tD b := ⟨_, rfl⟩
    have p0 : [D.tup [DA, DB]] = [(a, b)].map pD := by rw [hDA, hDB]; rfl
    rw [← hDA, ← hDB] at ep
    refine st_seq [some (.ro ns), some DA, some DB, none, none, none, none, none, none, none, none, none, none, none] [] (by simp [wp_v, ep]) ?_
    obtain ⟨cells, hcells⟩ : ∃ cells, cells = (ns.take 42).drop 2 := ⟨_, rfl⟩
    have cl : cells.length ≤ 40 := by rw [hcells, List.length_drop, List.length_take]; omega
    obtain ⟨HH, hHH⟩ : ∃ HH : List Pr → List Stp → Hs → Hs, HH = fun P sts q => (.lst (P.map pD) :: .lst (sts.map sD) :: .lst (cells.map D.int) :: q) := ⟨_, rfl⟩
    refine st_set (.loc 0) [.lst ([(a, b)].map pD)] (by rw [← p0]; simp [wp_v]) ?_
    refine st_set (.loc 1) [.lst ([(a, b)].map pD), .lst []] (by generalize AO.lst ([(a, b)].map pD) = O1; simp [wp_v]) ?_
    simp only [List.set_cons_succ, List.set_cons_zero]
    have sl : ∀ h, slF (.ro ns) (some 2) (some 42) h = some (.loc h.length, h ++ [.lst (cells.map D.int)]) := fun h => by
      have e2 : (2 : Int) = ((2 : Nat) : Int) := rfl
      have e42 : (42 : Int) = ((42 : Nat) : Int) := rfl
      rw [slF_ro, e2, e42, cut_ab, ← hcells]
    have g0 : ∀ P sts q, (HH P sts q)[0]? = some (.lst (P.map pD)) := fun P sts q => by rw [hHH]; rfl
    have g1 : ∀ P sts q, (HH P sts q)[1]? = some (.lst (sts.map sD)) := fun P sts q => by rw [hHH]; rfl
    have g2 : ∀ P sts q, (HH P sts q)[2]? = some (.lst (cells.map D.int)) := fun P sts q => by rw [hHH]; rfl
    have hA : ∀ P sts q r, HH P sts q ++ r = HH P sts (q ++ r) := fun P sts q r => by rw [hHH]; rfl
    have s0 : ∀ P sts q p, (HH P sts q).set 0 (.lst (P.map pD ++ [pD p])) = HH (P ++ [p]) sts q := fun P sts q p => by rw [hHH]; simp
    have s1 : ∀ P sts q p, (HH P sts q).set 1 (.lst (sts.map sD ++ [sD p])) = HH P (sts ++ [p]) q := fun P sts q p => by rw [hHH]; simp
    have start : HH [(a, b)] [] [] = [.lst ([(a, b)].map pD), .lst [], .lst (cells.map D.int)] := by rw [hHH]; rfl
    clear hcells
    obtain ⟨J, hJ⟩ : ∃ J : Nat → Sl → Hs → Prop, J = fun i ds h' => ∃ (P : List Pr) (sts : List Stp) (q : Hs) (x y z : Option D), walkP [(a, b)] sts = some P ∧ sts.length = i ∧ h' = HH P sts q ∧ ds = [some (.ro ns), some DA, some DB, some (.loc 0), some (.loc 1), x, y, z, none, none, none, none, none, none] := ⟨_, rfl⟩
    refine st_for (cells.map D.int) (fun h' => h'[2]? = some (.lst (cells.map D.int))) (HH [(a, b)] [] []) J ?_ (by rw [hJ]; exact ⟨[(a, b)], [], [], none, none, none, rfl, rfl, rfl, rfl⟩) (fun i ds h' hj => by rw [hJ] at hj; obtain ⟨P, sts, q, _, _, _, _, _, rfl, _⟩ := hj; exact g2 P sts q) ?_ ?_
    · have it := its_lst (g2 [(a, b)] [] [])
      rw [start] at it ⊢
      have sl := sl [.lst ([(a, b)].map pD), .lst []]
      generalize AO.lst ([(a, b)].map pD) = O1 at *
      simp at sl
      simp [wp_v, sl, it]
    · intro i d ds h' hi hj
      rw [hJ] at hj
      obtain ⟨P, sts, q, x, y, z, wk, sl_, rfl, rfl⟩ := hj
      have il : i < cells.length := by
        have := (List.getElem?_eq_some_iff.mp hi).1
        rwa [List.length_map] at this
      obtain ⟨cv, rfl⟩ : ∃ cv : Int, d = .int cv := by
        have := List.mem_of_getElem? hi
        obtain ⟨cv, _, rfl⟩ := List.mem_map.mp this
        exact ⟨cv, rfl⟩
      obtain ⟨fP, lP⟩ := walk_fine _ _ _ f1 wk
      have lP : P.length = 1 + sts.length := lP
      obtain ⟨ys, ey, yl, _⟩ := stream_ok 228 (HH P sts q) cv 3 (by decide)
      have ey : F__law_stream 229 [.int cv, .int 3] (HH P sts q) = .ok (.loc (HH P sts q).length) (HH P sts q ++ [.lst (ys.map D.int)]) := ey
      obtain ⟨d, h2, es, rfl, st, p, rfl, sp⟩ := R.wp_ex (law_step_ok 227 (HH P sts q ++ [.lst (ys.map D.int)]) 0 (HH P sts q).length P ys (get_app (g0 P sts q)) (by simp) yl (by omega) (by omega) fun p hp => (fP p hp).1)
      have es : F__law_step 229 [.loc 0, .loc (HH P sts q).length] (HH P sts q ++ [.lst (ys.map D.int)]) = .ok (.tup [sD st, pD p]) (HH P sts q ++ [.lst (ys.map D.int)]) := es
      rw [hA] at ey es
      obtain ⟨Q, hQ⟩ : ∃ Q, Q = q ++ [AO.lst (ys.map D.int)] := ⟨_, rfl⟩
      rw [← hQ] at ey es
      have ap1 := append_lst (v := sD st) (g1 P sts Q) (by rw [List.length_map]; omega)
      rw [s1] at ap1
      have ap2 := append_lst (v := pD p) (g0 P (sts ++ [st]) Q) (by rw [List.length_map]; omega)
      rw [s0] at ap2
      have k1 := ck_lst (g1 P sts Q)
      have k2 := ck_lst (g0 P (sts ++ [st]) Q)
      have fin : J (i + 1) [some (.ro ns), some DA, some DB, some (.loc 0), some (.loc 1), some (.int cv), some (sD st), some (pD p), none, none, none, none, none, none] (HH (P ++ [p]) (sts ++ [st]) Q) := by
        rw [hJ]
        refine ⟨P ++ [p], sts ++ [st], Q, _, _, _, ?_, by simp [sl_], rfl, rfl⟩
        rw [walkP_app, wk]
        simp only [Option.bind_some, walkP, sp]
      clear hHH hJ start
      generalize sD st = SS at *
      generalize pD p = PP at *
      generalize HH P sts q = Z0 at *
      generalize HH P sts Q = Z1 at *
      generalize HH P (sts ++ [st]) Q = Z2 at *
      generalize HH (P ++ [p]) (sts ++ [st]) Q = Z3 at *
      simp [wp_v, ey, es, k1, ap1, k2, ap2, fin]
    · intro ds h' hj
      rw [hJ] at hj
      obtain ⟨P, sts, q, x, y, z, wk, sl_, rfl, rfl⟩ := hj
      rw [List.length_map] at sl_
      obtain ⟨fP, lP⟩ := walk_fine _ _ _ f1 wk
      have lP : P.length = 1 + sts.length := lP
      have g0 := g0 P sts
      have g1 := g1 P sts
      have hA := hA P sts
      generalize hG : HH P sts = G at *
      clear hHH hJ start s0 s1 g2 hG p0 ep
      obtain ⟨xs, ex, xl, _⟩ := stream_ok 228 (G q) (first + 3) 9 (by decide)
      have ex : F__law_stream 229 [.int (first + 3), .int 9] (G q) = .ok (.loc (G q).length) (G q ++ [.lst (xs.map D.int)]) := ex
      obtain ⟨lx, hlx⟩ : ∃ lx, lx = (G q).length := ⟨_, rfl⟩
      obtain ⟨q1, hq1⟩ : ∃ q1, q1 = q ++ [AO.lst (xs.map D.int)] := ⟨_, rfl⟩
      have gx : ∀ r, (G (q1 ++ r))[lx]? = some (.lst (xs.map D.int)) := fun r => by
        rw [hq1, hlx, ← hA, ← hA]
        simp
      rw [hA, ← hq1, ← hlx] at ex
      refine st_set (.loc lx) (G q1) (by simp [wp_v, c1, ex]) ?_
      simp only [List.set_cons_succ, List.set_cons_zero]
      clear ex hlx hq1
      -- the end
      obtain ⟨q2, hq2⟩ : ∃ q2, q2 = q1 ++ [AO.lst ((xs.take 3).map D.int)] := ⟨_, rfl⟩
      have sl1 : slF (.loc lx) none (some 3) (G q1) = some (.loc (G q1).length, G q2) := by
        have e3 : (3 : Int) = ((3 : Nat) : Int) := rfl
        have gx := gx []
        rw [List.append_nil] at gx
        rw [slF_lst gx, e3, cut_toN, ← List.map_take, hA, hq2]
      obtain ⟨d, h3, en, ed, bb, q3, rfl, rfl, r, gb⟩ := R.wp_ex (law_end_ok 227 (G q2) 0 (G q1).length P (xs.take 3) (g0 q2) (by rw [hq2, ← hA]; simp) (by rw [List.length_take]; omega) (by omega) (by omega) fP (by decide))
      have en : F__law_end 229 [.loc 0, .loc (G q1).length] (G q2) = .ok (.tup [eD ed, .bl bb]) (G q2 ++ q3) := en
      rw [hA] at en r
      obtain ⟨q4, hq4⟩ : ∃ q4, q4 = q2 ++ q3 := ⟨_, rfl⟩
      rw [← hq4] at en r
      obtain ⟨EE, hEE⟩ : ∃ EE, EE = eD ed := ⟨_, rfl⟩
      rw [← hEE] at en
      refine st_seq [some (.ro ns), some DA, some DB, some (.loc 0), some (.loc 1), x, y, z, some (.loc lx), some EE, some (.bl bb), none, none, none] (G q4) (by simp [wp_v, sl1, en]) ?_
      clear en sl1
      have gx4 : ∀ r, (G (q4 ++ r))[lx]? = some (.lst (xs.map D.int)) := fun r => by
        rw [hq4, hq2]
        have := gx ([AO.lst ((xs.take 3).map D.int)] ++ q3 ++ r)
        simpa using this
      obtain ⟨lh, hlh⟩ : ∃ lh, lh = (G q4).length := ⟨_, rfl⟩
      obtain ⟨q5, hq5⟩ : ∃ q5, q5 = q4 ++ [AO.lst (sts.map sD)] := ⟨_, rfl⟩
      have lt : lstT [.loc 1] (G q4) = some (.loc lh, G q5) := by
        rw [hq5, hlh, ← hA]
        simp [lstT, g1 q4]
      refine st_set (.tup [.loc lh, EE]) (G q5) (by simp [wp_v, lt]) ?_
      simp only [List.set_cons_succ, List.set_cons_zero]
      have gh : ∀ r, (G (q5 ++ r))[lh]? = some (.lst (sts.map sD)) := fun r => by
        rw [hq5, hlh, ← hA, ← hA]
        simp
      have r5 : ∀ r', ed.inH (G (q5 ++ r')) := fun r' => by
        rw [hq5, ← hA, ← hA]
        exact inH_app (inH_app r)
      have gx5 : ∀ r, (G (q5 ++ r))[lx]? = some (.lst (xs.map D.int)) := fun r => by
        rw [hq5, List.append_assoc]
        exact gx4 _
      clear lt hlh hq5 hq4 hq2 gx gx4 r
      have gh0 := gh []
      have r50 := r5 []
      rw [List.append_nil] at gh0 r50
      obtain ⟨x12, q6, e6⟩ : ∃ x12 q6, ((ifM (truM (vM 10)) (seqM (setM 12 (callM (F_walked 229) (consA (vM 1) (consA (vM 2) (consA (vM 11) nilA))))) (ifM (orM (notM (truM (unM (isF "list") (vM 12)))) (tbM (binM neF (vM 12) (vM 3)))) (retM (cM (.bl false))) (passM))) (ifM (notM (truM (callM (F__law_refused 229) (consA (vM 1) (consA (vM 2) (consA (vM 11) nilA)))))) (retM (cM (.bl false))) (passM)))
          [some (.ro ns), some DA, some DB, some (.loc 0), some (.loc 1), x, y, z, some (.loc lx), some EE, some (.bl bb), some (.tup [.loc lh, EE]), none, none] (G q5)).wp (fun a' b' => a' = [some (.ro ns), some DA, some DB, some (.loc 0), some (.loc 1), x, y, z, some (.loc lx), some EE, some (.bl bb), some (.tup [.loc lh, EE]), x12, none] ∧ b' = G (q5 ++ q6)) (fun _ _ => False) xF := by
        cases bb with
        | true =>
          have g := gb.mp rfl
          have w9 := good_ret (n := 225) gh0 (by omega) r50 f (by decide) wk g
          have w9 : F_walked 229 [tD a, tD b, .tup [.loc lh, eD ed]] (G q5) = .ok (.loc (G q5).length) (G q5 ++ [.lst (P.map pD)]) := w9
          rw [← hDA, ← hDB, ← hEE, hA] at w9
          have gl : (G (q5 ++ [.lst (P.map pD)]))[(G q5).length]? = some (.lst (P.map pD)) := by rw [← hA]; simp
          have il := isl_lst gl
          obtain ⟨po, pz⟩ := pyOk_fine P fun p hp => (fP p hp).1
          have ne := ne_lst_same gl (g0 (q5 ++ [.lst (P.map pD)])) po pz
          refine ⟨some (.loc (G q5).length), [.lst (P.map pD)], ?_⟩
          clear gl
          generalize G (q5 ++ [AO.lst (P.map pD)]) = G6 at *
          simp [wp_v, truD, w9, il, ne]
        | false =>
          have ng : ∀ Q, walkP [(a, b)] sts = some Q → ¬ endOk Q ed := fun Q hQ z => by
            rw [wk] at hQ
            cases hQ
            have := gb.mpr z
            cases this
          have w9 := bad_exc (n := 224) gh0 (by omega) r50 f (by decide) ng
          have rf := law_refused_ok 228 (G q5) _ _ _ w9
          have rf : F__law_refused 229 [tD a, tD b, .tup [.loc lh, eD ed]] (G q5) = .ok (.bl true) (G q5) := rf
          rw [← hDA, ← hDB, ← hEE] at rf
          refine ⟨none, [], ?_⟩
          simp [wp_v, truD, rf]
      refine st_seq _ _ e6 ?_
      clear e6
      -- the bad one
      obtain ⟨xs5, hxs5⟩ : ∃ xs5, xs5 = (xs.take 8).drop 3 := ⟨_, rfl⟩
      have xl5 : xs5.length = 5 := by rw [hxs5, List.length_drop, List.length_take]; omega
      have sl2 : slF (.loc lx) (some 3) (some 8) (G (q5 ++ q6)) = some (.loc (G (q5 ++ q6)).length, G (q5 ++ q6 ++ [.lst (xs5.map D.int)])) := by
        have e3 : (3 : Int) = ((3 : Nat) : Int) := rfl
        have e8 : (8 : Int) = ((8 : Nat) : Int) := rfl
        rw [slF_lst (gx5 q6), e3, e8, cut_ab, hA, hxs5, List.map_drop, List.map_take]
      have r7 : ed.inH (G (q5 ++ q6 ++ [.lst (xs5.map D.int)])) := by
        rw [List.append_assoc]; exact r5 _
      obtain ⟨d, h7, e7, ls2, sts2, ed2, q7, rfl, rfl, gs2, sl2l, r2, no2⟩ := R.wp_ex (law_bad_ok 226 (G (q5 ++ q6 ++ [.lst (xs5.map D.int)])) 1 0 (G (q5 ++ q6)).length sts P ed xs5 a b (g1 _) (g0 _) (by rw [← hA]; simp) xl5 r7 wk f (by omega) (by decide))
      have e7 : F__law_bad 229 [.loc 1, .loc 0, eD ed, .loc (G (q5 ++ q6)).length] (G (q5 ++ q6 ++ [.lst (xs5.map D.int)])) = .ok (.tup [.loc ls2, eD ed2]) (G (q5 ++ q6 ++ [.lst (xs5.map D.int)]) ++ q7) := e7
      rw [hA] at e7 gs2 r2
      obtain ⟨q8, hq8⟩ : ∃ q8, q8 = q6 ++ [AO.lst (xs5.map D.int)] ++ q7 := ⟨_, rfl⟩
      have hq8' : q5 ++ q6 ++ [AO.lst (xs5.map D.int)] ++ q7 = q5 ++ q8 := by rw [hq8]; simp
      rw [hq8'] at e7 gs2 r2
      have w1 := bad_exc (n := 224) gs2 (by omega) r2 f (by decide) no2
      have rf := law_refused_ok 228 (G (q5 ++ q8)) _ _ _ w1
      have rf : F__law_refused 229 [tD a, tD b, .tup [.loc ls2, eD ed2]] (G (q5 ++ q8)) = .ok (.bl true) (G (q5 ++ q8)) := rf
      have rb := law_refused_base_ok 228 (G (q5 ++ q8)) _ _ _ w1
      have rb : F__law_refused_by_base 229 [tD a, tD b, .tup [.loc ls2, eD ed2]] (G (q5 ++ q8)) = .ok (.bl true) (G (q5 ++ q8)) := rb
      have ne := ne_handed (gh q8) (g1 (q5 ++ q8)) (r5 q8)
      rw [← hDA, ← hDB] at rf rb
      rw [← hEE] at e7 ne
      generalize eD ed2 = E2 at *
      refine st_set (.tup [.loc ls2, E2]) (G (q5 ++ q8)) ?_ ?_
      · generalize G (q5 ++ q8) = G8 at *
        generalize G (q5 ++ q6 ++ [AO.lst (xs5.map D.int)]) = G7 at *
        simp [wp_v, sl2, e7]
      simp only [List.set_cons_succ, List.set_cons_zero]
      generalize G (q5 ++ q8) = G8 at *
      simp [wp_v, truD, ne, rf, rb, noloc]
  obtain ⟨d, h, e, rfl⟩ := R.wp_ex w
  exact ⟨h, e⟩
end DV
namespace Hd
open PySem PySem.Spec PyProof.Rows L2 DV
def top (i : Nat) : Stmt := PySem.Challenge.pw_commonform_k37_papers_walked.main.body.getD i (.Pass ⟨0, 0, 0, 0⟩)
abbrev s_blanks_of : Stmt := top 6
def d_blanks_of : He.DefD := ⟨("blanks_of", none), "blanks_of", "blanks_of", defArgs s_blanks_of, defBody s_blanks_of, defScope s_blanks_of, [], []⟩
abbrev s_both_blocks : Stmt := top 8
def d_both_blocks : He.DefD := ⟨("both_blocks", none), "both_blocks", "both_blocks", defArgs s_both_blocks, defBody s_both_blocks, defScope s_both_blocks, [], []⟩
abbrev s_same_kind : Stmt := top 9
def d_same_kind : He.DefD := ⟨("same_kind", none), "same_kind", "same_kind", defArgs s_same_kind, defBody s_same_kind, defScope s_same_kind, [], []⟩
abbrev s_likeness : Stmt := top 10
def d_likeness : He.DefD := ⟨("likeness", none), "likeness", "likeness", defArgs s_likeness, defBody s_likeness, defScope s_likeness, [], []⟩
abbrev s_by_step : Stmt := top 11
def d_by_step : He.DefD := ⟨("by_step", none), "by_step", "by_step", defArgs s_by_step, defBody s_by_step, defScope s_by_step, [], []⟩
abbrev s_check_row : Stmt := top 12
def d_check_row : He.DefD := ⟨("check_row", none), "check_row", "check_row", defArgs s_check_row, defBody s_check_row, defScope s_check_row, [], []⟩
abbrev s_check_end : Stmt := top 13
def d_check_end : He.DefD := ⟨("check_end", none), "check_end", "check_end", defArgs s_check_end, defBody s_check_end, defScope s_check_end, [], []⟩
abbrev s_walked : Stmt := top 14
def d_walked : He.DefD := ⟨("walked", none), "walked", "walked", defArgs s_walked, defBody s_walked, defScope s_walked, [], []⟩
abbrev s__law_cell_at : Stmt := top 16
def d__law_cell_at : He.DefD := ⟨("_law_cell_at", none), "_law_cell_at", "_law_cell_at", defArgs s__law_cell_at, defBody s__law_cell_at, defScope s__law_cell_at, [], []⟩
abbrev s__law_stream : Stmt := top 17
def d__law_stream : He.DefD := ⟨("_law_stream", none), "_law_stream", "_law_stream", defArgs s__law_stream, defBody s__law_stream, defScope s__law_stream, [], []⟩
abbrev s__law_names : Stmt := top 18
def d__law_names : He.DefD := ⟨("_law_names", none), "_law_names", "_law_names", defArgs s__law_names, defBody s__law_names, defScope s__law_names, [], []⟩
abbrev s__law_number : Stmt := top 19
def d__law_number : He.DefD := ⟨("_law_number", none), "_law_number", "_law_number", defArgs s__law_number, defBody s__law_number, defScope s__law_number, [], []⟩
abbrev s__law_grow : Stmt := top 20
def d__law_grow : He.DefD := ⟨("_law_grow", none), "_law_grow", "_law_grow", defArgs s__law_grow, defBody s__law_grow, defScope s__law_grow, [], []⟩
abbrev s__law_tree : Stmt := top 21
def d__law_tree : He.DefD := ⟨("_law_tree", none), "_law_tree", "_law_tree", defArgs s__law_tree, defBody s__law_tree, defScope s__law_tree, [], []⟩
abbrev s__law_changed : Stmt := top 22
def d__law_changed : He.DefD := ⟨("_law_changed", none), "_law_changed", "_law_changed", defArgs s__law_changed, defBody s__law_changed, defScope s__law_changed, [], []⟩
abbrev s__law_whole : Stmt := top 23
def d__law_whole : He.DefD := ⟨("_law_whole", none), "_law_whole", "_law_whole", defArgs s__law_whole, defBody s__law_whole, defScope s__law_whole, [], []⟩
abbrev s__law_is_tree : Stmt := top 24
def d__law_is_tree : He.DefD := ⟨("_law_is_tree", none), "_law_is_tree", "_law_is_tree", defArgs s__law_is_tree, defBody s__law_is_tree, defScope s__law_is_tree, [], []⟩
abbrev s__law_filled : Stmt := top 25
def d__law_filled : He.DefD := ⟨("_law_filled", none), "_law_filled", "_law_filled", defArgs s__law_filled, defBody s__law_filled, defScope s__law_filled, [], []⟩
abbrev s__law_blanks : Stmt := top 26
def d__law_blanks : He.DefD := ⟨("_law_blanks", none), "_law_blanks", "_law_blanks", defArgs s__law_blanks, defBody s__law_blanks, defScope s__law_blanks, [], []⟩
abbrev s__law_plain : Stmt := top 27
def d__law_plain : He.DefD := ⟨("_law_plain", none), "_law_plain", "_law_plain", defArgs s__law_plain, defBody s__law_plain, defScope s__law_plain, [], []⟩
abbrev s__law_pair : Stmt := top 28
def d__law_pair : He.DefD := ⟨("_law_pair", none), "_law_pair", "_law_pair", defArgs s__law_pair, defBody s__law_pair, defScope s__law_pair, [], []⟩
abbrev s__law_same : Stmt := top 29
def d__law_same : He.DefD := ⟨("_law_same", none), "_law_same", "_law_same", defArgs s__law_same, defBody s__law_same, defScope s__law_same, [], []⟩
abbrev s__law_step : Stmt := top 30
def d__law_step : He.DefD := ⟨("_law_step", none), "_law_step", "_law_step", defArgs s__law_step, defBody s__law_step, defScope s__law_step, [], []⟩
abbrev s__law_end : Stmt := top 31
def d__law_end : He.DefD := ⟨("_law_end", none), "_law_end", "_law_end", defArgs s__law_end, defBody s__law_end, defScope s__law_end, [], []⟩
abbrev s__law_bad_step : Stmt := top 32
def d__law_bad_step : He.DefD := ⟨("_law_bad_step", none), "_law_bad_step", "_law_bad_step", defArgs s__law_bad_step, defBody s__law_bad_step, defScope s__law_bad_step, [], []⟩
abbrev s__law_bad_end : Stmt := top 33
def d__law_bad_end : He.DefD := ⟨("_law_bad_end", none), "_law_bad_end", "_law_bad_end", defArgs s__law_bad_end, defBody s__law_bad_end, defScope s__law_bad_end, [], []⟩
abbrev s__law_bad : Stmt := top 34
def d__law_bad : He.DefD := ⟨("_law_bad", none), "_law_bad", "_law_bad", defArgs s__law_bad, defBody s__law_bad, defScope s__law_bad, [], []⟩
abbrev s__law_refused : Stmt := top 35
def d__law_refused : He.DefD := ⟨("_law_refused", none), "_law_refused", "_law_refused", defArgs s__law_refused, defBody s__law_refused, defScope s__law_refused, [], []⟩
abbrev s__law_refused_by_base : Stmt := top 36
def d__law_refused_by_base : He.DefD := ⟨("_law_refused_by_base", none), "_law_refused_by_base", "_law_refused_by_base", defArgs s__law_refused_by_base, defBody s__law_refused_by_base, defScope s__law_refused_by_base, [], []⟩
abbrev s_law : Stmt := top 37
def d_law : He.DefD := ⟨("law", none), "law", "law", defArgs s_law, defBody s_law, defScope s_law, [], []⟩
def fn : List He.DefD := [d_blanks_of, d_both_blocks, d_same_kind, d_likeness, d_by_step, d_check_row, d_check_end, d_walked, d__law_cell_at, d__law_stream, d__law_names, d__law_number, d__law_grow, d__law_tree, d__law_changed, d__law_whole, d__law_is_tree, d__law_filled, d__law_blanks, d__law_plain, d__law_pair, d__law_same, d__law_step, d__law_end, d__law_bad_step, d__law_bad_end, d__law_bad, d__law_refused, d__law_refused_by_base, d_law]
def fa : List Fx := [.he (.glo "blanks_of"), .he (.glo "both_blocks"), .he (.glo "same_kind"), .he (.glo "likeness"), .he (.glo "by_step"), .he (.glo "check_row"), .he (.glo "check_end"), .he (.glo "walked"), .he (.glo "_law_cell_at"), .he (.glo "_law_stream"), .he (.glo "_law_names"), .he (.glo "_law_number"), .he (.glo "_law_grow"), .he (.glo "_law_tree"), .he (.glo "_law_changed"), .he (.glo "_law_whole"), .he (.glo "_law_is_tree"), .he (.glo "_law_filled"), .he (.glo "_law_blanks"), .he (.glo "_law_plain"), .he (.glo "_law_pair"), .he (.glo "_law_same"), .he (.glo "_law_step"), .he (.glo "_law_end"), .he (.glo "_law_bad_step"), .he (.glo "_law_bad_end"), .he (.glo "_law_bad"), .he (.glo "_law_refused"), .he (.glo "_law_refused_by_base"), .he (.glo "law"), .he (.glo "FormError"), .he (.glo "BadText"), .he (.glo "TooLong"), .he (.glo "BadPaper"), .he (.free "len"), .he (.free "range"), .he (.free "int"), .he (.free "str"), .he (.free "sum"), .he (.free "max"), .he (.free "min"), .he (.free "enumerate"), .he (.free "isinstance"), .he (.free "tuple"), .he (.free "list"), .he (.free "dict"), .he (.free "sorted"), .he (.free "abs"), .he (.free "all"), .he (.free "set"), .he (.free "bool"), .he (.free "ValueError"), .he (.exc "FormError"), .kx "FormError", .he (.exm "FormError" "BadPaper" false), .he (.exm "FormError" "FormError" true), .ix "FormError" "BadText" false, .ix "FormError" "TooLong" false, .ib "FormError" "ValueError" true, .he (.exc "BadText"), .kx "BadText", .he (.exm "BadText" "BadPaper" false), .he (.exm "BadText" "FormError" true), .ix "BadText" "BadText" true, .ix "BadText" "TooLong" false, .ib "BadText" "ValueError" true, .he (.exc "TooLong"), .kx "TooLong", .he (.exm "TooLong" "BadPaper" false), .he (.exm "TooLong" "FormError" true), .ix "TooLong" "BadText" false, .ix "TooLong" "TooLong" true, .ib "TooLong" "ValueError" true, .he (.exc "BadPaper"), .kx "BadPaper", .he (.exm "BadPaper" "BadPaper" true), .he (.exm "BadPaper" "FormError" true), .ix "BadPaper" "BadText" false, .ix "BadPaper" "TooLong" false, .ib "BadPaper" "ValueError" true]
abbrev R : PySem.W.OpenRow := PySem.W.OpenLaw.row PySem.Challenge.rw_commonform_k37_papers_walked
abbrev hk : PySem.W.Hook := hookX 5 fa fn
def ob (s : PySem.W.SharedT) : He.AlD := obsXG 5 fa fn (HandSHeadRun.getT s)
theorem ob_eq (s : PySem.W.SharedT) : ob s = hk.obs s.abs := obsXG_eq (HandSHeadRun.getT_eq s)
def ls0 : List PySem.Str := ["FormError", "BadText", "TooLong", "BadPaper", "blanks_of", "both_blocks", "same_kind", "likeness", "by_step", "check_row", "check_end", "walked", "_law_cell_at", "_law_stream", "_law_names", "_law_number", "_law_grow", "_law_tree", "_law_changed", "_law_whole", "_law_is_tree", "_law_filled", "_law_blanks", "_law_plain", "_law_pair", "_law_same", "_law_step", "_law_end", "_law_bad_step", "_law_bad_end"]
def ls1 : List PySem.Str := ["_law_bad", "_law_refused", "_law_refused_by_base"]
def ls : List PySem.Str := ls0 ++ ls1
theorem run (w : World) : HandSHeadRun.RunEq R (PySem.W.view R.prog [37]) hk ob 8500 ls w := by
  intro os
  kernel_rfl
end Hd
namespace Wk
open PySem PySem.Spec PyProof.Rows L2 DV Hd
section
variable {P : Program} {w : World} {K : PySem.W.Frag} {mg : Str → Option Value} {base : Heap} {n : Nat} {f : Addr} {fd : FuncData}
theorem sc_blanks_of : FnScope ["tree", "found", "part", "number"] ["tree"] (defScope s_blanks_of) := ⟨rfl, rfl, rfl, by decide +kernel, rfl, by decide +kernel, by decide +kernel⟩
theorem ok_blanks_of (F : FunD K "blanks_of" "blanks_of" (defArgs s_blanks_of) (defBody s_blanks_of) (defScope s_blanks_of) [] [] f fd) (B : Blt mg) {f_blanks_of : Fm} (A_blanks_of : FnAt P w K mg base n "blanks_of" ["tree"] f_blanks_of) :
    FnOk P w K mg base (L2.CX P w) (n + 1) f fd ["tree"] (spM K 1 (kNew.f (runM 1 4 (m_blanks_of f_blanks_of)))) :=
  def_ok (N := ["tree", "found", "part", "number"]) kNew F sc_blanks_of fun cdv A outer s H E W hr tk =>
    sms_cons (sm_if (tm_cmp (o_eq (hu195 hr)) (em_ix (o_ix (by first | exact hu1 hr | (have hz := hu1 hr; exact hz))) (em_v (pv 0)) (em_int) (fun _ _ => rfl)) (em_str) (nomark _)) (sms_one (sm_ret (em_lst (am_cons (em_ix (o_ix (by first | exact hu1 hr | (have hz := hu1 hr; exact hz))) (em_v (pv 0)) (em_int) (fun _ _ => rfl)) (am_nil))))) (sms_nil))
    (sms_cons (sm_set (i := 1) sc_blanks_of.nd rfl (by first | exact Or.inl rfl | exact Or.inr rfl) (em_lst (am_nil)))
    (sms_cons (sm_for (passes_of rfl) rfl (im_val rfl (em_ix (o_ix (by first | exact hu1 hr | (have hz := hu1 hr; exact hz))) (em_v (pv 0)) (em_int) (fun _ _ => rfl))) (gm_name (i := 2) (pg_name (i := 2) sc_blanks_of.nd rfl (by first | exact Or.inl rfl | exact Or.inr rfl))) (sms_one (sm_for (passes_of rfl) rfl (im_val rfl (em_call A_blanks_of rfl hr tk rfl (am_cons (em_v (pv 2)) (am_nil)))) (gm_name (i := 3) (pg_name (i := 3) sc_blanks_of.nd rfl (by first | exact Or.inl rfl | exact Or.inr rfl))) (sms_one (sm_if (tm_cmp (o_nin (hu195 hr)) (em_v (pv 3)) (em_v (pv 1)) rfl) (sms_one (sm_expr (em_bm rfl PySem.F.plainAttrs_list PySem.F.slot_list_append PySem.F.type_list_append k_append (fun _ _ _ _ _ => ckList_ty) (em_v (pv 1)) (am_cons (em_v (pv 3)) (am_nil))))) (sms_nil))))))
    (sms_one (sm_ret (em_v (pv 1))))))
theorem sc_both_blocks : FnScope ["pair"] ["pair"] (defScope s_both_blocks) := ⟨rfl, rfl, rfl, by decide +kernel, rfl, by decide +kernel, by decide +kernel⟩
theorem ok_both_blocks (F : FunD K "both_blocks" "both_blocks" (defArgs s_both_blocks) (defBody s_both_blocks) (defScope s_both_blocks) [] [] f fd) (B : Blt mg) :
    FnOk P w K mg base (L2.CX P w) (n + 1) f fd ["pair"] (spM K 1 (kPure.f (runM 1 1 (m_both_blocks)))) :=
  def_ok (N := ["pair"]) kPure F sc_both_blocks fun cdv A outer s H E W hr tk =>
    sms_one (sm_ret (em_and (em_cmp (o_eq (hu195 hr)) (em_ix (o_ix (by first | exact hu1 hr | (have hz := hu1 hr; exact hz))) (em_ix (o_ix (by first | exact hu1 hr | (have hz := hu1 hr; exact hz))) (em_v (pv 0)) (em_int) (fun _ _ => rfl)) (em_int) (fun _ _ => rfl)) (em_str) (nomark _)) (em_one (em_cmp (o_eq (hu195 hr)) (em_ix (o_ix (by first | exact hu1 hr | (have hz := hu1 hr; exact hz))) (em_ix (o_ix (by first | exact hu1 hr | (have hz := hu1 hr; exact hz))) (em_v (pv 0)) (em_int) (fun _ _ => rfl)) (em_int) (fun _ _ => rfl)) (em_str) (nomark _)))))
theorem sc_same_kind : FnScope ["pair"] ["pair"] (defScope s_same_kind) := ⟨rfl, rfl, rfl, by decide +kernel, rfl, by decide +kernel, by decide +kernel⟩
theorem ok_same_kind (F : FunD K "same_kind" "same_kind" (defArgs s_same_kind) (defBody s_same_kind) (defScope s_same_kind) [] [] f fd) (B : Blt mg) {f_both_blocks : Fm} (A_both_blocks : FnAt P w K mg base n "both_blocks" ["pair"] f_both_blocks) :
    FnOk P w K mg base (L2.CX P w) (n + 1) f fd ["pair"] (spM K 1 (kPure.f (runM 1 1 (m_same_kind f_both_blocks)))) :=
  def_ok (N := ["pair"]) kPure F sc_same_kind fun cdv A outer s H E W hr tk =>
    sms_one (sm_ret (em_and (em_call A_both_blocks rfl hr tk rfl (am_cons (em_v (pv 0)) (am_nil))) (em_and (em_cmp (o_eq (hu195 hr)) (em_ix (o_ix (by first | exact hu1 hr | (have hz := hu1 hr; exact hz))) (em_ix (o_ix (by first | exact hu1 hr | (have hz := hu1 hr; exact hz))) (em_v (pv 0)) (em_int) (fun _ _ => rfl)) (em_int) (fun _ _ => rfl)) (em_ix (o_ix (by first | exact hu1 hr | (have hz := hu1 hr; exact hz))) (em_ix (o_ix (by first | exact hu1 hr | (have hz := hu1 hr; exact hz))) (em_v (pv 0)) (em_int) (fun _ _ => rfl)) (em_int) (fun _ _ => rfl)) (nomark _)) (em_one (em_cmp (o_eq (hu195 hr)) (em_callB c_len rfl B.z_len (by decide +kernel) (am_cons (em_ix (o_ix (by first | exact hu1 hr | (have hz := hu1 hr; exact hz))) (em_ix (o_ix (by first | exact hu1 hr | (have hz := hu1 hr; exact hz))) (em_v (pv 0)) (em_int) (fun _ _ => rfl)) (em_int) (fun _ _ => rfl)) (am_nil))) (em_callB c_len rfl B.z_len (by decide +kernel) (am_cons (em_ix (o_ix (by first | exact hu1 hr | (have hz := hu1 hr; exact hz))) (em_ix (o_ix (by first | exact hu1 hr | (have hz := hu1 hr; exact hz))) (em_v (pv 0)) (em_int) (fun _ _ => rfl)) (em_int) (fun _ _ => rfl)) (am_nil))) (nomark _))))))
theorem sc_likeness : FnScope ["pairs", "number"] ["pairs", "number"] (defScope s_likeness) := ⟨rfl, rfl, rfl, by decide +kernel, rfl, by decide +kernel, by decide +kernel⟩
theorem ok_likeness (F : FunD K "likeness" "likeness" (defArgs s_likeness) (defBody s_likeness) (defScope s_likeness) [] [] f fd) (B : Blt mg) (x_BadPaper : ExcF K mg "BadPaper") :
    FnOk P w K mg base (L2.CX P w) (n + 1) f fd ["pairs", "number"] (spM K 2 (kPure.f (runM 2 2 (m_likeness)))) :=
  def_ok (N := ["pairs", "number"]) kPure F sc_likeness fun cdv A outer s H E W hr tk =>
    sms_cons (sm_if (PW.pt (tm_or (tm_cmp o_lt (em_v (pv 1)) (em_int) (nomark _)) (tm_or1 (tm_cmp o_ge (em_v (pv 1)) (em_callB c_len rfl B.z_len (by decide +kernel) (am_cons (em_v (pv 0)) (am_nil))) (nomark _))))) (sms_one (sm_raise x_BadPaper rfl rfl tk rfl)) (sms_nil))
    (sms_one (sm_ret (em_ix (o_ix (by first | exact hu1 hr | (have hz := hu1 hr; exact hz))) (em_v (pv 0)) (em_v (pv 1)) (fun _ _ => rfl))))
theorem sc_by_step : FnScope ["pairs", "step", "pair", "other"] ["pairs", "step"] (defScope s_by_step) := ⟨rfl, rfl, rfl, by decide +kernel, rfl, by decide +kernel, by decide +kernel⟩
theorem ok_by_step (F : FunD K "by_step" "by_step" (defArgs s_by_step) (defBody s_by_step) (defScope s_by_step) [] [] f fd) (B : Blt mg) (x_BadPaper : ExcF K mg "BadPaper") {f_likeness f_same_kind : Fm} (A_likeness : FnAt P w K mg base n "likeness" ["pairs", "number"] f_likeness) (A_same_kind : FnAt P w K mg base n "same_kind" ["pair"] f_same_kind) :
    FnOk P w K mg base (L2.CX P w) (n + 1) f fd ["pairs", "step"] (spM K 2 (kPure.f (runM 2 4 (m_by_step f_likeness f_same_kind)))) :=
  def_ok (N := ["pairs", "step", "pair", "other"]) kPure F sc_by_step fun cdv A outer s H E W hr tk =>
    sms_cons (sm_set (i := 2) sc_by_step.nd rfl (by first | exact Or.inl rfl | exact Or.inr rfl) (em_call A_likeness rfl hr tk rfl (am_cons (em_v (pv 0)) (am_cons (em_ix (o_ix (by first | exact hu1 hr | (have hz := hu1 hr; exact hz))) (em_v (pv 1)) (em_int) (fun _ _ => rfl)) (am_nil)))))
    (sms_cons (sm_if (tm_cmp (o_eq (hu195 hr)) (em_ix (o_ix (by first | exact hu1 hr | (have hz := hu1 hr; exact hz))) (em_v (pv 1)) (em_int) (fun _ _ => rfl)) (em_str) (nomark _)) (sms_one (sm_ret (em_tup (am_cons (em_ix (o_ix (by first | exact hu1 hr | (have hz := hu1 hr; exact hz))) (em_v (pv 2)) (em_int) (fun _ _ => rfl)) (am_cons (em_ix (o_ix (by first | exact hu1 hr | (have hz := hu1 hr; exact hz))) (em_v (pv 2)) (em_int) (fun _ _ => rfl)) (am_nil)))))) (sms_nil))
    (sms_cons (sm_if (tm_cmp (o_eq (hu195 hr)) (em_ix (o_ix (by first | exact hu1 hr | (have hz := hu1 hr; exact hz))) (em_v (pv 1)) (em_int) (fun _ _ => rfl)) (em_str) (nomark _)) (sms_cons (sm_if (PW.pt (tm_or (tm_not (tm_tru (em_call A_same_kind rfl hr tk rfl (am_cons (em_v (pv 2)) (am_nil))) rfl)) (tm_or (tm_cmp o_lt (em_ix (o_ix (by first | exact hu1 hr | (have hz := hu1 hr; exact hz))) (em_v (pv 1)) (em_int) (fun _ _ => rfl)) (em_int) (nomark _)) (tm_or1 (tm_cmp o_ge (em_ix (o_ix (by first | exact hu1 hr | (have hz := hu1 hr; exact hz))) (em_v (pv 1)) (em_int) (fun _ _ => rfl)) (em_callB c_len rfl B.z_len (by decide +kernel) (am_cons (em_ix (o_ix (by first | exact hu1 hr | (have hz := hu1 hr; exact hz))) (em_ix (o_ix (by first | exact hu1 hr | (have hz := hu1 hr; exact hz))) (em_v (pv 2)) (em_int) (fun _ _ => rfl)) (em_int) (fun _ _ => rfl)) (am_nil))) (nomark _)))))) (sms_one (sm_raise x_BadPaper rfl rfl tk rfl)) (sms_nil))
    (sms_one (sm_ret (em_tup (am_cons (em_ix (o_ix (by first | exact hu1 hr | (have hz := hu1 hr; exact hz))) (em_ix (o_ix (by first | exact hu1 hr | (have hz := hu1 hr; exact hz))) (em_ix (o_ix (by first | exact hu1 hr | (have hz := hu1 hr; exact hz))) (em_v (pv 2)) (em_int) (fun _ _ => rfl)) (em_int) (fun _ _ => rfl)) (em_ix (o_ix (by first | exact hu1 hr | (have hz := hu1 hr; exact hz))) (em_v (pv 1)) (em_int) (fun _ _ => rfl)) (fun _ _ => rfl)) (am_cons (em_ix (o_ix (by first | exact hu1 hr | (have hz := hu1 hr; exact hz))) (em_ix (o_ix (by first | exact hu1 hr | (have hz := hu1 hr; exact hz))) (em_ix (o_ix (by first | exact hu1 hr | (have hz := hu1 hr; exact hz))) (em_v (pv 2)) (em_int) (fun _ _ => rfl)) (em_int) (fun _ _ => rfl)) (em_ix (o_ix (by first | exact hu1 hr | (have hz := hu1 hr; exact hz))) (em_v (pv 1)) (em_int) (fun _ _ => rfl)) (fun _ _ => rfl)) (am_nil))))))) (sms_nil))
    (sms_cons (sm_if (tm_cmp (o_eq (hu195 hr)) (em_ix (o_ix (by first | exact hu1 hr | (have hz := hu1 hr; exact hz))) (em_v (pv 1)) (em_int) (fun _ _ => rfl)) (em_str) (nomark _)) (sms_cons (sm_set (i := 3) sc_by_step.nd rfl (by first | exact Or.inl rfl | exact Or.inr rfl) (em_call A_likeness rfl hr tk rfl (am_cons (em_v (pv 0)) (am_cons (em_ix (o_ix (by first | exact hu1 hr | (have hz := hu1 hr; exact hz))) (em_v (pv 1)) (em_int) (fun _ _ => rfl)) (am_nil)))))
    (sms_cons (sm_if (tm_cmp (o_ne (hu195 hr)) (em_ix (o_ix (by first | exact hu1 hr | (have hz := hu1 hr; exact hz))) (em_v (pv 2)) (em_int) (fun _ _ => rfl)) (em_ix (o_ix (by first | exact hu1 hr | (have hz := hu1 hr; exact hz))) (em_v (pv 3)) (em_int) (fun _ _ => rfl)) (nomark _)) (sms_one (sm_raise x_BadPaper rfl rfl tk rfl)) (sms_nil))
    (sms_one (sm_ret (em_tup (am_cons (em_ix (o_ix (by first | exact hu1 hr | (have hz := hu1 hr; exact hz))) (em_v (pv 2)) (em_int) (fun _ _ => rfl)) (am_cons (em_ix (o_ix (by first | exact hu1 hr | (have hz := hu1 hr; exact hz))) (em_v (pv 3)) (em_int) (fun _ _ => rfl)) (am_nil)))))))) (sms_nil))
    (sms_one (sm_raise x_BadPaper rfl rfl tk rfl)))))
theorem sc_check_row : FnScope ["pairs", "row", "k", "number", "pair", "after"] ["pairs", "row"] (defScope s_check_row) := ⟨rfl, rfl, rfl, by decide +kernel, rfl, by decide +kernel, by decide +kernel⟩
theorem ok_check_row (F : FunD K "check_row" "check_row" (defArgs s_check_row) (defBody s_check_row) (defScope s_check_row) [] [] f fd) (B : Blt mg) (x_BadPaper : ExcF K mg "BadPaper") {f_blanks_of f_likeness : Fm} (A_blanks_of : FnAt P w K mg base n "blanks_of" ["tree"] f_blanks_of) (A_likeness : FnAt P w K mg base n "likeness" ["pairs", "number"] f_likeness) :
    FnOk P w K mg base (L2.CX P w) (n + 1) f fd ["pairs", "row"] (spM K 2 (kPure.f (runM 2 6 (m_check_row f_blanks_of f_likeness)))) :=
  def_ok (N := ["pairs", "row", "k", "number", "pair", "after"]) kPure F sc_check_row fun cdv A outer s H E W hr tk =>
    sms_cons (sm_if (tm_cmp (o_eq (hu195 hr)) (em_v (pv 1)) (em_lst (am_nil)) (nomark _)) (sms_one (sm_raise x_BadPaper rfl rfl tk rfl)) (sms_nil))
    (sms_one (sm_for (passes_of rfl) rfl (im_enum rfl rfl B.z_enumerate (em_v (pv 1))) (gm_tup rfl (gms_cons (gm_name (i := 2) (pg_name (i := 2) sc_check_row.nd rfl (by first | exact Or.inl rfl | exact Or.inr rfl))) (gms_cons (gm_name (i := 3) (pg_name (i := 3) sc_check_row.nd rfl (by first | exact Or.inl rfl | exact Or.inr rfl))) (gms_nil))) rfl) (sms_cons (sm_set (i := 4) sc_check_row.nd rfl (by first | exact Or.inl rfl | exact Or.inr rfl) (em_call A_likeness rfl hr tk rfl (am_cons (em_v (pv 0)) (am_cons (em_v (pv 3)) (am_nil)))))
    (sms_cons (sm_set (i := 5) sc_check_row.nd rfl (by first | exact Or.inl rfl | exact Or.inr rfl) (em_ix (o_ix (by first | exact hu1 hr | (have hz := hu1 hr; exact hz))) (em_call A_likeness rfl hr tk rfl (am_cons (em_v (pv 0)) (am_cons (em_ix (o_ix (by first | exact hu1 hr | (have hz := hu1 hr; exact hz))) (em_v (pv 1)) (em_bin o_mod (em_bin o_add (em_v (pv 2)) (em_int)) (em_callB c_len rfl B.z_len (by decide +kernel) (am_cons (em_v (pv 1)) (am_nil)))) (fun _ _ => rfl)) (am_nil)))) (em_int) (fun _ _ => rfl)))
    (sms_cons (sm_if (PW.pt (tm_or (tm_cmp (o_ne (hu195 hr)) (em_ix (o_ix (by first | exact hu1 hr | (have hz := hu1 hr; exact hz))) (em_ix (o_ix (by first | exact hu1 hr | (have hz := hu1 hr; exact hz))) (em_v (pv 4)) (em_int) (fun _ _ => rfl)) (em_int) (fun _ _ => rfl)) (em_str) (nomark _)) (tm_or (tm_cmp (o_ne (hu195 hr)) (em_ix (o_ix (by first | exact hu1 hr | (have hz := hu1 hr; exact hz))) (em_ix (o_ix (by first | exact hu1 hr | (have hz := hu1 hr; exact hz))) (em_v (pv 4)) (em_int) (fun _ _ => rfl)) (em_int) (fun _ _ => rfl)) (em_str) (nomark _)) (tm_or1 (tm_cmp (o_ne (hu195 hr)) (em_ix (o_ix (by first | exact hu1 hr | (have hz := hu1 hr; exact hz))) (em_v (pv 5)) (em_int) (fun _ _ => rfl)) (em_str) (nomark _)))))) (sms_one (sm_raise x_BadPaper rfl rfl tk rfl)) (sms_nil))
    (sms_one (sm_if (tm_cmp (o_nin (hu195 hr)) (em_ix (o_ix (by first | exact hu1 hr | (have hz := hu1 hr; exact hz))) (em_v (pv 5)) (em_int) (fun _ _ => rfl)) (em_call A_blanks_of rfl hr tk rfl (am_cons (em_ix (o_ix (by first | exact hu1 hr | (have hz := hu1 hr; exact hz))) (em_v (pv 4)) (em_int) (fun _ _ => rfl)) (am_nil))) rfl) (sms_one (sm_raise x_BadPaper rfl rfl tk rfl)) (sms_nil))))))))
theorem sc_check_end : FnScope ["pairs", "end", "pair"] ["pairs", "end"] (defScope s_check_end) := ⟨rfl, rfl, rfl, by decide +kernel, rfl, by decide +kernel, by decide +kernel⟩
theorem ok_check_end (F : FunD K "check_end" "check_end" (defArgs s_check_end) (defBody s_check_end) (defScope s_check_end) [] [] f fd) (B : Blt mg) (x_BadPaper : ExcF K mg "BadPaper") {f_both_blocks f_same_kind f_likeness f_check_row : Fm} (A_both_blocks : FnAt P w K mg base n "both_blocks" ["pair"] f_both_blocks) (A_same_kind : FnAt P w K mg base n "same_kind" ["pair"] f_same_kind) (A_likeness : FnAt P w K mg base n "likeness" ["pairs", "number"] f_likeness) (A_check_row : FnAt P w K mg base n "check_row" ["pairs", "row"] f_check_row) :
    FnOk P w K mg base (L2.CX P w) (n + 1) f fd ["pairs", "end"] (spM K 2 (kPure.f (runM 2 3 (m_check_end f_both_blocks f_same_kind f_likeness f_check_row)))) :=
  def_ok (N := ["pairs", "end", "pair"]) kPure F sc_check_end fun cdv A outer s H E W hr tk =>
    sms_one (sm_if (tm_cmp (o_eq (hu195 hr)) (em_ix (o_ix (by first | exact hu1 hr | (have hz := hu1 hr; exact hz))) (em_v (pv 1)) (em_int) (fun _ _ => rfl)) (em_str) (nomark _)) (sms_cons (sm_set (i := 2) sc_check_end.nd rfl (by first | exact Or.inl rfl | exact Or.inr rfl) (em_call A_likeness rfl hr tk rfl (am_cons (em_v (pv 0)) (am_cons (em_ix (o_ix (by first | exact hu1 hr | (have hz := hu1 hr; exact hz))) (em_v (pv 1)) (em_int) (fun _ _ => rfl)) (am_nil)))))
    (sms_one (sm_if (PW.pt (tm_or (tm_not (tm_tru (em_call A_both_blocks rfl hr tk rfl (am_cons (em_v (pv 2)) (am_nil))) rfl)) (tm_or1 (tm_tru (em_call A_same_kind rfl hr tk rfl (am_cons (em_v (pv 2)) (am_nil))) rfl)))) (sms_one (sm_raise x_BadPaper rfl rfl tk rfl)) (sms_nil)))) (sms_one (sm_if (tm_cmp (o_eq (hu195 hr)) (em_ix (o_ix (by first | exact hu1 hr | (have hz := hu1 hr; exact hz))) (em_v (pv 1)) (em_int) (fun _ _ => rfl)) (em_str) (nomark _)) (sms_one (sm_expr (em_call A_check_row rfl hr tk rfl (am_cons (em_v (pv 0)) (am_cons (em_ix (o_ix (by first | exact hu1 hr | (have hz := hu1 hr; exact hz))) (em_v (pv 1)) (em_int) (fun _ _ => rfl)) (am_nil)))))) (sms_one (sm_raise x_BadPaper rfl rfl tk rfl)))))
theorem sc_walked : FnScope ["one", "other", "paper", "pairs", "step"] ["one", "other", "paper"] (defScope s_walked) := ⟨rfl, rfl, rfl, by decide +kernel, rfl, by decide +kernel, by decide +kernel⟩
theorem ok_walked (F : FunD K "walked" "walked" (defArgs s_walked) (defBody s_walked) (defScope s_walked) [] [] f fd) (B : Blt mg) {f_check_end f_by_step : Fm} (A_check_end : FnAt P w K mg base n "check_end" ["pairs", "end"] f_check_end) (A_by_step : FnAt P w K mg base n "by_step" ["pairs", "step"] f_by_step) :
    FnOk P w K mg base (L2.CX P w) (n + 1) f fd ["one", "other", "paper"] (spM K 3 (kNew.f (runM 3 5 (m_walked f_check_end f_by_step)))) :=
  def_ok (N := ["one", "other", "paper", "pairs", "step"]) kNew F sc_walked fun cdv A outer s H E W hr tk =>
    sms_cons (sm_set (i := 3) sc_walked.nd rfl (by first | exact Or.inl rfl | exact Or.inr rfl) (em_lst (am_cons (em_tup (am_cons (em_v (pv 0)) (am_cons (em_v (pv 1)) (am_nil)))) (am_nil))))
    (sms_cons (sm_for (passes_of rfl) rfl (im_val rfl (em_ix (o_ix (by first | exact hu1 hr | (have hz := hu1 hr; exact hz))) (em_v (pv 2)) (em_int) (fun _ _ => rfl))) (gm_name (i := 4) (pg_name (i := 4) sc_walked.nd rfl (by first | exact Or.inl rfl | exact Or.inr rfl))) (sms_one (sm_expr (em_bm rfl PySem.F.plainAttrs_list PySem.F.slot_list_append PySem.F.type_list_append k_append (fun _ _ _ _ _ => ckList_ty) (em_v (pv 3)) (am_cons (em_call A_by_step rfl hr tk rfl (am_cons (em_v (pv 3)) (am_cons (em_v (pv 4)) (am_nil)))) (am_nil))))))
    (sms_cons (sm_expr (em_call A_check_end rfl hr tk rfl (am_cons (em_v (pv 3)) (am_cons (em_ix (o_ix (by first | exact hu1 hr | (have hz := hu1 hr; exact hz))) (em_v (pv 2)) (em_int) (fun _ _ => rfl)) (am_nil)))))
    (sms_one (sm_ret (em_v (pv 3))))))
theorem sc__law_cell_at : FnScope ["script", "k"] ["script", "k"] (defScope s__law_cell_at) := ⟨rfl, rfl, rfl, by decide +kernel, rfl, by decide +kernel, by decide +kernel⟩
theorem ok__law_cell_at (F : FunD K "_law_cell_at" "_law_cell_at" (defArgs s__law_cell_at) (defBody s__law_cell_at) (defScope s__law_cell_at) [] [] f fd) (B : Blt mg) :
    FnOk P w K mg base (L2.CX P w) (n + 1) f fd ["script", "k"] (spM K 2 (kPure.f (runM 2 2 (m__law_cell_at)))) :=
  def_ok (N := ["script", "k"]) kPure F sc__law_cell_at fun cdv A outer s H E W hr tk =>
    sms_cons (sm_if (tm_cmp o_lt (em_v (pv 1)) (em_callB c_len rfl B.z_len (by decide +kernel) (am_cons (em_v (pv 0)) (am_nil))) (nomark _)) (sms_one (sm_ret (em_ix (o_ix (by first | exact hu1 hr | (have hz := hu1 hr; exact hz))) (em_v (pv 0)) (em_v (pv 1)) (fun _ _ => rfl)))) (sms_nil))
    (sms_one (sm_ret (em_int)))
theorem sc__law_stream : FnScope ["cell", "many", "found", "x", "k"] ["cell", "many"] (defScope s__law_stream) := ⟨rfl, rfl, rfl, by decide +kernel, rfl, by decide +kernel, by decide +kernel⟩
theorem ok__law_stream (F : FunD K "_law_stream" "_law_stream" (defArgs s__law_stream) (defBody s__law_stream) (defScope s__law_stream) [] [] f fd) (B : Blt mg) :
    FnOk P w K mg base (L2.CX P w) (n + 1) f fd ["cell", "many"] (spM K 2 (kNew.f (runM 2 5 (m__law_stream)))) :=
  def_ok (N := ["cell", "many", "found", "x", "k"]) kNew F sc__law_stream fun cdv A outer s H E W hr tk =>
    sms_cons (sm_set (i := 2) sc__law_stream.nd rfl (by first | exact Or.inl rfl | exact Or.inr rfl) (em_lst (am_nil)))
    (sms_cons (sm_set (i := 3) sc__law_stream.nd rfl (by first | exact Or.inl rfl | exact Or.inr rfl) (em_bin o_mod (em_v (pv 0)) (em_int)))
    (sms_cons (sm_for (passes_of rfl) rfl (im_rng1 (by rfl) B.z_range (am_cons (em_bin o_add (em_v (pv 1)) (em_int)) (am_nil))) (gm_name (i := 4) (pg_name (i := 4) sc__law_stream.nd rfl (by first | exact Or.inl rfl | exact Or.inr rfl))) (sms_cons (sm_set (i := 3) sc__law_stream.nd rfl (by first | exact Or.inl rfl | exact Or.inr rfl) (em_bin o_mod (em_bin o_add (em_bin o_add (em_bin o_add (em_bin o_mulX (em_v (pv 3)) (em_v (pv 3))) (em_bin o_mulX (em_int) (em_v (pv 3)))) (em_bin o_mulX (em_int) (em_v (pv 4)))) (em_int)) (em_int)))
    (sms_one (sm_expr (em_bm rfl PySem.F.plainAttrs_list PySem.F.slot_list_append PySem.F.type_list_append k_append (fun _ _ _ _ _ => ckList_ty) (em_v (pv 2)) (am_cons (em_v (pv 3)) (am_nil)))))))
    (sms_one (sm_ret (em_slice rfl (em_v (pv 2)) (pm_some (em_int)) (pm_no))))))
theorem sc__law_names_v3 : FnScope ["cell", "some", "xs", "base", "x", "at", "sign", "other"] ["cell"] (defScope s__law_names) := ⟨rfl, rfl, rfl, by decide +kernel, rfl, by decide +kernel, by decide +kernel⟩
theorem ok__law_names_v3 (F : FunD K "_law_names" "_law_names" (defArgs s__law_names) (defBody s__law_names) (defScope s__law_names) [] [] f fd) (B : Blt mg) {f__law_stream : Fm} (A__law_stream : FnAt P w K mg base n "_law_stream" ["cell", "many"] f__law_stream) :
    FnOk P w K mg base (L2.CX P w) (n + 1) f fd ["cell"] (spM K 1 (kNew.f (runM 1 8 (m__law_names_v3 f__law_stream)))) :=
  def_ok (N := ["cell", "some", "xs", "base", "x", "at", "sign", "other"]) kNew F sc__law_names_v3 fun cdv A outer s H E W hr tk =>
    sms_cons (sm_set (i := 1) sc__law_names_v3.nd rfl (by first | exact Or.inl rfl | exact Or.inr rfl) (em_str))
    (sms_cons (sm_set (i := 2) sc__law_names_v3.nd rfl (by first | exact Or.inl rfl | exact Or.inr rfl) (em_call A__law_stream rfl hr tk rfl (am_cons (em_v (pv 0)) (am_cons (em_int) (am_nil)))))
    (sms_cons (sm_set (i := 3) sc__law_names_v3.nd rfl (by first | exact Or.inl rfl | exact Or.inr rfl) (em_bin o_add (em_ix (o_ix (by first | exact hu1 hr | (have hz := hu1 hr; exact hz))) (em_v (pv 1)) (em_bin o_mod (em_ix (o_ix (by first | exact hu1 hr | (have hz := hu1 hr; exact hz))) (em_v (pv 2)) (em_int) (fun _ _ => rfl)) (em_int)) (fun _ _ => rfl)) (em_bm rfl PySem.F.plainAttrs_str PySem.F.slot_str_join PySem.F.type_str_join k_join (fun _ _ _ _ _ r _ c => ckStr_ty r c) (em_str) (am_cons (em_lc (own := [("x", 4)]) rfl sc__law_names_v3.nd (im_val rfl (em_slice rfl (em_v (pv 2)) (pm_some (em_int)) (pm_some (em_int)))) (blkOk_by (own := [("x", 4)]) (N := ["cell", "some", "xs", "base", "x", "at", "sign", "other"]) (sc := defScope s__law_names) (by decide +kernel)) (ct_name _ 4) (fun _ _ _ _ _ => pg_name (i := 4) sc__law_names_v3.nd rfl (Or.inl rfl)) (fun _ _ _ _ _ => tms_nil) (fun _ _ _ _ _ => em_ix (o_ix (by first | exact hu1 hr | (have hz := hu1 hr; exact hz))) (em_v (pv 1)) (em_bin o_mod (em_v (pv 4)) (em_int)) (fun _ _ => rfl))) (am_nil)))))
    (sms_cons (sm_set (i := 5) sc__law_names_v3.nd rfl (by first | exact Or.inl rfl | exact Or.inr rfl) (em_bin o_add (em_int) (em_bin o_mod (em_ix (o_ix (by first | exact hu1 hr | (have hz := hu1 hr; exact hz))) (em_v (pv 2)) (em_int) (fun _ _ => rfl)) (em_int))))
    (sms_cons (sm_set (i := 6) sc__law_names_v3.nd rfl (by first | exact Or.inl rfl | exact Or.inr rfl) (em_ix (o_ix (by first | exact hu1 hr | (have hz := hu1 hr; exact hz))) (em_v (pv 1)) (em_bin o_mod (em_bin o_add (em_bin o_add (em_bm rfl PySem.F.plainAttrs_str PySem.F.slot_str_find PySem.F.type_str_find k_find (fun _ _ _ _ _ r _ c => ckStr_ty r c) (em_v (pv 1)) (am_cons (em_ix (o_ix (by first | exact hu1 hr | (have hz := hu1 hr; exact hz))) (em_v (pv 3)) (em_v (pv 5)) (fun _ _ => rfl)) (am_nil))) (em_int)) (em_bin o_mod (em_ix (o_ix (by first | exact hu1 hr | (have hz := hu1 hr; exact hz))) (em_v (pv 2)) (em_int) (fun _ _ => rfl)) (em_int))) (em_int)) (fun _ _ => rfl)))
    (sms_cons (sm_set (i := 7) sc__law_names_v3.nd rfl (by first | exact Or.inl rfl | exact Or.inr rfl) (em_bin o_add (em_bin o_add (em_slice rfl (em_v (pv 3)) (pm_no) (pm_some (em_v (pv 5)))) (em_v (pv 6))) (em_slice rfl (em_v (pv 3)) (pm_some (em_bin o_add (em_v (pv 5)) (em_int))) (pm_no))))
    (sms_one (sm_ret (em_lst (am_cons (em_ix (o_ix (by first | exact hu1 hr | (have hz := hu1 hr; exact hz))) (em_v (pv 3)) (em_int) (fun _ _ => rfl)) (am_cons (em_slice rfl (em_v (pv 3)) (pm_no) (pm_some (em_int))) (am_cons (em_v (pv 3)) (am_cons (em_v (pv 7)) (am_cons (em_slice rfl (em_v (pv 3)) (pm_no) (pm_some (em_bin o_add (em_int) (em_v (pv 5))))) (am_nil))))))))))))))
theorem sc__law_number : FnScope ["cell", "k", "low"] ["cell", "k"] (defScope s__law_number) := ⟨rfl, rfl, rfl, by decide +kernel, rfl, by decide +kernel, by decide +kernel⟩
theorem ok__law_number (F : FunD K "_law_number" "_law_number" (defArgs s__law_number) (defBody s__law_number) (defScope s__law_number) [] [] f fd) (B : Blt mg) :
    FnOk P w K mg base (L2.CX P w) (n + 1) f fd ["cell", "k"] (spM K 2 (kPure.f (runM 2 3 (m__law_number)))) :=
  def_ok (N := ["cell", "k", "low"]) kPure F sc__law_number fun cdv A outer s H E W hr tk =>
    sms_cons (sm_set (i := 2) sc__law_number.nd rfl (by first | exact Or.inl rfl | exact Or.inr rfl) (em_bin o_add (em_int) (em_bin o_mod (em_v (pv 0)) (em_bin o_sub (em_bin o_pow (em_int) (em_int)) (em_int)))))
    (sms_one (sm_ret (em_bin o_add (em_v (pv 2)) (em_ix (o_ix (by first | exact hu1 hr | (have hz := hu1 hr; exact hz))) (em_lst (am_cons (em_v (pv 1)) (am_cons (em_bin o_sub (em_int) (em_v (pv 1))) (am_nil)))) (em_bin o_mod (em_bin o_fdiv (em_v (pv 0)) (em_int)) (em_int)) (fun _ _ => rfl)))))
theorem sc__law_grow : FnScope ["cells", "at", "deep", "names", "first", "xs", "parts", "k", "part"] ["cells", "at", "deep", "names", "first"] (defScope s__law_grow) := ⟨rfl, rfl, rfl, by decide +kernel, rfl, by decide +kernel, by decide +kernel⟩
theorem ok__law_grow (F : FunD K "_law_grow" "_law_grow" (defArgs s__law_grow) (defBody s__law_grow) (defScope s__law_grow) [] [] f fd) (B : Blt mg) {f__law_grow f__law_number f__law_stream : Fm} (A__law_grow : FnAt P w K mg base n "_law_grow" ["cells", "at", "deep", "names", "first"] f__law_grow) (A__law_number : FnAt P w K mg base n "_law_number" ["cell", "k"] f__law_number) (A__law_stream : FnAt P w K mg base n "_law_stream" ["cell", "many"] f__law_stream) :
    FnOk P w K mg base (L2.CX P w) (n + 1) f fd ["cells", "at", "deep", "names", "first"] (spM K 5 (kPure.f (runM 5 9 (m__law_grow f__law_grow f__law_number f__law_stream)))) :=
  def_ok (N := ["cells", "at", "deep", "names", "first", "xs", "parts", "k", "part"]) kPure F sc__law_grow fun cdv A outer s H E W hr tk =>
    sms_cons (sm_if (tm_cmp o_ge (em_v (pv 1)) (em_callB c_len rfl B.z_len (by decide +kernel) (am_cons (em_v (pv 0)) (am_nil))) (nomark _)) (sms_one (sm_ret (em_tup (am_cons (em_tup (am_cons (em_str) (am_cons (em_ix (o_ix (by first | exact hu1 hr | (have hz := hu1 hr; exact hz))) (em_v (pv 3)) (em_int) (fun _ _ => rfl)) (am_cons (em_tup (am_nil)) (am_nil))))) (am_cons (em_v (pv 1)) (am_nil)))))) (sms_nil))
    (sms_cons (sm_set (i := 5) sc__law_grow.nd rfl (by first | exact Or.inl rfl | exact Or.inr rfl) (em_call A__law_stream rfl hr tk rfl (am_cons (em_ix (o_ix (by first | exact hu1 hr | (have hz := hu1 hr; exact hz))) (em_v (pv 0)) (em_v (pv 1)) (fun _ _ => rfl)) (am_cons (em_int) (am_nil)))))
    (sms_cons (sm_set (i := 1) sc__law_grow.nd rfl (by first | exact Or.inl rfl | exact Or.inr rfl) (em_bin o_add (em_v (pv 1)) (em_int)))
    (sms_cons (sm_if (tm_cmp (o_eq (hu195 hr)) (em_bin o_mod (em_ix (o_ix (by first | exact hu1 hr | (have hz := hu1 hr; exact hz))) (em_v (pv 5)) (em_int) (fun _ _ => rfl)) (em_int)) (em_int) (nomark _)) (sms_one (sm_ret (em_tup (am_cons (em_tup (am_cons (em_str) (am_cons (em_call A__law_number rfl hr tk rfl (am_cons (em_v (pv 4)) (am_cons (em_bin o_mod (em_ix (o_ix (by first | exact hu1 hr | (have hz := hu1 hr; exact hz))) (em_v (pv 5)) (em_int) (fun _ _ => rfl)) (em_int)) (am_nil)))) (am_nil)))) (am_cons (em_v (pv 1)) (am_nil)))))) (sms_nil))
    (sms_cons (sm_set (i := 6) sc__law_grow.nd rfl (by first | exact Or.inl rfl | exact Or.inr rfl) (em_lst (am_nil)))
    (sms_cons (sm_if (tm_cmp o_gt (em_v (pv 2)) (em_int) (nomark _)) (sms_one (sm_for (passes_of rfl) rfl (im_rng1 (by rfl) B.z_range (am_cons (em_ix (o_ix (by first | exact hu1 hr | (have hz := hu1 hr; exact hz))) (em_lst (am_cons (em_int) (am_cons (em_int) (am_cons (em_int) (am_cons (em_int) (am_cons (em_int) (am_cons (em_int) (am_nil)))))))) (em_bin o_mod (em_ix (o_ix (by first | exact hu1 hr | (have hz := hu1 hr; exact hz))) (em_v (pv 5)) (em_int) (fun _ _ => rfl)) (em_ix (o_ix (by first | exact hu1 hr | (have hz := hu1 hr; exact hz))) (em_lst (am_cons (em_int) (am_cons (em_int) (am_nil)))) (em_callTy c_int rfl B.z_int (by decide +kernel) (am_cons (em_cmp (o_eq (hu195 hr)) (em_v (pv 1)) (em_int) (nomark _)) (am_nil))) (fun _ _ => rfl))) (fun _ _ => rfl)) (am_nil))) (gm_name (i := 7) (pg_name (i := 7) sc__law_grow.nd rfl (by first | exact Or.inl rfl | exact Or.inr rfl))) (sms_cons (sm_asg (em_call A__law_grow rfl hr tk rfl (am_cons (em_v (pv 0)) (am_cons (em_v (pv 1)) (am_cons (em_bin o_sub (em_v (pv 2)) (em_int)) (am_cons (em_v (pv 3)) (am_cons (em_v (pv 4)) (am_nil))))))) (gm_tup rfl (gms_cons (gm_name (i := 8) (pg_name (i := 8) sc__law_grow.nd rfl (by first | exact Or.inl rfl | exact Or.inr rfl))) (gms_cons (gm_name (i := 1) (pg_name (i := 1) sc__law_grow.nd rfl (by first | exact Or.inl rfl | exact Or.inr rfl))) (gms_nil))) rfl))
    (sms_one (sm_expr (em_bm rfl PySem.F.plainAttrs_list PySem.F.slot_list_append PySem.F.type_list_append k_append (fun _ _ _ _ _ => ckList_ty) (em_v (pv 6)) (am_cons (em_v (pv 8)) (am_nil)))))))) (sms_nil))
    (sms_one (sm_ret (em_tup (am_cons (em_tup (am_cons (em_str) (am_cons (em_ix (o_ix (by first | exact hu1 hr | (have hz := hu1 hr; exact hz))) (em_v (pv 3)) (em_bin o_mod (em_ix (o_ix (by first | exact hu1 hr | (have hz := hu1 hr; exact hz))) (em_v (pv 5)) (em_int) (fun _ _ => rfl)) (em_int)) (fun _ _ => rfl)) (am_cons (em_callTy c_tuple rfl B.z_tuple (by decide +kernel) (am_cons (em_v (pv 6)) (am_nil))) (am_nil))))) (am_cons (em_v (pv 1)) (am_nil)))))))))))
theorem sc__law_changed : FnScope ["tree", "xs", "at", "small", "turn", "parts", "old", "part"] ["tree", "xs", "at", "small"] (defScope s__law_changed) := ⟨rfl, rfl, rfl, by decide +kernel, rfl, by decide +kernel, by decide +kernel⟩
theorem ok__law_changed (F : FunD K "_law_changed" "_law_changed" (defArgs s__law_changed) (defBody s__law_changed) (defScope s__law_changed) [] [] f fd) (B : Blt mg) {f__law_changed : Fm} (A__law_changed : FnAt P w K mg base n "_law_changed" ["tree", "xs", "at", "small"] f__law_changed) :
    FnOk P w K mg base (L2.CX P w) (n + 1) f fd ["tree", "xs", "at", "small"] (spM K 4 (kPure.f (runM 4 8 (m__law_changed f__law_changed)))) :=
  def_ok (N := ["tree", "xs", "at", "small", "turn", "parts", "old", "part"]) kPure F sc__law_changed fun cdv A outer s H E W hr tk =>
    sms_cons (sm_set (i := 4) sc__law_changed.nd rfl (by first | exact Or.inl rfl | exact Or.inr rfl) (em_bin o_fdiv (em_ix (o_ix (by first | exact hu1 hr | (have hz := hu1 hr; exact hz))) (em_v (pv 1)) (em_bin o_mod (em_v (pv 2)) (em_callB c_len rfl B.z_len (by decide +kernel) (am_cons (em_v (pv 1)) (am_nil)))) (fun _ _ => rfl)) (em_bin o_add (em_int) (em_bin o_fdiv (em_v (pv 2)) (em_callB c_len rfl B.z_len (by decide +kernel) (am_cons (em_v (pv 1)) (am_nil)))))))
    (sms_cons (sm_set (i := 2) sc__law_changed.nd rfl (by first | exact Or.inl rfl | exact Or.inr rfl) (em_bin o_add (em_v (pv 2)) (em_int)))
    (sms_cons (sm_if (tm_cmp (o_eq (hu195 hr)) (em_bin o_mod (em_v (pv 4)) (em_int)) (em_int) (nomark _)) (sms_one (sm_ret (em_tup (am_cons (em_ix (o_ix (by first | exact hu1 hr | (have hz := hu1 hr; exact hz))) (em_v (pv 3)) (em_bin o_mod (em_bin o_fdiv (em_v (pv 4)) (em_int)) (em_callB c_len rfl B.z_len (by decide +kernel) (am_cons (em_v (pv 3)) (am_nil)))) (fun _ _ => rfl)) (am_cons (em_v (pv 2)) (am_nil)))))) (sms_nil))
    (sms_cons (sm_if (tm_cmp (o_eq (hu195 hr)) (em_ix (o_ix (by first | exact hu1 hr | (have hz := hu1 hr; exact hz))) (em_v (pv 0)) (em_int) (fun _ _ => rfl)) (em_str) (nomark _)) (sms_one (sm_ret (em_tup (am_cons (em_v (pv 0)) (am_cons (em_v (pv 2)) (am_nil)))))) (sms_nil))
    (sms_cons (sm_set (i := 5) sc__law_changed.nd rfl (by first | exact Or.inl rfl | exact Or.inr rfl) (em_lst (am_nil)))
    (sms_cons (sm_for (passes_of rfl) rfl (im_val rfl (em_ix (o_ix (by first | exact hu1 hr | (have hz := hu1 hr; exact hz))) (em_v (pv 0)) (em_int) (fun _ _ => rfl))) (gm_name (i := 6) (pg_name (i := 6) sc__law_changed.nd rfl (by first | exact Or.inl rfl | exact Or.inr rfl))) (sms_cons (sm_asg (em_call A__law_changed rfl hr tk rfl (am_cons (em_v (pv 6)) (am_cons (em_v (pv 1)) (am_cons (em_v (pv 2)) (am_cons (em_v (pv 3)) (am_nil)))))) (gm_tup rfl (gms_cons (gm_name (i := 7) (pg_name (i := 7) sc__law_changed.nd rfl (by first | exact Or.inl rfl | exact Or.inr rfl))) (gms_cons (gm_name (i := 2) (pg_name (i := 2) sc__law_changed.nd rfl (by first | exact Or.inl rfl | exact Or.inr rfl))) (gms_nil))) rfl))
    (sms_one (sm_expr (em_bm rfl PySem.F.plainAttrs_list PySem.F.slot_list_append PySem.F.type_list_append k_append (fun _ _ _ _ _ => ckList_ty) (em_v (pv 5)) (am_cons (em_v (pv 7)) (am_nil)))))))
    (sms_one (sm_ret (em_tup (am_cons (em_tup (am_cons (em_str) (am_cons (em_ix (o_ix (by first | exact hu1 hr | (have hz := hu1 hr; exact hz))) (em_v (pv 0)) (em_int) (fun _ _ => rfl)) (am_cons (em_callTy c_tuple rfl B.z_tuple (by decide +kernel) (am_cons (em_v (pv 5)) (am_nil))) (am_nil))))) (am_cons (em_v (pv 2)) (am_nil)))))))))))
theorem sc__law_blanks_v2 : FnScope ["tree", "found", "part", "k"] ["tree"] (defScope s__law_blanks) := ⟨rfl, rfl, rfl, by decide +kernel, rfl, by decide +kernel, by decide +kernel⟩
theorem ok__law_blanks_v2 (F : FunD K "_law_blanks" "_law_blanks" (defArgs s__law_blanks) (defBody s__law_blanks) (defScope s__law_blanks) [] [] f fd) (B : Blt mg) {f__law_blanks : Fm} (A__law_blanks : FnAt P w K mg base n "_law_blanks" ["tree"] f__law_blanks) :
    FnOk P w K mg base (L2.CX P w) (n + 1) f fd ["tree"] (spM K 1 (kNew.f (runM 1 4 (m__law_blanks_v2 f__law_blanks)))) :=
  def_ok (N := ["tree", "found", "part", "k"]) kNew F sc__law_blanks_v2 fun cdv A outer s H E W hr tk =>
    sms_cons (sm_if (tm_cmp (o_eq (hu195 hr)) (em_ix (o_ix (by first | exact hu1 hr | (have hz := hu1 hr; exact hz))) (em_v (pv 0)) (em_int) (fun _ _ => rfl)) (em_str) (nomark _)) (sms_one (sm_ret (em_lst (am_cons (em_ix (o_ix (by first | exact hu1 hr | (have hz := hu1 hr; exact hz))) (em_v (pv 0)) (em_int) (fun _ _ => rfl)) (am_nil))))) (sms_nil))
    (sms_cons (sm_set (i := 1) sc__law_blanks_v2.nd rfl (by first | exact Or.inl rfl | exact Or.inr rfl) (em_lst (am_nil)))
    (sms_cons (sm_for (passes_of rfl) rfl (im_val rfl (em_ix (o_ix (by first | exact hu1 hr | (have hz := hu1 hr; exact hz))) (em_v (pv 0)) (em_int) (fun _ _ => rfl))) (gm_name (i := 2) (pg_name (i := 2) sc__law_blanks_v2.nd rfl (by first | exact Or.inl rfl | exact Or.inr rfl))) (sms_one (sm_set (i := 1) sc__law_blanks_v2.nd rfl (by first | exact Or.inl rfl | exact Or.inr rfl) (em_bin o_add (em_v (pv 1)) (em_lc (own := [("k", 3)]) rfl sc__law_blanks_v2.nd (im_val rfl (em_call A__law_blanks rfl hr tk rfl (am_cons (em_v (pv 2)) (am_nil)))) (blkOk_by (own := [("k", 3)]) (N := ["tree", "found", "part", "k"]) (sc := defScope s__law_blanks) (by decide +kernel)) (ct_name _ 3) (fun _ _ _ _ _ => pg_name (i := 3) sc__law_blanks_v2.nd rfl (Or.inl rfl)) (fun _ _ _ _ _ => tms_one (tm_cmp (o_nin (hu195 hr)) (em_v (pv 3)) (em_v (pv 1)) rfl)) (fun _ _ _ _ _ => em_v (pv 3)))))))
    (sms_one (sm_ret (em_v (pv 1))))))
theorem sc__law_pair_v2 : FnScope ["script", "names", "first", "one", "xs", "small"] ["script"] (defScope s__law_pair) := ⟨rfl, rfl, rfl, by decide +kernel, rfl, by decide +kernel, by decide +kernel⟩
theorem ok__law_pair_v2 (F : FunD K "_law_pair" "_law_pair" (defArgs s__law_pair) (defBody s__law_pair) (defScope s__law_pair) [] [] f fd) (B : Blt mg) {f__law_changed f__law_number f__law_cell_at f__law_stream f__law_grow f__law_names : Fm} (A__law_changed : FnAt P w K mg base n "_law_changed" ["tree", "xs", "at", "small"] f__law_changed) (A__law_number : FnAt P w K mg base n "_law_number" ["cell", "k"] f__law_number) (A__law_cell_at : FnAt P w K mg base n "_law_cell_at" ["script", "k"] f__law_cell_at) (A__law_stream : FnAt P w K mg base n "_law_stream" ["cell", "many"] f__law_stream) (A__law_grow : FnAt P w K mg base n "_law_grow" ["cells", "at", "deep", "names", "first"] f__law_grow) (A__law_names : FnAt P w K mg base n "_law_names" ["cell"] f__law_names) :
    FnOk P w K mg base (L2.CX P w) (n + 1) f fd ["script"] (spM K 1 (kPure.f (runM 1 6 (m__law_pair_v2 f__law_changed f__law_number f__law_cell_at f__law_stream f__law_grow f__law_names)))) :=
  def_ok (N := ["script", "names", "first", "one", "xs", "small"]) kPure F sc__law_pair_v2 fun cdv A outer s H E W hr tk =>
    sms_cons (sm_set (i := 1) sc__law_pair_v2.nd rfl (by first | exact Or.inl rfl | exact Or.inr rfl) (em_call A__law_names rfl hr tk rfl (am_cons (em_call A__law_cell_at rfl hr tk rfl (am_cons (em_v (pv 0)) (am_cons (em_int) (am_nil)))) (am_nil))))
    (sms_cons (sm_set (i := 2) sc__law_pair_v2.nd rfl (by first | exact Or.inl rfl | exact Or.inr rfl) (em_call A__law_cell_at rfl hr tk rfl (am_cons (em_v (pv 0)) (am_cons (em_int) (am_nil)))))
    (sms_cons (sm_set (i := 3) sc__law_pair_v2.nd rfl (by first | exact Or.inl rfl | exact Or.inr rfl) (em_ix (o_ix (by first | exact hu1 hr | (have hz := hu1 hr; exact hz))) (em_call A__law_grow rfl hr tk rfl (am_cons (em_slice rfl (em_v (pv 0)) (pm_some (em_int)) (pm_some (em_int))) (am_cons (em_int) (am_cons (em_int) (am_cons (em_v (pv 1)) (am_cons (em_v (pv 2)) (am_nil))))))) (em_int) (fun _ _ => rfl)))
    (sms_cons (sm_set (i := 4) sc__law_pair_v2.nd rfl (by first | exact Or.inl rfl | exact Or.inr rfl) (em_call A__law_stream rfl hr tk rfl (am_cons (em_bin o_add (em_call A__law_cell_at rfl hr tk rfl (am_cons (em_v (pv 0)) (am_cons (em_int) (am_nil)))) (em_int)) (am_cons (em_int) (am_nil)))))
    (sms_cons (sm_set (i := 5) sc__law_pair_v2.nd rfl (by first | exact Or.inl rfl | exact Or.inr rfl) (em_lst (am_cons (em_tup (am_cons (em_str) (am_cons (em_ix (o_ix (by first | exact hu1 hr | (have hz := hu1 hr; exact hz))) (em_v (pv 1)) (em_int) (fun _ _ => rfl)) (am_cons (em_tup (am_nil)) (am_nil))))) (am_cons (em_tup (am_cons (em_str) (am_cons (em_call A__law_number rfl hr tk rfl (am_cons (em_v (pv 2)) (am_cons (em_int) (am_nil)))) (am_nil)))) (am_cons (em_tup (am_cons (em_str) (am_cons (em_call A__law_number rfl hr tk rfl (am_cons (em_v (pv 2)) (am_cons (em_int) (am_nil)))) (am_nil)))) (am_nil))))))
    (sms_cons (sm_expr (em_bm rfl PySem.F.plainAttrs_list PySem.F.slot_list_append PySem.F.type_list_append k_append (fun _ _ _ _ _ => ckList_ty) (em_v (pv 5)) (am_cons (em_tup (am_cons (em_str) (am_cons (em_ix (o_ix (by first | exact hu1 hr | (have hz := hu1 hr; exact hz))) (em_v (pv 1)) (em_int) (fun _ _ => rfl)) (am_cons (em_tup (am_cons (em_tup (am_cons (em_str) (am_cons (em_call A__law_number rfl hr tk rfl (am_cons (em_v (pv 2)) (am_cons (em_int) (am_nil)))) (am_nil)))) (am_cons (em_tup (am_cons (em_str) (am_cons (em_call A__law_number rfl hr tk rfl (am_cons (em_v (pv 2)) (am_cons (em_int) (am_nil)))) (am_nil)))) (am_nil)))) (am_nil))))) (am_nil))))
    (sms_one (sm_ret (em_tup (am_cons (em_v (pv 3)) (am_cons (em_ix (o_ix (by first | exact hu1 hr | (have hz := hu1 hr; exact hz))) (em_call A__law_changed rfl hr tk rfl (am_cons (em_v (pv 3)) (am_cons (em_v (pv 4)) (am_cons (em_int) (am_cons (em_v (pv 5)) (am_nil)))))) (em_int) (fun _ _ => rfl)) (am_nil)))))))))))
theorem sc__law_same : FnScope ["pair", "left", "right"] ["pair"] (defScope s__law_same) := ⟨rfl, rfl, rfl, by decide +kernel, rfl, by decide +kernel, by decide +kernel⟩
theorem ok__law_same (F : FunD K "_law_same" "_law_same" (defArgs s__law_same) (defBody s__law_same) (defScope s__law_same) [] [] f fd) (B : Blt mg) :
    FnOk P w K mg base (L2.CX P w) (n + 1) f fd ["pair"] (spM K 1 (kPure.f (runM 1 3 (m__law_same)))) :=
  def_ok (N := ["pair", "left", "right"]) kPure F sc__law_same fun cdv A outer s H E W hr tk =>
    sms_cons (sm_asg (em_v (pv 0)) (gm_tup rfl (gms_cons (gm_name (i := 1) (pg_name (i := 1) sc__law_same.nd rfl (by first | exact Or.inl rfl | exact Or.inr rfl))) (gms_cons (gm_name (i := 2) (pg_name (i := 2) sc__law_same.nd rfl (by first | exact Or.inl rfl | exact Or.inr rfl))) (gms_nil))) rfl))
    (sms_cons (sm_if (PW.pt (tm_or (tm_cmp (o_ne (hu195 hr)) (em_ix (o_ix (by first | exact hu1 hr | (have hz := hu1 hr; exact hz))) (em_v (pv 1)) (em_int) (fun _ _ => rfl)) (em_str) (nomark _)) (tm_or1 (tm_cmp (o_ne (hu195 hr)) (em_ix (o_ix (by first | exact hu1 hr | (have hz := hu1 hr; exact hz))) (em_v (pv 2)) (em_int) (fun _ _ => rfl)) (em_str) (nomark _))))) (sms_one (sm_ret (em_bl))) (sms_nil))
    (sms_one (sm_ret (em_and (em_cmp (o_eq (hu195 hr)) (em_ix (o_ix (by first | exact hu1 hr | (have hz := hu1 hr; exact hz))) (em_v (pv 1)) (em_int) (fun _ _ => rfl)) (em_ix (o_ix (by first | exact hu1 hr | (have hz := hu1 hr; exact hz))) (em_v (pv 2)) (em_int) (fun _ _ => rfl)) (nomark _)) (em_one (em_cmp (o_eq (hu195 hr)) (em_callB c_len rfl B.z_len (by decide +kernel) (am_cons (em_ix (o_ix (by first | exact hu1 hr | (have hz := hu1 hr; exact hz))) (em_v (pv 1)) (em_int) (fun _ _ => rfl)) (am_nil))) (em_callB c_len rfl B.z_len (by decide +kernel) (am_cons (em_ix (o_ix (by first | exact hu1 hr | (have hz := hu1 hr; exact hz))) (em_v (pv 2)) (em_int) (fun _ _ => rfl)) (am_nil))) (nomark _)))))))
theorem sc__law_step : FnScope ["pairs", "xs", "e", "pair", "k", "meeting", "f"] ["pairs", "xs"] (defScope s__law_step) := ⟨rfl, rfl, rfl, by decide +kernel, rfl, by decide +kernel, by decide +kernel⟩
theorem ok__law_step (F : FunD K "_law_step" "_law_step" (defArgs s__law_step) (defBody s__law_step) (defScope s__law_step) [] [] f fd) (B : Blt mg) {f__law_same : Fm} (A__law_same : FnAt P w K mg base n "_law_same" ["pair"] f__law_same) :
    FnOk P w K mg base (L2.CX P w) (n + 1) f fd ["pairs", "xs"] (spM K 2 (kPure.f (runM 2 7 (m__law_step f__law_same)))) :=
  def_ok (N := ["pairs", "xs", "e", "pair", "k", "meeting", "f"]) kPure F sc__law_step fun cdv A outer s H E W hr tk =>
    sms_cons (sm_set (i := 2) sc__law_step.nd rfl (by first | exact Or.inl rfl | exact Or.inr rfl) (em_bin o_mod (em_ix (o_ix (by first | exact hu1 hr | (have hz := hu1 hr; exact hz))) (em_v (pv 1)) (em_int) (fun _ _ => rfl)) (em_callB c_len rfl B.z_len (by decide +kernel) (am_cons (em_v (pv 0)) (am_nil)))))
    (sms_cons (sm_set (i := 3) sc__law_step.nd rfl (by first | exact Or.inl rfl | exact Or.inr rfl) (em_ix (o_ix (by first | exact hu1 hr | (have hz := hu1 hr; exact hz))) (em_v (pv 0)) (em_v (pv 2)) (fun _ _ => rfl)))
    (sms_cons (sm_if (PW.pt (tm_and (tm_cmp (o_eq (hu195 hr)) (em_bin o_mod (em_ix (o_ix (by first | exact hu1 hr | (have hz := hu1 hr; exact hz))) (em_v (pv 1)) (em_int) (fun _ _ => rfl)) (em_int)) (em_int) (nomark _)) (tm_and (tm_tru (em_call A__law_same rfl hr tk rfl (am_cons (em_v (pv 3)) (am_nil))) rfl) (tm_and1 (tm_cmp (o_ne (hu195 hr)) (em_ix (o_ix (by first | exact hu1 hr | (have hz := hu1 hr; exact hz))) (em_ix (o_ix (by first | exact hu1 hr | (have hz := hu1 hr; exact hz))) (em_v (pv 3)) (em_int) (fun _ _ => rfl)) (em_int) (fun _ _ => rfl)) (em_tup (am_nil)) (nomark _)))))) (sms_cons (sm_set (i := 4) sc__law_step.nd rfl (by first | exact Or.inl rfl | exact Or.inr rfl) (em_bin o_mod (em_ix (o_ix (by first | exact hu1 hr | (have hz := hu1 hr; exact hz))) (em_v (pv 1)) (em_int) (fun _ _ => rfl)) (em_callB c_len rfl B.z_len (by decide +kernel) (am_cons (em_ix (o_ix (by first | exact hu1 hr | (have hz := hu1 hr; exact hz))) (em_ix (o_ix (by first | exact hu1 hr | (have hz := hu1 hr; exact hz))) (em_v (pv 3)) (em_int) (fun _ _ => rfl)) (em_int) (fun _ _ => rfl)) (am_nil)))))
    (sms_one (sm_ret (em_tup (am_cons (em_tup (am_cons (em_str) (am_cons (em_v (pv 2)) (am_cons (em_v (pv 4)) (am_nil))))) (am_cons (em_tup (am_cons (em_ix (o_ix (by first | exact hu1 hr | (have hz := hu1 hr; exact hz))) (em_ix (o_ix (by first | exact hu1 hr | (have hz := hu1 hr; exact hz))) (em_ix (o_ix (by first | exact hu1 hr | (have hz := hu1 hr; exact hz))) (em_v (pv 3)) (em_int) (fun _ _ => rfl)) (em_int) (fun _ _ => rfl)) (em_v (pv 4)) (fun _ _ => rfl)) (am_cons (em_ix (o_ix (by first | exact hu1 hr | (have hz := hu1 hr; exact hz))) (em_ix (o_ix (by first | exact hu1 hr | (have hz := hu1 hr; exact hz))) (em_ix (o_ix (by first | exact hu1 hr | (have hz := hu1 hr; exact hz))) (em_v (pv 3)) (em_int) (fun _ _ => rfl)) (em_int) (fun _ _ => rfl)) (em_v (pv 4)) (fun _ _ => rfl)) (am_nil)))) (am_nil))))))) (sms_nil))
    (sms_cons (sm_if (tm_cmp (o_eq (hu195 hr)) (em_bin o_mod (em_ix (o_ix (by first | exact hu1 hr | (have hz := hu1 hr; exact hz))) (em_v (pv 1)) (em_int) (fun _ _ => rfl)) (em_int)) (em_int) (nomark _)) (sms_cons ((by first | exact sm_setLc (i := 5) (own := [("f", 6)]) rfl sc__law_step.nd rfl rfl (sw_true rfl rfl rfl (by decide +kernel)) (im_rng1 (by rfl) B.z_range (am_cons (em_callB c_len rfl B.z_len (by decide +kernel) (am_cons (em_v (pv 0)) (am_nil))) (am_nil))) (blkOk_by (own := [("f", 6)]) (N := ["pairs", "xs", "e", "pair", "k", "meeting", "f"]) (sc := defScope s__law_step) (by decide +kernel)) (ct_name _ 6) (fun _ _ _ _ _ => pg_name (i := 6) sc__law_step.nd rfl (Or.inl rfl)) (fun _ _ _ _ _ => tms_one (tm_cmp (o_eq (hu195 hr)) (em_ix (o_ix (by first | exact hu1 hr | (have hz := hu1 hr; exact hz))) (em_ix (o_ix (by first | exact hu1 hr | (have hz := hu1 hr; exact hz))) (em_v (pv 0)) (em_v (pv 6)) (fun _ _ => rfl)) (em_int) (fun _ _ => rfl)) (em_ix (o_ix (by first | exact hu1 hr | (have hz := hu1 hr; exact hz))) (em_v (pv 3)) (em_int) (fun _ _ => rfl)) (nomark _))) (fun _ _ _ _ _ => em_v (pv 6)) | exact sm_set (i := 5) sc__law_step.nd rfl (by first | exact Or.inl rfl | exact Or.inr rfl) (em_lc (own := [("f", 6)]) rfl sc__law_step.nd (im_rng1 (by rfl) B.z_range (am_cons (em_callB c_len rfl B.z_len (by decide +kernel) (am_cons (em_v (pv 0)) (am_nil))) (am_nil))) (blkOk_by (own := [("f", 6)]) (N := ["pairs", "xs", "e", "pair", "k", "meeting", "f"]) (sc := defScope s__law_step) (by decide +kernel)) (ct_name _ 6) (fun _ _ _ _ _ => pg_name (i := 6) sc__law_step.nd rfl (Or.inl rfl)) (fun _ _ _ _ _ => tms_one (tm_cmp (o_eq (hu195 hr)) (em_ix (o_ix (by first | exact hu1 hr | (have hz := hu1 hr; exact hz))) (em_ix (o_ix (by first | exact hu1 hr | (have hz := hu1 hr; exact hz))) (em_v (pv 0)) (em_v (pv 6)) (fun _ _ => rfl)) (em_int) (fun _ _ => rfl)) (em_ix (o_ix (by first | exact hu1 hr | (have hz := hu1 hr; exact hz))) (em_v (pv 3)) (em_int) (fun _ _ => rfl)) (nomark _))) (fun _ _ _ _ _ => em_v (pv 6)))))
    (sms_one (sm_if (tm_cmp (o_ne (hu195 hr)) (em_v (pv 5)) (em_lst (am_nil)) (nomark _)) (sms_cons (sm_set (i := 6) sc__law_step.nd rfl (by first | exact Or.inl rfl | exact Or.inr rfl) (em_ix (o_ix (by first | exact hu1 hr | (have hz := hu1 hr; exact hz))) (em_v (pv 5)) (em_bin o_mod (em_ix (o_ix (by first | exact hu1 hr | (have hz := hu1 hr; exact hz))) (em_v (pv 1)) (em_int) (fun _ _ => rfl)) (em_callB c_len rfl B.z_len (by decide +kernel) (am_cons (em_v (pv 5)) (am_nil)))) (fun _ _ => rfl)))
    (sms_one (sm_ret (em_tup (am_cons (em_tup (am_cons (em_str) (am_cons (em_v (pv 2)) (am_cons (em_v (pv 6)) (am_nil))))) (am_cons (em_tup (am_cons (em_ix (o_ix (by first | exact hu1 hr | (have hz := hu1 hr; exact hz))) (em_v (pv 3)) (em_int) (fun _ _ => rfl)) (am_cons (em_ix (o_ix (by first | exact hu1 hr | (have hz := hu1 hr; exact hz))) (em_ix (o_ix (by first | exact hu1 hr | (have hz := hu1 hr; exact hz))) (em_v (pv 0)) (em_v (pv 6)) (fun _ _ => rfl)) (em_int) (fun _ _ => rfl)) (am_nil)))) (am_nil))))))) (sms_nil)))) (sms_nil))
    (sms_one (sm_ret (em_tup (am_cons (em_tup (am_cons (em_str) (am_cons (em_v (pv 2)) (am_nil)))) (am_cons (em_tup (am_cons (em_ix (o_ix (by first | exact hu1 hr | (have hz := hu1 hr; exact hz))) (em_v (pv 3)) (em_int) (fun _ _ => rfl)) (am_cons (em_ix (o_ix (by first | exact hu1 hr | (have hz := hu1 hr; exact hz))) (em_v (pv 3)) (em_int) (fun _ _ => rfl)) (am_nil)))) (am_nil)))))))))
theorem sc__law_end : FnScope ["pairs", "xs", "unlike", "within", "e", "left", "right"] ["pairs", "xs"] (defScope s__law_end) := ⟨rfl, rfl, rfl, by decide +kernel, rfl, by decide +kernel, by decide +kernel⟩
theorem ok__law_end (F : FunD K "_law_end" "_law_end" (defArgs s__law_end) (defBody s__law_end) (defScope s__law_end) [] [] f fd) (B : Blt mg) {f__law_blanks f__law_same : Fm} (A__law_blanks : FnAt P w K mg base n "_law_blanks" ["tree"] f__law_blanks) (A__law_same : FnAt P w K mg base n "_law_same" ["pair"] f__law_same) :
    FnOk P w K mg base (L2.CX P w) (n + 1) f fd ["pairs", "xs"] (spM K 2 (kRaw.f (runM 2 7 (m__law_end f__law_blanks f__law_same)))) :=
  def_ok (N := ["pairs", "xs", "unlike", "within", "e", "left", "right"]) kRaw F sc__law_end fun cdv A outer s H E W hr tk =>
    sms_cons (sm_set (i := 2) sc__law_end.nd rfl (by first | exact Or.inl rfl | exact Or.inr rfl) (em_lst (am_nil)))
    (sms_cons (sm_set (i := 3) sc__law_end.nd rfl (by first | exact Or.inl rfl | exact Or.inr rfl) (em_lst (am_nil)))
    (sms_cons (sm_for (passes_of rfl) rfl (im_rng1 (by rfl) B.z_range (am_cons (em_callB c_len rfl B.z_len (by decide +kernel) (am_cons (em_v (pv 0)) (am_nil))) (am_nil))) (gm_name (i := 4) (pg_name (i := 4) sc__law_end.nd rfl (by first | exact Or.inl rfl | exact Or.inr rfl))) (sms_cons (sm_asg (em_ix (o_ix (by first | exact hu1 hr | (have hz := hu1 hr; exact hz))) (em_v (pv 0)) (em_v (pv 4)) (fun _ _ => rfl)) (gm_tup rfl (gms_cons (gm_name (i := 5) (pg_name (i := 5) sc__law_end.nd rfl (by first | exact Or.inl rfl | exact Or.inr rfl))) (gms_cons (gm_name (i := 6) (pg_name (i := 6) sc__law_end.nd rfl (by first | exact Or.inl rfl | exact Or.inr rfl))) (gms_nil))) rfl))
    (sms_cons (sm_if (PW.pt (tm_and (tm_cmp (o_eq (hu195 hr)) (em_ix (o_ix (by first | exact hu1 hr | (have hz := hu1 hr; exact hz))) (em_v (pv 5)) (em_int) (fun _ _ => rfl)) (em_str) (nomark _)) (tm_and (tm_cmp (o_eq (hu195 hr)) (em_ix (o_ix (by first | exact hu1 hr | (have hz := hu1 hr; exact hz))) (em_v (pv 6)) (em_int) (fun _ _ => rfl)) (em_str) (nomark _)) (tm_and1 (tm_not (tm_tru (em_call A__law_same rfl hr tk rfl (am_cons (em_ix (o_ix (by first | exact hu1 hr | (have hz := hu1 hr; exact hz))) (em_v (pv 0)) (em_v (pv 4)) (fun _ _ => rfl)) (am_nil))) rfl)))))) (sms_one (sm_expr (em_bm rfl PySem.F.plainAttrs_list PySem.F.slot_list_append PySem.F.type_list_append k_append (fun _ _ _ _ _ => ckList_ty) (em_v (pv 2)) (am_cons (em_v (pv 4)) (am_nil))))) (sms_nil))
    (sms_one (sm_if (PW.pt (tm_and (tm_cmp (o_eq (hu195 hr)) (em_ix (o_ix (by first | exact hu1 hr | (have hz := hu1 hr; exact hz))) (em_v (pv 5)) (em_int) (fun _ _ => rfl)) (em_str) (nomark _)) (tm_and (tm_cmp (o_eq (hu195 hr)) (em_ix (o_ix (by first | exact hu1 hr | (have hz := hu1 hr; exact hz))) (em_v (pv 6)) (em_int) (fun _ _ => rfl)) (em_str) (nomark _)) (tm_and1 (tm_cmp (o_in (hu195 hr)) (em_ix (o_ix (by first | exact hu1 hr | (have hz := hu1 hr; exact hz))) (em_v (pv 5)) (em_int) (fun _ _ => rfl)) (em_call A__law_blanks rfl hr tk rfl (am_cons (em_v (pv 6)) (am_nil))) rfl))))) (sms_one (sm_expr (em_bm rfl PySem.F.plainAttrs_list PySem.F.slot_list_append PySem.F.type_list_append k_append (fun _ _ _ _ _ => ckList_ty) (em_v (pv 3)) (am_cons (em_v (pv 4)) (am_nil))))) (sms_nil))))))
    (sms_cons (sm_if (PW.pt (tm_and (tm_cmp (o_eq (hu195 hr)) (em_bin o_mod (em_ix (o_ix (by first | exact hu1 hr | (have hz := hu1 hr; exact hz))) (em_v (pv 1)) (em_int) (fun _ _ => rfl)) (em_int)) (em_int) (nomark _)) (tm_and1 (tm_cmp (o_ne (hu195 hr)) (em_v (pv 3)) (em_lst (am_nil)) (nomark _))))) (sms_one (sm_ret (em_tup (am_cons (em_tup (am_cons (em_str) (am_cons (em_lst (am_cons (em_ix (o_ix (by first | exact hu1 hr | (have hz := hu1 hr; exact hz))) (em_v (pv 3)) (em_bin o_mod (em_ix (o_ix (by first | exact hu1 hr | (have hz := hu1 hr; exact hz))) (em_v (pv 1)) (em_int) (fun _ _ => rfl)) (em_callB c_len rfl B.z_len (by decide +kernel) (am_cons (em_v (pv 3)) (am_nil)))) (fun _ _ => rfl)) (am_nil))) (am_nil)))) (am_cons (em_bl) (am_nil)))))) (sms_nil))
    (sms_cons (sm_if (tm_cmp (o_ne (hu195 hr)) (em_v (pv 2)) (em_lst (am_nil)) (nomark _)) (sms_one (sm_ret (em_tup (am_cons (em_tup (am_cons (em_str) (am_cons (em_ix (o_ix (by first | exact hu1 hr | (have hz := hu1 hr; exact hz))) (em_v (pv 2)) (em_bin o_mod (em_ix (o_ix (by first | exact hu1 hr | (have hz := hu1 hr; exact hz))) (em_v (pv 1)) (em_int) (fun _ _ => rfl)) (em_callB c_len rfl B.z_len (by decide +kernel) (am_cons (em_v (pv 2)) (am_nil)))) (fun _ _ => rfl)) (am_nil)))) (am_cons (em_bl) (am_nil)))))) (sms_nil))
    (sms_cons (sm_set (i := 4) sc__law_end.nd rfl (by first | exact Or.inl rfl | exact Or.inr rfl) (em_bin o_mod (em_ix (o_ix (by first | exact hu1 hr | (have hz := hu1 hr; exact hz))) (em_v (pv 1)) (em_int) (fun _ _ => rfl)) (em_callB c_len rfl B.z_len (by decide +kernel) (am_cons (em_v (pv 0)) (am_nil)))))
    (sms_one (sm_ret (em_tup (am_cons (em_ix (o_ix (by first | exact hu1 hr | (have hz := hu1 hr; exact hz))) (em_lst (am_cons (em_tup (am_cons (em_str) (am_cons (em_v (pv 4)) (am_nil)))) (am_cons (em_tup (am_cons (em_str) (am_cons (em_lst (am_cons (em_v (pv 4)) (am_nil))) (am_nil)))) (am_nil)))) (em_bin o_mod (em_ix (o_ix (by first | exact hu1 hr | (have hz := hu1 hr; exact hz))) (em_v (pv 1)) (em_int) (fun _ _ => rfl)) (em_int)) (fun _ _ => rfl)) (am_cons (em_ix (o_ix (by first | exact hu1 hr | (have hz := hu1 hr; exact hz))) (em_lst (am_cons (em_cmp (o_in (hu195 hr)) (em_v (pv 4)) (em_v (pv 2)) rfl) (am_cons (em_cmp (o_in (hu195 hr)) (em_v (pv 4)) (em_v (pv 3)) rfl) (am_nil)))) (em_bin o_mod (em_ix (o_ix (by first | exact hu1 hr | (have hz := hu1 hr; exact hz))) (em_v (pv 1)) (em_int) (fun _ _ => rfl)) (em_int)) (fun _ _ => rfl)) (am_nil)))))))))))
theorem sc__law_bad_step : FnScope ["pairs", "xs", "t", "e", "some", "f", "side"] ["pairs", "xs"] (defScope s__law_bad_step) := ⟨rfl, rfl, rfl, by decide +kernel, rfl, by decide +kernel, by decide +kernel⟩
theorem ok__law_bad_step (F : FunD K "_law_bad_step" "_law_bad_step" (defArgs s__law_bad_step) (defBody s__law_bad_step) (defScope s__law_bad_step) [] [] f fd) (B : Blt mg) {f__law_same : Fm} (A__law_same : FnAt P w K mg base n "_law_same" ["pair"] f__law_same) :
    FnOk P w K mg base (L2.CX P w) (n + 1) f fd ["pairs", "xs"] (spM K 2 (kPure.f (runM 2 7 (m__law_bad_step f__law_same)))) :=
  def_ok (N := ["pairs", "xs", "t", "e", "some", "f", "side"]) kPure F sc__law_bad_step fun cdv A outer s H E W hr tk =>
    sms_cons (sm_set (i := 2) sc__law_bad_step.nd rfl (by first | exact Or.inl rfl | exact Or.inr rfl) (em_callB c_len rfl B.z_len (by decide +kernel) (am_cons (em_v (pv 0)) (am_nil))))
    (sms_cons (sm_set (i := 3) sc__law_bad_step.nd rfl (by first | exact Or.inl rfl | exact Or.inr rfl) (em_bin o_mod (em_ix (o_ix (by first | exact hu1 hr | (have hz := hu1 hr; exact hz))) (em_v (pv 1)) (em_int) (fun _ _ => rfl)) (em_v (pv 2))))
    (sms_cons (sm_set (i := 4) sc__law_bad_step.nd rfl (by first | exact Or.inl rfl | exact Or.inr rfl) (em_lst (am_cons (em_tup (am_cons (em_str) (am_cons (em_v (pv 3)) (am_cons (em_bin o_add (em_int) (em_bin o_mod (em_ix (o_ix (by first | exact hu1 hr | (have hz := hu1 hr; exact hz))) (em_v (pv 1)) (em_int) (fun _ _ => rfl)) (em_int))) (am_nil))))) (am_cons (em_tup (am_cons (em_str) (am_cons (em_v (pv 2)) (am_nil)))) (am_cons (em_tup (am_cons (em_str) (am_cons (em_v (pv 3)) (am_cons (em_v (pv 2)) (am_nil))))) (am_cons (em_tup (am_cons (em_str) (am_cons (em_bin o_sub (em_neg (em_int)) (em_bin o_mod (em_ix (o_ix (by first | exact hu1 hr | (have hz := hu1 hr; exact hz))) (em_v (pv 1)) (em_int) (fun _ _ => rfl)) (em_int))) (am_nil)))) (am_nil)))))))
    (sms_cons (sm_set (i := 4) sc__law_bad_step.nd rfl (by first | exact Or.inl rfl | exact Or.inr rfl) (em_bin o_add (em_v (pv 4)) (em_lst (am_cons (em_tup (am_cons (em_str) (am_cons (em_v (pv 3)) (am_cons (em_int) (am_nil))))) (am_cons (em_tup (am_cons (em_str) (am_cons (em_v (pv 3)) (am_cons (em_neg (em_int)) (am_nil))))) (am_cons (em_tup (am_cons (em_str) (am_cons (em_bin o_add (em_bin o_add (em_v (pv 2)) (em_int)) (em_bin o_mod (em_ix (o_ix (by first | exact hu1 hr | (have hz := hu1 hr; exact hz))) (em_v (pv 1)) (em_int) (fun _ _ => rfl)) (em_int))) (am_cons (em_v (pv 3)) (am_nil))))) (am_cons (em_tup (am_cons (em_str) (am_cons (em_v (pv 2)) (am_cons (em_int) (am_nil))))) (am_nil))))))))
    (sms_cons (sm_set (i := 4) sc__law_bad_step.nd rfl (by first | exact Or.inl rfl | exact Or.inr rfl) (em_bin o_add (em_v (pv 4)) (em_lst (am_cons (em_tup (am_cons (em_str) (am_cons (em_bin o_sub (em_neg (em_int)) (em_bin o_mod (em_ix (o_ix (by first | exact hu1 hr | (have hz := hu1 hr; exact hz))) (em_v (pv 1)) (em_int) (fun _ _ => rfl)) (em_int))) (am_cons (em_int) (am_nil))))) (am_cons (em_tup (am_cons (em_str) (am_cons (em_v (pv 3)) (am_cons (em_bin o_sub (em_neg (em_int)) (em_bin o_mod (em_ix (o_ix (by first | exact hu1 hr | (have hz := hu1 hr; exact hz))) (em_v (pv 1)) (em_int) (fun _ _ => rfl)) (em_int))) (am_nil))))) (am_cons (em_tup (am_cons (em_str) (am_cons (em_bin o_sub (em_neg (em_int)) (em_bin o_mod (em_ix (o_ix (by first | exact hu1 hr | (have hz := hu1 hr; exact hz))) (em_v (pv 1)) (em_int) (fun _ _ => rfl)) (em_int))) (am_cons (em_v (pv 3)) (am_nil))))) (am_nil)))))))
    (sms_cons (sm_for (passes_of rfl) rfl (im_rng1 (by rfl) B.z_range (am_cons (em_v (pv 2)) (am_nil))) (gm_name (i := 5) (pg_name (i := 5) sc__law_bad_step.nd rfl (by first | exact Or.inl rfl | exact Or.inr rfl))) (sms_cons (sm_if (tm_cmp (o_ne (hu195 hr)) (em_ix (o_ix (by first | exact hu1 hr | (have hz := hu1 hr; exact hz))) (em_ix (o_ix (by first | exact hu1 hr | (have hz := hu1 hr; exact hz))) (em_v (pv 0)) (em_v (pv 5)) (fun _ _ => rfl)) (em_int) (fun _ _ => rfl)) (em_ix (o_ix (by first | exact hu1 hr | (have hz := hu1 hr; exact hz))) (em_ix (o_ix (by first | exact hu1 hr | (have hz := hu1 hr; exact hz))) (em_v (pv 0)) (em_v (pv 3)) (fun _ _ => rfl)) (em_int) (fun _ _ => rfl)) (nomark _)) (sms_one (sm_expr (em_bm rfl PySem.F.plainAttrs_list PySem.F.slot_list_append PySem.F.type_list_append k_append (fun _ _ _ _ _ => ckList_ty) (em_v (pv 4)) (am_cons (em_tup (am_cons (em_str) (am_cons (em_v (pv 3)) (am_cons (em_v (pv 5)) (am_nil))))) (am_nil))))) (sms_nil))
    (sms_one (sm_for (passes_of rfl) rfl (im_val rfl (em_ix (o_ix (by first | exact hu1 hr | (have hz := hu1 hr; exact hz))) (em_v (pv 0)) (em_v (pv 5)) (fun _ _ => rfl))) (gm_name (i := 6) (pg_name (i := 6) sc__law_bad_step.nd rfl (by first | exact Or.inl rfl | exact Or.inr rfl))) (sms_one (sm_if (PW.pt (tm_and (tm_not (tm_tru (em_call A__law_same rfl hr tk rfl (am_cons (em_ix (o_ix (by first | exact hu1 hr | (have hz := hu1 hr; exact hz))) (em_v (pv 0)) (em_v (pv 5)) (fun _ _ => rfl)) (am_nil))) rfl)) (tm_and (tm_cmp (o_eq (hu195 hr)) (em_ix (o_ix (by first | exact hu1 hr | (have hz := hu1 hr; exact hz))) (em_v (pv 6)) (em_int) (fun _ _ => rfl)) (em_str) (nomark _)) (tm_and1 (tm_cmp (o_ne (hu195 hr)) (em_ix (o_ix (by first | exact hu1 hr | (have hz := hu1 hr; exact hz))) (em_v (pv 6)) (em_int) (fun _ _ => rfl)) (em_tup (am_nil)) (nomark _)))))) (sms_one (sm_expr (em_bm rfl PySem.F.plainAttrs_list PySem.F.slot_list_append PySem.F.type_list_append k_append (fun _ _ _ _ _ => ckList_ty) (em_v (pv 4)) (am_cons (em_tup (am_cons (em_str) (am_cons (em_v (pv 5)) (am_cons (em_bin o_mod (em_ix (o_ix (by first | exact hu1 hr | (have hz := hu1 hr; exact hz))) (em_v (pv 1)) (em_int) (fun _ _ => rfl)) (em_callB c_len rfl B.z_len (by decide +kernel) (am_cons (em_ix (o_ix (by first | exact hu1 hr | (have hz := hu1 hr; exact hz))) (em_v (pv 6)) (em_int) (fun _ _ => rfl)) (am_nil)))) (am_nil))))) (am_nil))))) (sms_nil)))))))
    (sms_one (sm_ret (em_ix (o_ix (by first | exact hu1 hr | (have hz := hu1 hr; exact hz))) (em_v (pv 4)) (em_bin o_mod (em_ix (o_ix (by first | exact hu1 hr | (have hz := hu1 hr; exact hz))) (em_v (pv 1)) (em_int) (fun _ _ => rfl)) (em_callB c_len rfl B.z_len (by decide +kernel) (am_cons (em_v (pv 4)) (am_nil)))) (fun _ _ => rfl)))))))))
theorem sc__law_bad_end : FnScope ["pairs", "xs", "some", "e", "left", "right"] ["pairs", "xs"] (defScope s__law_bad_end) := ⟨rfl, rfl, rfl, by decide +kernel, rfl, by decide +kernel, by decide +kernel⟩
theorem ok__law_bad_end (F : FunD K "_law_bad_end" "_law_bad_end" (defArgs s__law_bad_end) (defBody s__law_bad_end) (defScope s__law_bad_end) [] [] f fd) (B : Blt mg) {f__law_blanks f__law_same : Fm} (A__law_blanks : FnAt P w K mg base n "_law_blanks" ["tree"] f__law_blanks) (A__law_same : FnAt P w K mg base n "_law_same" ["pair"] f__law_same) :
    FnOk P w K mg base (L2.CX P w) (n + 1) f fd ["pairs", "xs"] (spM K 2 (kRaw.f (runM 2 6 (m__law_bad_end f__law_blanks f__law_same)))) :=
  def_ok (N := ["pairs", "xs", "some", "e", "left", "right"]) kRaw F sc__law_bad_end fun cdv A outer s H E W hr tk =>
    sms_cons (sm_set (i := 2) sc__law_bad_end.nd rfl (by first | exact Or.inl rfl | exact Or.inr rfl) (em_lst (am_cons (em_tup (am_cons (em_str) (am_cons (em_callB c_len rfl B.z_len (by decide +kernel) (am_cons (em_v (pv 0)) (am_nil))) (am_nil)))) (am_cons (em_tup (am_cons (em_str) (am_cons (em_lst (am_nil)) (am_nil)))) (am_cons (em_tup (am_cons (em_str) (am_cons (em_lst (am_cons (em_callB c_len rfl B.z_len (by decide +kernel) (am_cons (em_v (pv 0)) (am_nil))) (am_nil))) (am_nil)))) (am_cons (em_tup (am_cons (em_str) (am_cons (em_int) (am_nil)))) (am_cons (em_tup (am_cons (em_str) (am_cons (em_neg (em_int)) (am_nil)))) (am_nil))))))))
    (sms_cons (sm_expr (em_bm rfl PySem.F.plainAttrs_list PySem.F.slot_list_append PySem.F.type_list_append k_append (fun _ _ _ _ _ => ckList_ty) (em_v (pv 2)) (am_cons (em_tup (am_cons (em_str) (am_cons (em_lst (am_cons (em_neg (em_int)) (am_nil))) (am_nil)))) (am_nil))))
    (sms_cons (sm_for (passes_of rfl) rfl (im_rng1 (by rfl) B.z_range (am_cons (em_callB c_len rfl B.z_len (by decide +kernel) (am_cons (em_v (pv 0)) (am_nil))) (am_nil))) (gm_name (i := 3) (pg_name (i := 3) sc__law_bad_end.nd rfl (by first | exact Or.inl rfl | exact Or.inr rfl))) (sms_cons (sm_asg (em_ix (o_ix (by first | exact hu1 hr | (have hz := hu1 hr; exact hz))) (em_v (pv 0)) (em_v (pv 3)) (fun _ _ => rfl)) (gm_tup rfl (gms_cons (gm_name (i := 4) (pg_name (i := 4) sc__law_bad_end.nd rfl (by first | exact Or.inl rfl | exact Or.inr rfl))) (gms_cons (gm_name (i := 5) (pg_name (i := 5) sc__law_bad_end.nd rfl (by first | exact Or.inl rfl | exact Or.inr rfl))) (gms_nil))) rfl))
    (sms_cons (sm_if (PW.pt (tm_or (tm_cmp (o_eq (hu195 hr)) (em_ix (o_ix (by first | exact hu1 hr | (have hz := hu1 hr; exact hz))) (em_v (pv 4)) (em_int) (fun _ _ => rfl)) (em_str) (nomark _)) (tm_or (tm_cmp (o_eq (hu195 hr)) (em_ix (o_ix (by first | exact hu1 hr | (have hz := hu1 hr; exact hz))) (em_v (pv 5)) (em_int) (fun _ _ => rfl)) (em_str) (nomark _)) (tm_or1 (tm_tru (em_call A__law_same rfl hr tk rfl (am_cons (em_ix (o_ix (by first | exact hu1 hr | (have hz := hu1 hr; exact hz))) (em_v (pv 0)) (em_v (pv 3)) (fun _ _ => rfl)) (am_nil))) rfl))))) (sms_one (sm_expr (em_bm rfl PySem.F.plainAttrs_list PySem.F.slot_list_append PySem.F.type_list_append k_append (fun _ _ _ _ _ => ckList_ty) (em_v (pv 2)) (am_cons (em_tup (am_cons (em_str) (am_cons (em_v (pv 3)) (am_nil)))) (am_nil))))) (sms_nil))
    (sms_one (sm_if (PW.pt (tm_or (tm_cmp (o_eq (hu195 hr)) (em_ix (o_ix (by first | exact hu1 hr | (have hz := hu1 hr; exact hz))) (em_v (pv 4)) (em_int) (fun _ _ => rfl)) (em_str) (nomark _)) (tm_or (tm_cmp (o_eq (hu195 hr)) (em_ix (o_ix (by first | exact hu1 hr | (have hz := hu1 hr; exact hz))) (em_v (pv 5)) (em_int) (fun _ _ => rfl)) (em_str) (nomark _)) (tm_or1 (tm_cmp (o_nin (hu195 hr)) (em_ix (o_ix (by first | exact hu1 hr | (have hz := hu1 hr; exact hz))) (em_v (pv 4)) (em_int) (fun _ _ => rfl)) (em_call A__law_blanks rfl hr tk rfl (am_cons (em_v (pv 5)) (am_nil))) rfl))))) (sms_one (sm_expr (em_bm rfl PySem.F.plainAttrs_list PySem.F.slot_list_append PySem.F.type_list_append k_append (fun _ _ _ _ _ => ckList_ty) (em_v (pv 2)) (am_cons (em_tup (am_cons (em_str) (am_cons (em_lst (am_cons (em_v (pv 3)) (am_nil))) (am_nil)))) (am_nil))))) (sms_nil))))))
    (sms_one (sm_ret (em_ix (o_ix (by first | exact hu1 hr | (have hz := hu1 hr; exact hz))) (em_v (pv 2)) (em_bin o_mod (em_ix (o_ix (by first | exact hu1 hr | (have hz := hu1 hr; exact hz))) (em_v (pv 1)) (em_int) (fun _ _ => rfl)) (em_callB c_len rfl B.z_len (by decide +kernel) (am_cons (em_v (pv 2)) (am_nil)))) (fun _ _ => rfl))))))
theorem sc__law_bad : FnScope ["steps", "pairs", "end", "xs", "t"] ["steps", "pairs", "end", "xs"] (defScope s__law_bad) := ⟨rfl, rfl, rfl, by decide +kernel, rfl, by decide +kernel, by decide +kernel⟩
theorem ok__law_bad (F : FunD K "_law_bad" "_law_bad" (defArgs s__law_bad) (defBody s__law_bad) (defScope s__law_bad) [] [] f fd) (B : Blt mg) {f__law_bad_end f__law_bad_step : Fm} (A__law_bad_end : FnAt P w K mg base n "_law_bad_end" ["pairs", "xs"] f__law_bad_end) (A__law_bad_step : FnAt P w K mg base n "_law_bad_step" ["pairs", "xs"] f__law_bad_step) :
    FnOk P w K mg base (L2.CX P w) (n + 1) f fd ["steps", "pairs", "end", "xs"] (spM K 4 (kRaw.f (runM 4 5 (m__law_bad f__law_bad_end f__law_bad_step)))) :=
  def_ok (N := ["steps", "pairs", "end", "xs", "t"]) kRaw F sc__law_bad fun cdv A outer s H E W hr tk =>
    sms_cons (sm_if (tm_cmp (o_eq (hu195 hr)) (em_bin o_mod (em_ix (o_ix (by first | exact hu1 hr | (have hz := hu1 hr; exact hz))) (em_v (pv 3)) (em_int) (fun _ _ => rfl)) (em_int)) (em_int) (nomark _)) (sms_cons (sm_set (i := 4) sc__law_bad.nd rfl (by first | exact Or.inl rfl | exact Or.inr rfl) (em_bin o_mod (em_ix (o_ix (by first | exact hu1 hr | (have hz := hu1 hr; exact hz))) (em_v (pv 3)) (em_int) (fun _ _ => rfl)) (em_bin o_add (em_callB c_len rfl B.z_len (by decide +kernel) (am_cons (em_v (pv 0)) (am_nil))) (em_int))))
    (sms_one (sm_ret (em_tup (am_cons (em_bin o_add (em_bin o_add (em_slice rfl (em_v (pv 0)) (pm_no) (pm_some (em_v (pv 4)))) (em_lst (am_cons (em_call A__law_bad_step rfl hr tk rfl (am_cons (em_slice rfl (em_v (pv 1)) (pm_no) (pm_some (em_bin o_add (em_v (pv 4)) (em_int)))) (am_cons (em_v (pv 3)) (am_nil)))) (am_nil)))) (em_slice rfl (em_v (pv 0)) (pm_some (em_v (pv 4))) (pm_no))) (am_cons (em_v (pv 2)) (am_nil))))))) (sms_nil))
    (sms_one (sm_ret (em_tup (am_cons (em_v (pv 0)) (am_cons (em_call A__law_bad_end rfl hr tk rfl (am_cons (em_v (pv 1)) (am_cons (em_v (pv 3)) (am_nil)))) (am_nil))))))
theorem sc__law_refused : FnScope ["one", "other", "paper", "word", "e"] ["one", "other", "paper"] (defScope s__law_refused) := ⟨rfl, rfl, rfl, by decide +kernel, rfl, by decide +kernel, by decide +kernel⟩
theorem ok__law_refused (F : FunD K "_law_refused" "_law_refused" (defArgs s__law_refused) (defBody s__law_refused) (defScope s__law_refused) [] [] f fd) (B : Blt mg) (g_BadPaper : mg "BadPaper" = some (.ref (He.ga K "BadPaper"))) (g_BadText : mg "BadText" = some (.ref (He.ga K "BadText"))) (g_TooLong : mg "TooLong" = some (.ref (He.ga K "TooLong"))) (e_BadPaper : ExmOk K (.ref (He.ga K "BadPaper")) [("FormError", false), ("BadText", false), ("TooLong", false), ("BadPaper", true)]) (t_BadText : TabOk K (.ref (He.ga K "BadText")) [("FormError", false), ("BadText", true), ("TooLong", false), ("BadPaper", false)]) (t_TooLong : TabOk K (.ref (He.ga K "TooLong")) [("FormError", false), ("BadText", false), ("TooLong", true), ("BadPaper", false)]) {f_walked : Fm} (A_walked : FnAt P w K mg base n "walked" ["one", "other", "paper"] f_walked) :
    FnOk P w K mg base (L2.CX P w) (n + 1) f fd ["one", "other", "paper"] (spM K 3 (kPure.f (runM 3 5 (m__law_refused f_walked)))) :=
  def_ok (N := ["one", "other", "paper", "word", "e"]) kPure F sc__law_refused fun cdv A outer s H E W hr tk =>
    sms_cons (sm_set (i := 3) sc__law_refused.nd rfl (by first | exact Or.inl rfl | exact Or.inr rfl) (em_str))
    (sms_cons (sm_try (oi := (some 4)) rfl rfl rfl sc__law_refused.nd ⟨rfl, rfl⟩ ⟨rfl, by decide, .inl g_BadPaper⟩ tk rfl e_BadPaper (fun W pn xe tk1 hp1 => sms_one (sm_expr (em_call A_walked rfl hr tk1 rfl (am_cons (em_v (pv 0)) (am_cons (em_v (pv 1)) (am_cons (em_v (pv 2)) (am_nil))))))) (fun a pn => sms_one (sm_set (i := 3) sc__law_refused.nd rfl (by first | exact Or.inl rfl | exact Or.inr rfl) (em_ix (o_ix (by first | exact hu1 hr | (have hz := hu1 hr; exact hz))) (em_lst (am_cons (em_str) (am_cons (em_str) (am_nil)))) (em_callTy c_int rfl B.z_int (by decide +kernel) (am_cons (em_or (em_isx rfl rfl B.z_isinstance rfl g_BadText t_BadText (em_v (pv 4))) (em_one (em_isx rfl rfl B.z_isinstance rfl g_TooLong t_TooLong (em_v (pv 4))))) (am_nil))) (fun _ _ => rfl)))))
    (sms_one (sm_ret (em_cmp (o_eq (hu195 hr)) (em_v (pv 3)) (em_str) (nomark _)))))
theorem sc__law_refused_by_base : FnScope ["one", "other", "paper", "word", "e"] ["one", "other", "paper"] (defScope s__law_refused_by_base) := ⟨rfl, rfl, rfl, by decide +kernel, rfl, by decide +kernel, by decide +kernel⟩
theorem ok__law_refused_by_base (F : FunD K "_law_refused_by_base" "_law_refused_by_base" (defArgs s__law_refused_by_base) (defBody s__law_refused_by_base) (defScope s__law_refused_by_base) [] [] f fd) (B : Blt mg) (g_FormError : mg "FormError" = some (.ref (He.ga K "FormError"))) (e_FormError : ExmOk K (.ref (He.ga K "FormError")) [("FormError", true), ("BadText", true), ("TooLong", true), ("BadPaper", true)]) (z_ValueError : mg "ValueError" = none) (t_ValueError : TabOk K (.type "ValueError") [("FormError", true), ("BadText", true), ("TooLong", true), ("BadPaper", true)]) {f_walked : Fm} (A_walked : FnAt P w K mg base n "walked" ["one", "other", "paper"] f_walked) :
    FnOk P w K mg base (L2.CX P w) (n + 1) f fd ["one", "other", "paper"] (spM K 3 (kPure.f (runM 3 5 (m__law_refused_by_base f_walked)))) :=
  def_ok (N := ["one", "other", "paper", "word", "e"]) kPure F sc__law_refused_by_base fun cdv A outer s H E W hr tk =>
    sms_cons (sm_set (i := 3) sc__law_refused_by_base.nd rfl (by first | exact Or.inl rfl | exact Or.inr rfl) (em_bl))
    (sms_cons (sm_try (oi := (some 4)) rfl rfl rfl sc__law_refused_by_base.nd ⟨rfl, rfl⟩ ⟨rfl, by decide, .inl g_FormError⟩ tk rfl e_FormError (fun W pn xe tk1 hp1 => sms_one (sm_expr (em_call A_walked rfl hr tk1 rfl (am_cons (em_v (pv 0)) (am_cons (em_v (pv 1)) (am_cons (em_v (pv 2)) (am_nil))))))) (fun a pn => sms_one (sm_set (i := 3) sc__law_refused_by_base.nd rfl (by first | exact Or.inl rfl | exact Or.inr rfl) (em_isxB (T := "ValueError") rfl rfl B.z_isinstance rfl z_ValueError (by decide +kernel) t_ValueError (em_v (pv 4))))))
    (sms_one (sm_ret (em_v (pv 3)))))
theorem sc_law_k37 : FnScope ["script", "one", "other", "pairs", "steps", "cell", "step", "pair", "xs", "end", "good", "handed", "found", "bad"] ["script"] (defScope s_law) := ⟨rfl, rfl, rfl, by decide +kernel, rfl, by decide +kernel, by decide +kernel⟩
theorem ok_law_k37 (F : FunD K "law" "law" (defArgs s_law) (defBody s_law) (defScope s_law) [] [] f fd) (B : Blt mg) {f__law_refused_by_base f__law_refused f__law_bad f_walked f__law_end f__law_cell_at f__law_stream f__law_step f__law_pair : Fm} (A__law_refused_by_base : FnAt P w K mg base n "_law_refused_by_base" ["one", "other", "paper"] f__law_refused_by_base) (A__law_refused : FnAt P w K mg base n "_law_refused" ["one", "other", "paper"] f__law_refused) (A__law_bad : FnAt P w K mg base n "_law_bad" ["steps", "pairs", "end", "xs"] f__law_bad) (A_walked : FnAt P w K mg base n "walked" ["one", "other", "paper"] f_walked) (A__law_end : FnAt P w K mg base n "_law_end" ["pairs", "xs"] f__law_end) (A__law_cell_at : FnAt P w K mg base n "_law_cell_at" ["script", "k"] f__law_cell_at) (A__law_stream : FnAt P w K mg base n "_law_stream" ["cell", "many"] f__law_stream) (A__law_step : FnAt P w K mg base n "_law_step" ["pairs", "xs"] f__law_step) (A__law_pair : FnAt P w K mg base n "_law_pair" ["script"] f__law_pair) :
    FnOk P w K mg base (L2.CX P w) (n + 1) f fd ["script"] (spM K 1 (kPure.f (runM 1 14 (m_law_k37 f__law_refused_by_base f__law_refused f__law_bad f_walked f__law_end f__law_cell_at f__law_stream f__law_step f__law_pair)))) :=
  def_ok (N := ["script", "one", "other", "pairs", "steps", "cell", "step", "pair", "xs", "end", "good", "handed", "found", "bad"]) kPure F sc_law_k37 fun cdv A outer s H E W hr tk =>
    sms_cons (sm_asg (em_call A__law_pair rfl hr tk rfl (am_cons (em_v (pv 0)) (am_nil))) (gm_tup rfl (gms_cons (gm_name (i := 1) (pg_name (i := 1) sc_law_k37.nd rfl (by first | exact Or.inl rfl | exact Or.inr rfl))) (gms_cons (gm_name (i := 2) (pg_name (i := 2) sc_law_k37.nd rfl (by first | exact Or.inl rfl | exact Or.inr rfl))) (gms_nil))) rfl))
    (sms_cons (sm_set (i := 3) sc_law_k37.nd rfl (by first | exact Or.inl rfl | exact Or.inr rfl) (em_lst (am_cons (em_tup (am_cons (em_v (pv 1)) (am_cons (em_v (pv 2)) (am_nil)))) (am_nil))))
    (sms_cons (sm_set (i := 4) sc_law_k37.nd rfl (by first | exact Or.inl rfl | exact Or.inr rfl) (em_lst (am_nil)))
    (sms_cons (sm_for (passes_of rfl) rfl (im_val rfl (em_slice rfl (em_v (pv 0)) (pm_some (em_int)) (pm_some (em_int)))) (gm_name (i := 5) (pg_name (i := 5) sc_law_k37.nd rfl (by first | exact Or.inl rfl | exact Or.inr rfl))) (sms_cons (sm_asg (em_call A__law_step rfl hr tk rfl (am_cons (em_v (pv 3)) (am_cons (em_call A__law_stream rfl hr tk rfl (am_cons (em_v (pv 5)) (am_cons (em_int) (am_nil)))) (am_nil)))) (gm_tup rfl (gms_cons (gm_name (i := 6) (pg_name (i := 6) sc_law_k37.nd rfl (by first | exact Or.inl rfl | exact Or.inr rfl))) (gms_cons (gm_name (i := 7) (pg_name (i := 7) sc_law_k37.nd rfl (by first | exact Or.inl rfl | exact Or.inr rfl))) (gms_nil))) rfl))
    (sms_cons (sm_expr (em_bm rfl PySem.F.plainAttrs_list PySem.F.slot_list_append PySem.F.type_list_append k_append (fun _ _ _ _ _ => ckList_ty) (em_v (pv 4)) (am_cons (em_v (pv 6)) (am_nil))))
    (sms_one (sm_expr (em_bm rfl PySem.F.plainAttrs_list PySem.F.slot_list_append PySem.F.type_list_append k_append (fun _ _ _ _ _ => ckList_ty) (em_v (pv 3)) (am_cons (em_v (pv 7)) (am_nil))))))))
    (sms_cons (sm_set (i := 8) sc_law_k37.nd rfl (by first | exact Or.inl rfl | exact Or.inr rfl) (em_call A__law_stream rfl hr tk rfl (am_cons (em_bin o_add (em_call A__law_cell_at rfl hr tk rfl (am_cons (em_v (pv 0)) (am_cons (em_int) (am_nil)))) (em_int)) (am_cons (em_int) (am_nil)))))
    (sms_cons (sm_asg (em_call A__law_end rfl hr tk rfl (am_cons (em_v (pv 3)) (am_cons (em_slice rfl (em_v (pv 8)) (pm_no) (pm_some (em_int))) (am_nil)))) (gm_tup rfl (gms_cons (gm_name (i := 9) (pg_name (i := 9) sc_law_k37.nd rfl (by first | exact Or.inl rfl | exact Or.inr rfl))) (gms_cons (gm_name (i := 10) (pg_name (i := 10) sc_law_k37.nd rfl (by first | exact Or.inl rfl | exact Or.inr rfl))) (gms_nil))) rfl))
    (sms_cons (sm_set (i := 11) sc_law_k37.nd rfl (by first | exact Or.inl rfl | exact Or.inr rfl) (em_tup (am_cons (em_callTy c_list rfl B.z_list (by decide +kernel) (am_cons (em_v (pv 4)) (am_nil))) (am_cons (em_v (pv 9)) (am_nil)))))
    (sms_cons (sm_if (tm_tru (em_v (pv 10)) rfl) (sms_cons (sm_set (i := 12) sc_law_k37.nd rfl (by first | exact Or.inl rfl | exact Or.inr rfl) (em_call A_walked rfl hr tk rfl (am_cons (em_v (pv 1)) (am_cons (em_v (pv 2)) (am_cons (em_v (pv 11)) (am_nil))))))
    (sms_one (sm_if (PW.pt (tm_or (tm_not (tm_tru (em_isi (T := "list") rfl (by decide) rfl B.z_isinstance rfl B.z_list (by decide +kernel) (em_v (pv 12))) rfl)) (tm_or1 (tm_cmp (o_ne (hu195 hr)) (em_v (pv 12)) (em_v (pv 3)) (nomark _))))) (sms_one (sm_ret (em_bl))) (sms_nil)))) (sms_one (sm_if (tm_not (tm_tru (em_call A__law_refused rfl hr tk rfl (am_cons (em_v (pv 1)) (am_cons (em_v (pv 2)) (am_cons (em_v (pv 11)) (am_nil))))) rfl)) (sms_one (sm_ret (em_bl))) (sms_nil))))
    (sms_cons (sm_set (i := 13) sc_law_k37.nd rfl (by first | exact Or.inl rfl | exact Or.inr rfl) (em_call A__law_bad rfl hr tk rfl (am_cons (em_v (pv 4)) (am_cons (em_v (pv 3)) (am_cons (em_v (pv 9)) (am_cons (em_slice rfl (em_v (pv 8)) (pm_some (em_int)) (pm_some (em_int))) (am_nil)))))))
    (sms_cons (sm_if (PW.pt (tm_or (tm_cmp (o_ne (hu195 hr)) (em_v (pv 11)) (em_tup (am_cons (em_v (pv 4)) (am_cons (em_v (pv 9)) (am_nil)))) (nomark _)) (tm_or1 (tm_not (tm_tru (em_call A__law_refused rfl hr tk rfl (am_cons (em_v (pv 1)) (am_cons (em_v (pv 2)) (am_cons (em_v (pv 13)) (am_nil))))) rfl))))) (sms_one (sm_ret (em_bl))) (sms_nil))
    (sms_one (sm_ret (em_call A__law_refused_by_base rfl hr tk rfl (am_cons (em_v (pv 1)) (am_cons (em_v (pv 2)) (am_cons (em_v (pv 13)) (am_nil))))))))))))))))
end
section
variable {P : Program} {w : World} {K : PySem.W.Frag} {mg : Str → Option Value} {h : Heap} (X : K.In h) (G : h.Ns mainGlobals mg) (c : SaysX fa fn K)
include X G c
theorem blt : Blt mg := ⟨He.free_ok X G (c.fact 34 (f := .free "len") rfl), He.free_ok X G (c.fact 35 (f := .free "range") rfl), He.free_ok X G (c.fact 36 (f := .free "int") rfl), He.free_ok X G (c.fact 37 (f := .free "str") rfl), He.free_ok X G (c.fact 38 (f := .free "sum") rfl), He.free_ok X G (c.fact 39 (f := .free "max") rfl), He.free_ok X G (c.fact 40 (f := .free "min") rfl), He.free_ok X G (c.fact 41 (f := .free "enumerate") rfl), He.free_ok X G (c.fact 42 (f := .free "isinstance") rfl), He.free_ok X G (c.fact 43 (f := .free "tuple") rfl), He.free_ok X G (c.fact 44 (f := .free "list") rfl), He.free_ok X G (c.fact 45 (f := .free "dict") rfl), He.free_ok X G (c.fact 46 (f := .free "sorted") rfl), He.free_ok X G (c.fact 47 (f := .free "abs") rfl), He.free_ok X G (c.fact 48 (f := .free "all") rfl), He.free_ok X G (c.fact 49 (f := .free "set") rfl), He.free_ok X G (c.fact 50 (f := .free "bool") rfl)⟩
theorem x_BadPaper : ExcF K mg "BadPaper" := let ⟨q, k, b, t⟩ := He.exc_ok (c.fact 73 (f := .exc "BadPaper") rfl); ⟨q, He.glo_ok X G (c.fact 33 (f := .glo "BadPaper") rfl), k, b, t⟩
theorem g_BadPaper : mg "BadPaper" = some (.ref (He.ga K "BadPaper")) := He.glo_ok X G (c.fact 33 (f := .glo "BadPaper") rfl)
theorem g_FormError : mg "FormError" = some (.ref (He.ga K "FormError")) := He.glo_ok X G (c.fact 30 (f := .glo "FormError") rfl)
theorem g_BadText : mg "BadText" = some (.ref (He.ga K "BadText")) := He.glo_ok X G (c.fact 31 (f := .glo "BadText") rfl)
theorem g_TooLong : mg "TooLong" = some (.ref (He.ga K "TooLong")) := He.glo_ok X G (c.fact 32 (f := .glo "TooLong") rfl)
theorem e_BadPaper : ExmOk K (.ref (He.ga K "BadPaper")) [("FormError", false), ("BadText", false), ("TooLong", false), ("BadPaper", true)] := fun c0 b0 h0 => by
  simp only [List.mem_cons, Prod.mk.injEq, List.not_mem_nil, or_false] at h0
  rcases h0 with ⟨rfl, rfl⟩ | ⟨rfl, rfl⟩ | ⟨rfl, rfl⟩ | ⟨rfl, rfl⟩
  · exact He.exm_ok (c.fact 54 rfl)
  · exact He.exm_ok (c.fact 61 rfl)
  · exact He.exm_ok (c.fact 68 rfl)
  · exact He.exm_ok (c.fact 75 rfl)
theorem e_FormError : ExmOk K (.ref (He.ga K "FormError")) [("FormError", true), ("BadText", true), ("TooLong", true), ("BadPaper", true)] := fun c0 b0 h0 => by
  simp only [List.mem_cons, Prod.mk.injEq, List.not_mem_nil, or_false] at h0
  rcases h0 with ⟨rfl, rfl⟩ | ⟨rfl, rfl⟩ | ⟨rfl, rfl⟩ | ⟨rfl, rfl⟩
  · exact He.exm_ok (c.fact 55 rfl)
  · exact He.exm_ok (c.fact 62 rfl)
  · exact He.exm_ok (c.fact 69 rfl)
  · exact He.exm_ok (c.fact 76 rfl)
theorem t_BadText : TabOk K (.ref (He.ga K "BadText")) [("FormError", false), ("BadText", true), ("TooLong", false), ("BadPaper", false)] := fun c0 b0 h0 => by
  simp only [List.mem_cons, Prod.mk.injEq, List.not_mem_nil, or_false] at h0
  rcases h0 with ⟨rfl, rfl⟩ | ⟨rfl, rfl⟩ | ⟨rfl, rfl⟩ | ⟨rfl, rfl⟩
  · exact ⟨c.fact0 53 (f := .kx "FormError") rfl, of_decide_eq_true (c.fact0 56 (f := .ix "FormError" "BadText" false) rfl)⟩
  · exact ⟨c.fact0 60 (f := .kx "BadText") rfl, of_decide_eq_true (c.fact0 63 (f := .ix "BadText" "BadText" true) rfl)⟩
  · exact ⟨c.fact0 67 (f := .kx "TooLong") rfl, of_decide_eq_true (c.fact0 70 (f := .ix "TooLong" "BadText" false) rfl)⟩
  · exact ⟨c.fact0 74 (f := .kx "BadPaper") rfl, of_decide_eq_true (c.fact0 77 (f := .ix "BadPaper" "BadText" false) rfl)⟩
theorem t_TooLong : TabOk K (.ref (He.ga K "TooLong")) [("FormError", false), ("BadText", false), ("TooLong", true), ("BadPaper", false)] := fun c0 b0 h0 => by
  simp only [List.mem_cons, Prod.mk.injEq, List.not_mem_nil, or_false] at h0
  rcases h0 with ⟨rfl, rfl⟩ | ⟨rfl, rfl⟩ | ⟨rfl, rfl⟩ | ⟨rfl, rfl⟩
  · exact ⟨c.fact0 53 (f := .kx "FormError") rfl, of_decide_eq_true (c.fact0 57 (f := .ix "FormError" "TooLong" false) rfl)⟩
  · exact ⟨c.fact0 60 (f := .kx "BadText") rfl, of_decide_eq_true (c.fact0 64 (f := .ix "BadText" "TooLong" false) rfl)⟩
  · exact ⟨c.fact0 67 (f := .kx "TooLong") rfl, of_decide_eq_true (c.fact0 71 (f := .ix "TooLong" "TooLong" true) rfl)⟩
  · exact ⟨c.fact0 74 (f := .kx "BadPaper") rfl, of_decide_eq_true (c.fact0 78 (f := .ix "BadPaper" "TooLong" false) rfl)⟩
theorem z_ValueError : mg "ValueError" = none := He.free_ok X G (c.fact 51 (f := .free "ValueError") rfl)
theorem t_ValueError : TabOk K (.type "ValueError") [("FormError", true), ("BadText", true), ("TooLong", true), ("BadPaper", true)] := fun c0 b0 h0 => by
  simp only [List.mem_cons, Prod.mk.injEq, List.not_mem_nil, or_false] at h0
  rcases h0 with ⟨rfl, rfl⟩ | ⟨rfl, rfl⟩ | ⟨rfl, rfl⟩ | ⟨rfl, rfl⟩
  · exact ⟨c.fact0 53 (f := .kx "FormError") rfl, of_decide_eq_true (c.fact0 58 (f := .ib "FormError" "ValueError" true) rfl)⟩
  · exact ⟨c.fact0 60 (f := .kx "BadText") rfl, of_decide_eq_true (c.fact0 65 (f := .ib "BadText" "ValueError" true) rfl)⟩
  · exact ⟨c.fact0 67 (f := .kx "TooLong") rfl, of_decide_eq_true (c.fact0 72 (f := .ib "TooLong" "ValueError" true) rfl)⟩
  · exact ⟨c.fact0 74 (f := .kx "BadPaper") rfl, of_decide_eq_true (c.fact0 79 (f := .ib "BadPaper" "ValueError" true) rfl)⟩
theorem at_blanks_of (base : Heap) : ∀ n, FnAt P w K mg base n "blanks_of" ["tree"] (F_blanks_of n) := by
  obtain ⟨fd, F⟩ := c.def_ 0 (d := d_blanks_of) rfl
  have b : Binds K fd ["tree"] [] := F.bindsN fun _ _ _ _ _ _ us hl => match us, hl with | [_], _ => rfl
  have g := He.glo_ok X G (c.fact 0 (f := .glo "blanks_of") rfl)
  intro n
  induction n with
  | zero => exact fnAt_zero F g b
  | succ n ih => exact fnAt_by kNew rfl F g b (ok_blanks_of F (blt X G c) ih)
theorem at_both_blocks (base : Heap) : ∀ n, FnAt P w K mg base n "both_blocks" ["pair"] (F_both_blocks n) := by
  obtain ⟨fd, F⟩ := c.def_ 1 (d := d_both_blocks) rfl
  have b : Binds K fd ["pair"] [] := F.bindsN fun _ _ _ _ _ _ us hl => match us, hl with | [_], _ => rfl
  have g := He.glo_ok X G (c.fact 1 (f := .glo "both_blocks") rfl)
  intro n
  induction n with
  | zero => exact fnAt_zero F g b
  | succ n ih => exact fnAt_by kPure rfl F g b (ok_both_blocks F (blt X G c))
theorem at_same_kind (base : Heap) : ∀ n, FnAt P w K mg base n "same_kind" ["pair"] (F_same_kind n) := by
  obtain ⟨fd, F⟩ := c.def_ 2 (d := d_same_kind) rfl
  have b : Binds K fd ["pair"] [] := F.bindsN fun _ _ _ _ _ _ us hl => match us, hl with | [_], _ => rfl
  have g := He.glo_ok X G (c.fact 2 (f := .glo "same_kind") rfl)
  intro n
  induction n with
  | zero => exact fnAt_zero F g b
  | succ n ih => exact fnAt_by kPure rfl F g b (ok_same_kind F (blt X G c) (at_both_blocks X G c base n))
theorem at_likeness (base : Heap) : ∀ n, FnAt P w K mg base n "likeness" ["pairs", "number"] (F_likeness n) := by
  obtain ⟨fd, F⟩ := c.def_ 3 (d := d_likeness) rfl
  have b : Binds K fd ["pairs", "number"] [] := F.bindsN fun _ _ _ _ _ _ us hl => match us, hl with | [_, _], _ => rfl
  have g := He.glo_ok X G (c.fact 3 (f := .glo "likeness") rfl)
  intro n
  induction n with
  | zero => exact fnAt_zero F g b
  | succ n ih => exact fnAt_by kPure rfl F g b (ok_likeness F (blt X G c) (x_BadPaper X G c))
theorem at_by_step (base : Heap) : ∀ n, FnAt P w K mg base n "by_step" ["pairs", "step"] (F_by_step n) := by
  obtain ⟨fd, F⟩ := c.def_ 4 (d := d_by_step) rfl
  have b : Binds K fd ["pairs", "step"] [] := F.bindsN fun _ _ _ _ _ _ us hl => match us, hl with | [_, _], _ => rfl
  have g := He.glo_ok X G (c.fact 4 (f := .glo "by_step") rfl)
  intro n
  induction n with
  | zero => exact fnAt_zero F g b
  | succ n ih => exact fnAt_by kPure rfl F g b (ok_by_step F (blt X G c) (x_BadPaper X G c) (at_likeness X G c base n) (at_same_kind X G c base n))
theorem at_check_row (base : Heap) : ∀ n, FnAt P w K mg base n "check_row" ["pairs", "row"] (F_check_row n) := by
  obtain ⟨fd, F⟩ := c.def_ 5 (d := d_check_row) rfl
  have b : Binds K fd ["pairs", "row"] [] := F.bindsN fun _ _ _ _ _ _ us hl => match us, hl with | [_, _], _ => rfl
  have g := He.glo_ok X G (c.fact 5 (f := .glo "check_row") rfl)
  intro n
  induction n with
  | zero => exact fnAt_zero F g b
  | succ n ih => exact fnAt_by kPure rfl F g b (ok_check_row F (blt X G c) (x_BadPaper X G c) (at_blanks_of X G c base n) (at_likeness X G c base n))
theorem at_check_end (base : Heap) : ∀ n, FnAt P w K mg base n "check_end" ["pairs", "end"] (F_check_end n) := by
  obtain ⟨fd, F⟩ := c.def_ 6 (d := d_check_end) rfl
  have b : Binds K fd ["pairs", "end"] [] := F.bindsN fun _ _ _ _ _ _ us hl => match us, hl with | [_, _], _ => rfl
  have g := He.glo_ok X G (c.fact 6 (f := .glo "check_end") rfl)
  intro n
  induction n with
  | zero => exact fnAt_zero F g b
  | succ n ih => exact fnAt_by kPure rfl F g b (ok_check_end F (blt X G c) (x_BadPaper X G c) (at_both_blocks X G c base n) (at_same_kind X G c base n) (at_likeness X G c base n) (at_check_row X G c base n))
theorem at_walked (base : Heap) : ∀ n, FnAt P w K mg base n "walked" ["one", "other", "paper"] (F_walked n) := by
  obtain ⟨fd, F⟩ := c.def_ 7 (d := d_walked) rfl
  have b : Binds K fd ["one", "other", "paper"] [] := F.bindsN fun _ _ _ _ _ _ us hl => match us, hl with | [_, _, _], _ => rfl
  have g := He.glo_ok X G (c.fact 7 (f := .glo "walked") rfl)
  intro n
  induction n with
  | zero => exact fnAt_zero F g b
  | succ n ih => exact fnAt_by kNew rfl F g b (ok_walked F (blt X G c) (at_check_end X G c base n) (at_by_step X G c base n))
theorem at__law_cell_at (base : Heap) : ∀ n, FnAt P w K mg base n "_law_cell_at" ["script", "k"] (F__law_cell_at n) := by
  obtain ⟨fd, F⟩ := c.def_ 8 (d := d__law_cell_at) rfl
  have b : Binds K fd ["script", "k"] [] := F.bindsN fun _ _ _ _ _ _ us hl => match us, hl with | [_, _], _ => rfl
  have g := He.glo_ok X G (c.fact 8 (f := .glo "_law_cell_at") rfl)
  intro n
  induction n with
  | zero => exact fnAt_zero F g b
  | succ n ih => exact fnAt_by kPure rfl F g b (ok__law_cell_at F (blt X G c))
theorem at__law_stream (base : Heap) : ∀ n, FnAt P w K mg base n "_law_stream" ["cell", "many"] (F__law_stream n) := by
  obtain ⟨fd, F⟩ := c.def_ 9 (d := d__law_stream) rfl
  have b : Binds K fd ["cell", "many"] [] := F.bindsN fun _ _ _ _ _ _ us hl => match us, hl with | [_, _], _ => rfl
  have g := He.glo_ok X G (c.fact 9 (f := .glo "_law_stream") rfl)
  intro n
  induction n with
  | zero => exact fnAt_zero F g b
  | succ n ih => exact fnAt_by kNew rfl F g b (ok__law_stream F (blt X G c))
theorem at__law_names_v3 (base : Heap) : ∀ n, FnAt P w K mg base n "_law_names" ["cell"] (F__law_names_v3 n) := by
  obtain ⟨fd, F⟩ := c.def_ 10 (d := d__law_names) rfl
  have b : Binds K fd ["cell"] [] := F.bindsN fun _ _ _ _ _ _ us hl => match us, hl with | [_], _ => rfl
  have g := He.glo_ok X G (c.fact 10 (f := .glo "_law_names") rfl)
  intro n
  induction n with
  | zero => exact fnAt_zero F g b
  | succ n ih => exact fnAt_by kNew rfl F g b (ok__law_names_v3 F (blt X G c) (at__law_stream X G c base n))
theorem at__law_number (base : Heap) : ∀ n, FnAt P w K mg base n "_law_number" ["cell", "k"] (F__law_number n) := by
  obtain ⟨fd, F⟩ := c.def_ 11 (d := d__law_number) rfl
  have b : Binds K fd ["cell", "k"] [] := F.bindsN fun _ _ _ _ _ _ us hl => match us, hl with | [_, _], _ => rfl
  have g := He.glo_ok X G (c.fact 11 (f := .glo "_law_number") rfl)
  intro n
  induction n with
  | zero => exact fnAt_zero F g b
  | succ n ih => exact fnAt_by kPure rfl F g b (ok__law_number F (blt X G c))
theorem at__law_grow (base : Heap) : ∀ n, FnAt P w K mg base n "_law_grow" ["cells", "at", "deep", "names", "first"] (F__law_grow n) := by
  obtain ⟨fd, F⟩ := c.def_ 12 (d := d__law_grow) rfl
  have b : Binds K fd ["cells", "at", "deep", "names", "first"] [] := F.bindsN fun _ _ _ _ _ _ us hl => match us, hl with | [_, _, _, _, _], _ => rfl
  have g := He.glo_ok X G (c.fact 12 (f := .glo "_law_grow") rfl)
  intro n
  induction n with
  | zero => exact fnAt_zero F g b
  | succ n ih => exact fnAt_by kPure rfl F g b (ok__law_grow F (blt X G c) ih (at__law_number X G c base n) (at__law_stream X G c base n))
theorem at__law_changed (base : Heap) : ∀ n, FnAt P w K mg base n "_law_changed" ["tree", "xs", "at", "small"] (F__law_changed n) := by
  obtain ⟨fd, F⟩ := c.def_ 14 (d := d__law_changed) rfl
  have b : Binds K fd ["tree", "xs", "at", "small"] [] := F.bindsN fun _ _ _ _ _ _ us hl => match us, hl with | [_, _, _, _], _ => rfl
  have g := He.glo_ok X G (c.fact 14 (f := .glo "_law_changed") rfl)
  intro n
  induction n with
  | zero => exact fnAt_zero F g b
  | succ n ih => exact fnAt_by kPure rfl F g b (ok__law_changed F (blt X G c) ih)
theorem at__law_blanks_v2 (base : Heap) : ∀ n, FnAt P w K mg base n "_law_blanks" ["tree"] (F__law_blanks_v2 n) := by
  obtain ⟨fd, F⟩ := c.def_ 18 (d := d__law_blanks) rfl
  have b : Binds K fd ["tree"] [] := F.bindsN fun _ _ _ _ _ _ us hl => match us, hl with | [_], _ => rfl
  have g := He.glo_ok X G (c.fact 18 (f := .glo "_law_blanks") rfl)
  intro n
  induction n with
  | zero => exact fnAt_zero F g b
  | succ n ih => exact fnAt_by kNew rfl F g b (ok__law_blanks_v2 F (blt X G c) ih)
theorem at__law_pair_v2 (base : Heap) : ∀ n, FnAt P w K mg base n "_law_pair" ["script"] (F__law_pair_v2 n) := by
  obtain ⟨fd, F⟩ := c.def_ 20 (d := d__law_pair) rfl
  have b : Binds K fd ["script"] [] := F.bindsN fun _ _ _ _ _ _ us hl => match us, hl with | [_], _ => rfl
  have g := He.glo_ok X G (c.fact 20 (f := .glo "_law_pair") rfl)
  intro n
  induction n with
  | zero => exact fnAt_zero F g b
  | succ n ih => exact fnAt_by kPure rfl F g b (ok__law_pair_v2 F (blt X G c) (at__law_changed X G c base n) (at__law_number X G c base n) (at__law_cell_at X G c base n) (at__law_stream X G c base n) (at__law_grow X G c base n) (at__law_names_v3 X G c base n))
theorem at__law_same (base : Heap) : ∀ n, FnAt P w K mg base n "_law_same" ["pair"] (F__law_same n) := by
  obtain ⟨fd, F⟩ := c.def_ 21 (d := d__law_same) rfl
  have b : Binds K fd ["pair"] [] := F.bindsN fun _ _ _ _ _ _ us hl => match us, hl with | [_], _ => rfl
  have g := He.glo_ok X G (c.fact 21 (f := .glo "_law_same") rfl)
  intro n
  induction n with
  | zero => exact fnAt_zero F g b
  | succ n ih => exact fnAt_by kPure rfl F g b (ok__law_same F (blt X G c))
theorem at__law_step (base : Heap) : ∀ n, FnAt P w K mg base n "_law_step" ["pairs", "xs"] (F__law_step n) := by
  obtain ⟨fd, F⟩ := c.def_ 22 (d := d__law_step) rfl
  have b : Binds K fd ["pairs", "xs"] [] := F.bindsN fun _ _ _ _ _ _ us hl => match us, hl with | [_, _], _ => rfl
  have g := He.glo_ok X G (c.fact 22 (f := .glo "_law_step") rfl)
  intro n
  induction n with
  | zero => exact fnAt_zero F g b
  | succ n ih => exact fnAt_by kPure rfl F g b (ok__law_step F (blt X G c) (at__law_same X G c base n))
theorem at__law_end (base : Heap) : ∀ n, FnAt P w K mg base n "_law_end" ["pairs", "xs"] (F__law_end n) := by
  obtain ⟨fd, F⟩ := c.def_ 23 (d := d__law_end) rfl
  have b : Binds K fd ["pairs", "xs"] [] := F.bindsN fun _ _ _ _ _ _ us hl => match us, hl with | [_, _], _ => rfl
  have g := He.glo_ok X G (c.fact 23 (f := .glo "_law_end") rfl)
  intro n
  induction n with
  | zero => exact fnAt_zero F g b
  | succ n ih => exact fnAt_by kRaw rfl F g b (ok__law_end F (blt X G c) (at__law_blanks_v2 X G c base n) (at__law_same X G c base n))
theorem at__law_bad_step (base : Heap) : ∀ n, FnAt P w K mg base n "_law_bad_step" ["pairs", "xs"] (F__law_bad_step n) := by
  obtain ⟨fd, F⟩ := c.def_ 24 (d := d__law_bad_step) rfl
  have b : Binds K fd ["pairs", "xs"] [] := F.bindsN fun _ _ _ _ _ _ us hl => match us, hl with | [_, _], _ => rfl
  have g := He.glo_ok X G (c.fact 24 (f := .glo "_law_bad_step") rfl)
  intro n
  induction n with
  | zero => exact fnAt_zero F g b
  | succ n ih => exact fnAt_by kPure rfl F g b (ok__law_bad_step F (blt X G c) (at__law_same X G c base n))
theorem at__law_bad_end (base : Heap) : ∀ n, FnAt P w K mg base n "_law_bad_end" ["pairs", "xs"] (F__law_bad_end n) := by
  obtain ⟨fd, F⟩ := c.def_ 25 (d := d__law_bad_end) rfl
  have b : Binds K fd ["pairs", "xs"] [] := F.bindsN fun _ _ _ _ _ _ us hl => match us, hl with | [_, _], _ => rfl
  have g := He.glo_ok X G (c.fact 25 (f := .glo "_law_bad_end") rfl)
  intro n
  induction n with
  | zero => exact fnAt_zero F g b
  | succ n ih => exact fnAt_by kRaw rfl F g b (ok__law_bad_end F (blt X G c) (at__law_blanks_v2 X G c base n) (at__law_same X G c base n))
theorem at__law_bad (base : Heap) : ∀ n, FnAt P w K mg base n "_law_bad" ["steps", "pairs", "end", "xs"] (F__law_bad n) := by
  obtain ⟨fd, F⟩ := c.def_ 26 (d := d__law_bad) rfl
  have b : Binds K fd ["steps", "pairs", "end", "xs"] [] := F.bindsN fun _ _ _ _ _ _ us hl => match us, hl with | [_, _, _, _], _ => rfl
  have g := He.glo_ok X G (c.fact 26 (f := .glo "_law_bad") rfl)
  intro n
  induction n with
  | zero => exact fnAt_zero F g b
  | succ n ih => exact fnAt_by kRaw rfl F g b (ok__law_bad F (blt X G c) (at__law_bad_end X G c base n) (at__law_bad_step X G c base n))
theorem at__law_refused (base : Heap) : ∀ n, FnAt P w K mg base n "_law_refused" ["one", "other", "paper"] (F__law_refused n) := by
  obtain ⟨fd, F⟩ := c.def_ 27 (d := d__law_refused) rfl
  have b : Binds K fd ["one", "other", "paper"] [] := F.bindsN fun _ _ _ _ _ _ us hl => match us, hl with | [_, _, _], _ => rfl
  have g := He.glo_ok X G (c.fact 27 (f := .glo "_law_refused") rfl)
  intro n
  induction n with
  | zero => exact fnAt_zero F g b
  | succ n ih => exact fnAt_by kPure rfl F g b (ok__law_refused F (blt X G c) (g_BadPaper X G c) (g_BadText X G c) (g_TooLong X G c) (e_BadPaper X G c) (t_BadText X G c) (t_TooLong X G c) (at_walked X G c base n))
theorem at__law_refused_by_base (base : Heap) : ∀ n, FnAt P w K mg base n "_law_refused_by_base" ["one", "other", "paper"] (F__law_refused_by_base n) := by
  obtain ⟨fd, F⟩ := c.def_ 28 (d := d__law_refused_by_base) rfl
  have b : Binds K fd ["one", "other", "paper"] [] := F.bindsN fun _ _ _ _ _ _ us hl => match us, hl with | [_, _, _], _ => rfl
  have g := He.glo_ok X G (c.fact 28 (f := .glo "_law_refused_by_base") rfl)
  intro n
  induction n with
  | zero => exact fnAt_zero F g b
  | succ n ih => exact fnAt_by kPure rfl F g b (ok__law_refused_by_base F (blt X G c) (g_FormError X G c) (e_FormError X G c) (z_ValueError X G c) (t_ValueError X G c) (at_walked X G c base n))
end
end Wk
open PySem PySem.W PySem.Calls PyProof.Rows
theorem head_holds (hc : PySem.W.WalkO (view (OpenLaw.row PySem.Challenge.rw_commonform_k37_papers_walked).prog [37]) Hd.ls (XL (view (OpenLaw.row PySem.Challenge.rw_commonform_k37_papers_walked).prog [37]) []) Hd.hk.says (OpenLaw.row PySem.Challenge.rw_commonform_k37_papers_walked).toRowW (HandSHeadRun.topDef (OpenLaw.row PySem.Challenge.rw_commonform_k37_papers_walked).prog 37) [] fun f vs => PySem.call f vs) : PySem.Challenge.rw_commonform_k37_papers_walked.Holds := by
  w_on; o_law
  refine HandSHeadRun.head_any (r := OpenLaw.row PySem.Challenge.rw_commonform_k37_papers_walked) (q := view (OpenLaw.row PySem.Challenge.rw_commonform_k37_papers_walked).prog [37]) (H := Hd.hk) (ob := Hd.ob) (M := 8500) (loose := Hd.ls) (d := HandSHeadRun.topDef (OpenLaw.row PySem.Challenge.rw_commonform_k37_papers_walked).prog 37) (kwd := []) Hd.ob_eq
    (by kernel_rfl) (fun s => by kernel_rfl) Hd.run (by kernel_rfl) (by kernel_rfl) (by kernel_rfl) (by rfl) (by first | assumption | decide +kernel) (by decide +kernel) ⟨rfl, rfl, rfl, rfl, rfl, by decide +kernel⟩ ?hw hc
  case hw => w_witness2
theorem law_done (hφ : ∀ ns : List Int, ns.length ≤ 63 → ∃ h, DV.F_law_k37 230 [.ro ns] [] = .ok (.bl true) h) : PySem.Challenge.rw_commonform_k37_papers_walked.Holds := by
  refine head_holds (DV.law_end (k := 230) rfl (by kernel_rfl) ⟨rfl, by decide, by decide⟩ hφ ?_)
  intro w mg fa h Y G hm
  obtain ⟨K, KX, c⟩ := Y
  obtain ⟨fd, F⟩ := c.def_ 29 (d := Hd.d_law) rfl
  have e1 : mg "law" = some (.ref fa) := by
    have e : (HandSHeadRun.topDef (OpenLaw.row PySem.Challenge.rw_commonform_k37_papers_walked).prog 37).name = ("law" : PySem.Str) := by kernel_rfl
    rw [← e]; exact hm
  have e2 := e1.symm.trans (He.glo_ok KX G (c.fact 29 (f := .glo "law") rfl))
  cases e2
  have b := L2.FunD.bindsA (ps := ["script"]) F fun _ _ _ _ _ _ us hl => match us, hl with | [_], _ => rfl
  refine ⟨K, fd, KX, fun s u => b s [u] rfl, fun base _ _ => ?_⟩
  exact Wk.ok_law_k37 (n := 229) F (Wk.blt KX G c) (Wk.at__law_refused_by_base KX G c base 229) (Wk.at__law_refused KX G c base 229) (Wk.at__law_bad KX G c base 229) (Wk.at_walked KX G c base 229) (Wk.at__law_end KX G c base 229) (Wk.at__law_cell_at KX G c base 229) (Wk.at__law_stream KX G c base 229) (Wk.at__law_step KX G c base 229) (Wk.at__law_pair_v2 KX G c base 229)
theorem PySem.Challenge.cw_commonform_k37_papers_walked_holds : PySem.Challenge.rw_commonform_k37_papers_walked.Holds := by
  exact law_done DV.law_k37_ok
