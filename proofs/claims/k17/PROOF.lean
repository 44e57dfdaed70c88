import PyProof.Rows.All
import Wide.All
import OpenK.AllK
import Wide.FinOn
import KE.KStateDown
import HandS.ForMost
import HandS.Exc
import HandS.TryOnly
import HandS.TryMany
import HandS.ExcOwn
import HandS.WordsExc
import HandS.Defaults
import HandS.Head0
import HandS.Head1
import HandS.Head2
import HandS.HeadEnd
import HandS.HeadHook1
import HandS.HeadHook2
import HandS.CallSlots
import HandS.TupAny
import HandS.IsInst
import KE.DataMinMax
import KE.GoesEnum
import KE.KDictLaws
import HandS.Finally
import HandS.More
import HandS.Iter
import HandS.WordsDict
import HandS.DictComp
import HandS.TupMul
import HandS.Text
import HandS.StrMore
import HandS.SortInts
import HandS.Style
import KE.KExcIs
import HandS.Flt
import KE.KEqDict
import PyProof.Rows.SetFrom
import HandS.Strs
import HandS.SetFor
import HandS.DeepEq
import HandS.ListEq
import PyProof.NeKinds
import PySem.Challenge.RW_commonform_k17_one_filling_behind_anothe
set_option Elab.async false
set_option linter.all false
set_option maxRecDepth 100000
set_option maxHeartbeats 0
namespace DV
open PySem PySem.Spec PyProof.Rows L2
abbrev St := L2.St
inductive D where
  | non | bl (b : Bool) | int (i : Int) | str (s : Str) | tup (ds : List D) | loc (l : Nat) | ro (ns : List Int) | exn (c : Str)
inductive AO where
  | lst (ds : List D) | dct (kvs : List (Key × D)) | fdc (kvs : List (Key × D)) | dcT (kvs : List (List Key × D)) | ins (C : Str) (fs : List (Str × D))
abbrev Hs := List AO
abbrev Sl := List (Option D)
inductive R (α : Type) where
  | ok (a : α) (h : Hs) | exc (c : Str) (h : Hs) | bad
def R.bind {α β : Type} (r : R α) (k : α → Hs → R β) : R β := match r with
  | .ok a h => k a h
  | .exc c h => .exc c h
  | .bad => .bad
inductive RS where
  | nx (ds : Sl) (h : Hs) | rt (d : D) (h : Hs) | bk (ds : Sl) (h : Hs) | ct (ds : Sl) (h : Hs) | exc (c : Str) (ds : Sl) (h : Hs) | bad
def lift {α : Type} (r : R α) (ds : Sl) (k : α → Hs → RS) : RS := match r with
  | .ok a h => k a h
  | .exc c h => .exc c ds h
  | .bad => .bad
abbrev EM := Sl → Hs → R D
abbrev AM := Sl → Hs → R (List D)
abbrev TM := Sl → Hs → R Bool
abbrev SM := Sl → Hs → RS
@[simp] theorem R.bind_ok {α β : Type} (a : α) (h : Hs) (k : α → Hs → R β) : (R.ok a h).bind k = k a h := rfl
@[simp] theorem R.bind_exc {α β : Type} (c : Str) (h : Hs) (k : α → Hs → R β) : (R.exc c h).bind k = .exc c h := rfl
@[simp] theorem R.bind_bad {α β : Type} (k : α → Hs → R β) : (R.bad).bind k = .bad := rfl
@[simp] theorem lift_ok {α : Type} (a : α) (h : Hs) (ds : Sl) (k : α → Hs → RS) : lift (R.ok a h) ds k = k a h := rfl
@[simp] theorem lift_exc {α : Type} (c : Str) (h : Hs) (ds : Sl) (k : α → Hs → RS) : lift (R.exc c h) ds k = .exc c ds h := rfl
@[simp] theorem lift_bad {α : Type} (ds : Sl) (k : α → Hs → RS) : lift (R.bad) ds k = .bad := rfl
/-- the script: known, or written -/
def SqR (K : PySem.W.Frag) (H : Hp) (a : Addr) (xs : List V) : Prop :=
  (∃ o, H a = some (.frz o (.lst xs))) ∨ ∃ (o : Obj) (its : Array Value) (n : Nat), K.lookup a = some o ∧ o.cls = .type "list" ∧ o.dict = none ∧ o.data = .seq its n ∧ its.size ≤ sizeLine ∧ Vals xs its.toList
theorem SqR.sq {K : PySem.W.Frag} {H : Hp} {a : Addr} {xs : List V} (h : SqR K H a xs) : SqL K H a xs := by
  rcases h with h | h
  · exact .inl (.inr h)
  · exact .inr h
/-- a caught exception's object -/
def exO (K : PySem.W.Frag) (c : Str) (a : Addr) : HO := .ext fun h => ∃ (oe : Obj) (vs : Array Value), h.get? a = some oe ∧ oe.cls = .ref (He.ga K c) ∧ oe.dict = none ∧ oe.data = .fields vs
variable (K : PySem.W.Frag)
mutual
def RepV (m : List Addr) (H : Hp) : D → V → Prop
  | .non, v => v = .non
  | .bl b, v => v = .bl b
  | .int i, v => v = .int i
  | .str s, v => v = .str s
  | .tup ds, v => ∃ a xs, v = .ref a ∧ H a = some (.tup xs) ∧ RepL m H ds xs
  | .loc l, v => ∃ a, m[l]? = some a ∧ v = .ref a
  | .ro ns, v => ∃ a, v = .ref a ∧ SqR K H a (ns.map V.int)
  | .exn c, v => ∃ a, v = .ref a ∧ H a = some (exO K c a)
def RepL (m : List Addr) (H : Hp) : List D → List V → Prop
  | [], xs => xs = []
  | d :: ds, xs => ∃ x r, xs = x :: r ∧ RepV m H d x ∧ RepL m H ds r
end
variable {K}
/-- what a value leans on goes on -/
structure Grw (m : List Addr) (H : Hp) (m' : List Addr) (H' : Hp) : Prop where
  pre : ∃ r, m' = m ++ r
  tup : ∀ a xs, H a = some (.tup xs) → H' a = some (.tup xs)
  frz : ∀ a o xs, H a = some (.frz o (.lst xs)) → H' a = some (.frz o (.lst xs))
  ext : ∀ a φ, H a = some (.ext φ) → H' a = some (.ext φ)
/-- what goes on: the numbers keep their addresses, the tuples stay, what is locked stays so -/
structure Grow (m : List Addr) (H : Hp) (m' : List Addr) (H' : Hp) : Prop where
  pre : ∃ r, m' = m ++ r
  tup : ∀ a xs, H a = some (.tup xs) → H' a = some (.tup xs)
  frz : ∀ a o u, H a = some (.frz o u) → H' a = some (.frz o u)
  ext : ∀ a φ, H a = some (.ext φ) → H' a = some (.ext φ)
theorem Grow.w {m m' : List Addr} {H H' : Hp} (g : Grow m H m' H') : Grw m H m' H' := ⟨g.pre, g.tup, fun a o _ h => g.frz a o _ h, g.ext⟩
theorem Grow.refl (m : List Addr) (H : Hp) : Grow m H m H := ⟨⟨[], by simp⟩, fun _ _ h => h, fun _ _ _ h => h, fun _ _ h => h⟩
theorem Grow.trans {m m1 m2 : List Addr} {H H1 H2 : Hp} (a : Grow m H m1 H1) (b : Grow m1 H1 m2 H2) : Grow m H m2 H2 := by
  obtain ⟨⟨r, rfl⟩, t, f, x⟩ := a
  obtain ⟨⟨r', rfl⟩, t', f', x'⟩ := b
  exact ⟨⟨r ++ r', by simp⟩, fun x xs h => t' x xs (t x xs h), fun x o xs h => f' x o xs (f x o xs h), fun y φ h => x' y φ (x y φ h)⟩
mutual
theorem RepV.mono0 {m m' : List Addr} {H H' : Hp} (g : Grw m H m' H') : ∀ {d : D} {v : V}, RepV K m H d v → RepV K m' H' d v
  | .non, _, h => h
  | .bl _, _, h => h
  | .int _, _, h => h
  | .str _, _, h => h
  | .tup ds, v, h => by
    unfold RepV at h ⊢
    obtain ⟨a, xs, e, ha, hl⟩ := h
    exact ⟨a, xs, e, g.tup _ _ ha, RepL.mono0 g hl⟩
  | .loc l, v, h => by
    unfold RepV at h ⊢
    obtain ⟨a, ha, e⟩ := h
    obtain ⟨⟨r, rfl⟩, _, _, _⟩ := g
    obtain ⟨hl, _⟩ := List.getElem?_eq_some_iff.mp ha
    exact ⟨a, by rw [List.getElem?_append_left hl]; exact ha, e⟩
  | .exn c, v, h => by
    unfold RepV at h ⊢
    obtain ⟨a, e, q⟩ := h
    exact ⟨a, e, g.ext _ _ q⟩
  | .ro ns, v, h => by
    unfold RepV at h ⊢
    obtain ⟨a, e, q⟩ := h
    refine ⟨a, e, ?_⟩
    rcases q with ⟨o, q⟩ | q
    · exact .inl ⟨o, g.frz _ _ _ q⟩
    · exact .inr q
theorem RepL.mono0 {m m' : List Addr} {H H' : Hp} (g : Grw m H m' H') : ∀ {ds : List D} {xs : List V}, RepL K m H ds xs → RepL K m' H' ds xs
  | [], _, h => h
  | d :: ds, xs, h => by
    unfold RepL at h ⊢
    obtain ⟨x, r, e, h1, h2⟩ := h
    exact ⟨x, r, e, RepV.mono0 g h1, RepL.mono0 g h2⟩
end
theorem RepV.mono {m m' : List Addr} {H H' : Hp} (g : Grow m H m' H') {d : D} {v : V} (h : RepV K m H d v) : RepV K m' H' d v := h.mono0 g.w
theorem RepL.mono {m m' : List Addr} {H H' : Hp} (g : Grow m H m' H') {ds : List D} {xs : List V} (h : RepL K m H ds xs) : RepL K m' H' ds xs := h.mono0 g.w
section
variable {m : List Addr} {H : Hp}
theorem RepL.nil : RepL K m H [] [] := by unfold RepL; rfl
theorem RepL.cons {d : D} {x : V} {ds : List D} {xs : List V} (h : RepV K m H d x) (t : RepL K m H ds xs) : RepL K m H (d :: ds) (x :: xs) := by unfold RepL; exact ⟨x, xs, rfl, h, t⟩
theorem RepL.length : ∀ {ds : List D} {xs : List V}, RepL K m H ds xs → xs.length = ds.length
  | [], xs, h => by unfold RepL at h; subst h; rfl
  | d :: ds, xs, h => by
    unfold RepL at h
    obtain ⟨x, r, rfl, _, h2⟩ := h
    simp [RepL.length h2]
theorem RepL.get : ∀ {ds : List D} {xs : List V} {i : Nat} {d : D}, RepL K m H ds xs → ds[i]? = some d → ∃ x, xs[i]? = some x ∧ RepV K m H d x
  | [], _, _, _, _, e => by simp at e
  | d :: ds, xs, i, d', h, e => by
    unfold RepL at h
    obtain ⟨x, r, rfl, h1, h2⟩ := h
    cases i with
    | zero => simp at e; subst e; exact ⟨x, rfl, h1⟩
    | succ i =>
      obtain ⟨y, hy, hr⟩ := RepL.get (i := i) h2 (by simpa using e)
      exact ⟨y, by simpa using hy, hr⟩
theorem RepL.append : ∀ {ds es : List D} {xs ys : List V}, RepL K m H ds xs → RepL K m H es ys → RepL K m H (ds ++ es) (xs ++ ys)
  | [], _, xs, _, h, t => by unfold RepL at h; subst h; exact t
  | d :: ds, es, xs, ys, h, t => by
    unfold RepL at h
    obtain ⟨x, r, rfl, h1, h2⟩ := h
    exact .cons h1 (RepL.append h2 t)
theorem RepL.set : ∀ {ds : List D} {xs : List V} (i : Nat) {d : D} {x : V}, RepL K m H ds xs → RepV K m H d x → RepL K m H (ds.set i d) (xs.set i x)
  | [], xs, i, _, _, h, _ => by unfold RepL at h; subst h; exact RepL.nil
  | d :: ds, xs, i, e, y, h, t => by
    unfold RepL at h
    obtain ⟨x, r, rfl, h1, h2⟩ := h
    cases i with
    | zero => exact .cons t h2
    | succ i => exact .cons h1 (RepL.set i h2 t)
theorem RepL.take : ∀ {ds : List D} {xs : List V} (n : Nat), RepL K m H ds xs → RepL K m H (ds.take n) (xs.take n)
  | [], xs, n, h => by unfold RepL at h; subst h; cases n <;> exact RepL.nil
  | d :: ds, xs, n, h => by
    unfold RepL at h
    obtain ⟨x, r, rfl, h1, h2⟩ := h
    cases n with
    | zero => exact RepL.nil
    | succ n => exact .cons h1 (RepL.take n h2)
theorem RepL.drop : ∀ {ds : List D} {xs : List V} (n : Nat), RepL K m H ds xs → RepL K m H (ds.drop n) (xs.drop n)
  | [], xs, n, h => by unfold RepL at h; subst h; cases n <;> exact RepL.nil
  | d :: ds, xs, n, h => by
    have h' := h
    unfold RepL at h
    obtain ⟨x, r, rfl, h1, h2⟩ := h
    cases n with
    | zero => exact h'
    | succ n => exact RepL.drop n h2
theorem RepL.nil_iff {ds : List D} {xs : List V} (h : RepL K m H ds xs) : xs = [] ↔ ds = [] := by
  rw [← List.length_eq_zero_iff, ← List.length_eq_zero_iff, h.length]
end
variable (K)
/-- the slots -/
def RepS (m : List Addr) (H : Hp) : Sl → St → Prop
  | [], [] => True
  | od :: ds, ov :: vs => (∀ d, od = some d → ∃ v, ov = some v ∧ RepV K m H d v) ∧ RepS m H ds vs
  | _, _ => False
variable {K}
theorem RepS.mono0 {m m' : List Addr} {H H' : Hp} (g : Grw m H m' H') : ∀ {ds : Sl} {σ : St}, RepS K m H ds σ → RepS K m' H' ds σ
  | [], [], _ => trivial
  | _ :: _, _ :: _, ⟨a, b⟩ => ⟨fun d e => let ⟨v, e1, r⟩ := a d e; ⟨v, e1, r.mono0 g⟩, RepS.mono0 g b⟩
  | [], _ :: _, h => h.elim
  | _ :: _, [], h => h.elim
theorem RepS.mono {m m' : List Addr} {H H' : Hp} (g : Grow m H m' H') {ds : Sl} {σ : St} (h : RepS K m H ds σ) : RepS K m' H' ds σ := h.mono0 g.w
theorem RepS.get {m : List Addr} {H : Hp} : ∀ {ds : Sl} {σ : St} {i : Nat} {d : D}, RepS K m H ds σ → ds[i]? = some (some d) → ∃ v, σ[i]? = some (some v) ∧ RepV K m H d v
  | [], _, _, _, _, e => by simp at e
  | _ :: _, [], _, _, h, _ => h.elim
  | od :: ds, ov :: vs, 0, d, ⟨a, _⟩, e => by
    simp at e
    obtain ⟨v, e1, r⟩ := a d e
    exact ⟨v, by simp [e1], r⟩
  | od :: ds, ov :: vs, i + 1, d, ⟨_, b⟩, e => by
    obtain ⟨v, e1, r⟩ := RepS.get (i := i) b (by simpa using e)
    exact ⟨v, by simpa using e1, r⟩
theorem RepS.set {m : List Addr} {H : Hp} {od : Option D} {ov : Option V} (h : ∀ d, od = some d → ∃ v, ov = some v ∧ RepV K m H d v) : ∀ {ds : Sl} {σ : St} (i : Nat), RepS K m H ds σ → RepS K m H (ds.set i od) (σ.set i ov)
  | [], [], _, _ => trivial
  | [], _ :: _, _, h => h.elim
  | _ :: _, [], _, h => h.elim
  | _ :: _, _ :: _, 0, ⟨_, b⟩ => ⟨h, b⟩
  | _ :: _, _ :: _, i + 1, ⟨a, b⟩ => ⟨a, RepS.set h i b⟩
theorem RepS.put {m : List Addr} {H : Hp} {d : D} {v : V} {ds : Sl} {σ : St} (i : Nat) (r : RepS K m H ds σ) (h : RepV K m H d v) : RepS K m H (ds.set i (some d)) (σ.set i (some v)) :=
  r.set (fun _ e => by cases e; exact ⟨v, rfl, h⟩) i
theorem RepS.forget {m : List Addr} {H : Hp} {ds : Sl} {σ : St} (i : Nat) (r : RepS K m H ds σ) (ov : Option V) : RepS K m H (ds.set i none) (σ.set i ov) :=
  r.set (fun _ e => by cases e) i
theorem RepS.length {m : List Addr} {H : Hp} : ∀ {ds : Sl} {σ : St}, RepS K m H ds σ → ds.length = σ.length
  | [], [], _ => rfl
  | [], _ :: _, h => h.elim
  | _ :: _, [], h => h.elim
  | _ :: _, _ :: _, ⟨_, b⟩ => by simp [RepS.length b]
variable (K) in
/-- the attributes of an instance -/
def RepF (m : List Addr) (H : Hp) (fs : List (Str × D)) (xs : List (Str × V)) : Prop := fs.map (·.1) = xs.map (·.1) ∧ RepL K m H (fs.map (·.2)) (xs.map (·.2))
/-- keys by value -/
def keyD : D → Option Key
  | .int i => some (.inl i)
  | .str s => some (.inr s)
  | _ => none
variable (K) in
def RepO (m : List Addr) (H : Hp) (a : Addr) : AO → Prop
  | .lst ds => ∃ xs, H a = some (.lst xs) ∧ RepL K m H ds xs
  | .dct kvs => ∃ ks : List (Key × V), H a = some (.dK ks) ∧ kvs.map (·.1) = ks.map (·.1) ∧ RepL K m H (kvs.map (·.2)) (ks.map (·.2))
  | .fdc kvs => ∃ (o : Obj) (ks : List (Key × V)), H a = some (.frz o (.dK ks)) ∧ kvs.map (·.1) = ks.map (·.1) ∧ RepL K m H (kvs.map (·.2)) (ks.map (·.2))
  | .dcT kvs => ∃ ks : List (List Key × V), H a = some (.dT ks) ∧ kvs.map (·.1) = ks.map (·.1) ∧ RepL K m H (kvs.map (·.2)) (ks.map (·.2))
  | .ins C fs => ∃ dx xs, H a = some (.ins (He.ga K C) dx xs) ∧ RepF K m H fs xs
variable (K) in
structure RepH (m : List Addr) (H : Hp) (h : Hs) : Prop where
  len : m.length = h.length
  nd : m.Nodup
  at_ : ∀ (i : Nat) (a : Addr) (o : AO), m[i]? = some a → h[i]? = some o → RepO K m H a o
theorem RepO.some {m : List Addr} {H : Hp} {a : Addr} {o : AO} (r : RepO K m H a o) : H a ≠ none := by
  cases o with
  | lst ds => obtain ⟨xs, e, _⟩ := r; rw [e]; exact fun z => nomatch z
  | dct kvs => obtain ⟨xs, e, _⟩ := r; rw [e]; exact fun z => nomatch z
  | fdc kvs => obtain ⟨o, xs, e, _⟩ := r; rw [e]; exact fun z => nomatch z
  | dcT kvs => obtain ⟨xs, e, _⟩ := r; rw [e]; exact fun z => nomatch z
  | ins C fs => obtain ⟨dx, xs, e, _⟩ := r; rw [e]; exact fun z => nomatch z
structure Cfg where
  K : PySem.W.Frag
  W : WX
def OutE (g : Cfg) (m : List Addr) (H : Hp) (σ : St) (Q : VK) : R D → Prop
  | .ok d h' => ∀ v m' H', Grow m H m' H' → RepV g.K m' H' d v → RepH g.K m' H' h' → Q v H'
  | .exc c h' => ∀ m' H', Grow m H m' H' → RepH g.K m' H' h' → g.W (.ref (He.ga g.K c)) none σ H'
  | .bad => False
def OutA (g : Cfg) (m : List Addr) (H : Hp) (σ : St) (Q : List V → Hp → Prop) : R (List D) → Prop
  | .ok ds h' => ∀ vs m' H', Grow m H m' H' → RepL g.K m' H' ds vs → RepH g.K m' H' h' → Q vs H'
  | .exc c h' => ∀ m' H', Grow m H m' H' → RepH g.K m' H' h' → g.W (.ref (He.ga g.K c)) none σ H'
  | .bad => False
def OutT (g : Cfg) (m : List Addr) (H : Hp) (σ : St) (Q : Bool → Hp → Prop) : R Bool → Prop
  | .ok b h' => ∀ m' H', Grow m H m' H' → RepH g.K m' H' h' → Q b H'
  | .exc c h' => ∀ m' H', Grow m H m' H' → RepH g.K m' H' h' → g.W (.ref (He.ga g.K c)) none σ H'
  | .bad => False
def OutS (g : Cfg) (m : List Addr) (H : Hp) (N : Ends) : RS → Prop
  | .nx ds h' => ∀ σ' m' H', Grow m H m' H' → RepS g.K m' H' ds σ' → RepH g.K m' H' h' → N.nx σ' H'
  | .rt d h' => ∀ v m' H', Grow m H m' H' → RepV g.K m' H' d v → RepH g.K m' H' h' → N.rt v H'
  | .bk ds h' => ∀ σ' m' H', Grow m H m' H' → RepS g.K m' H' ds σ' → RepH g.K m' H' h' → N.bk σ' H'
  | .ct ds h' => ∀ σ' m' H', Grow m H m' H' → RepS g.K m' H' ds σ' → RepH g.K m' H' h' → N.ct σ' H'
  | .exc c ds h' => ∀ σ' m' H', Grow m H m' H' → RepS g.K m' H' ds σ' → RepH g.K m' H' h' → g.W (.ref (He.ga g.K c)) none σ' H'
  | .bad => False
def tM (g : Cfg) (M : EM) : TE := fun σ H Q => ∃ m ds h, RepS g.K m H ds σ ∧ RepH g.K m H h ∧ OutE g m H σ Q (M ds h)
def tA (g : Cfg) (M : AM) : TA := fun σ H Q => ∃ m ds h, RepS g.K m H ds σ ∧ RepH g.K m H h ∧ OutA g m H σ Q (M ds h)
def tT (g : Cfg) (M : TM) : TT := fun σ H Q => ∃ m ds h, RepS g.K m H ds σ ∧ RepH g.K m H h ∧ OutT g m H σ Q (M ds h)
def tS (g : Cfg) (M : SM) : TS := fun N σ H => ∃ m ds h, RepS g.K m H ds σ ∧ RepH g.K m H h ∧ OutS g m H N (M ds h)
section
variable {g : Cfg} {m m' : List Addr} {H H' : Hp} {σ : St}
theorem OutE.mono {Q : VK} {r : R D} (o : OutE g m H σ Q r) (w : Grow m H m' H') : OutE g m' H' σ Q r := by
  cases r with
  | ok d h => exact fun v m2 H2 w2 => o v m2 H2 (w.trans w2)
  | exc c h => exact fun m2 H2 w2 => o m2 H2 (w.trans w2)
  | bad => exact o
theorem OutA.mono {Q : List V → Hp → Prop} {r : R (List D)} (o : OutA g m H σ Q r) (w : Grow m H m' H') : OutA g m' H' σ Q r := by
  cases r with
  | ok d h => exact fun v m2 H2 w2 => o v m2 H2 (w.trans w2)
  | exc c h => exact fun m2 H2 w2 => o m2 H2 (w.trans w2)
  | bad => exact o
theorem OutT.mono {Q : Bool → Hp → Prop} {r : R Bool} (o : OutT g m H σ Q r) (w : Grow m H m' H') : OutT g m' H' σ Q r := by
  cases r with
  | ok d h => exact fun m2 H2 w2 => o m2 H2 (w.trans w2)
  | exc c h => exact fun m2 H2 w2 => o m2 H2 (w.trans w2)
  | bad => exact o
theorem OutS.mono {N : Ends} {r : RS} (o : OutS g m H N r) (w : Grow m H m' H') : OutS g m' H' N r := by
  cases r with
  | nx ds h => exact fun σ2 m2 H2 w2 => o σ2 m2 H2 (w.trans w2)
  | rt d h => exact fun v m2 H2 w2 => o v m2 H2 (w.trans w2)
  | bk ds h => exact fun σ2 m2 H2 w2 => o σ2 m2 H2 (w.trans w2)
  | ct ds h => exact fun σ2 m2 H2 w2 => o σ2 m2 H2 (w.trans w2)
  | exc c ds h => exact fun σ2 m2 H2 w2 => o σ2 m2 H2 (w.trans w2)
  | bad => exact o
/-- an expression's value taken on -/
theorem OutE.toE {Q Q' : VK} {r : R D} {k : D → Hs → R D} (o : OutE g m H σ Q (r.bind k)) (f : ∀ d h' v m' H', Grow m H m' H' → RepV g.K m' H' d v → RepH g.K m' H' h' → OutE g m' H' σ Q (k d h') → Q' v H') : OutE g m H σ Q' r := by
  cases r with
  | ok d h => exact fun v m' H' w rv rh => f d h v m' H' w rv rh (OutE.mono o w)
  | exc c h => exact o
  | bad => exact o
theorem OutE.toA {Q : List V → Hp → Prop} {Q' : VK} {r : R D} {k : D → Hs → R (List D)} (o : OutA g m H σ Q (r.bind k)) (f : ∀ d h' v m' H', Grow m H m' H' → RepV g.K m' H' d v → RepH g.K m' H' h' → OutA g m' H' σ Q (k d h') → Q' v H') : OutE g m H σ Q' r := by
  cases r with
  | ok d h => exact fun v m' H' w rv rh => f d h v m' H' w rv rh (OutA.mono o w)
  | exc c h => exact o
  | bad => exact o
theorem OutE.toT {Q : Bool → Hp → Prop} {Q' : VK} {r : R D} {k : D → Hs → R Bool} (o : OutT g m H σ Q (r.bind k)) (f : ∀ d h' v m' H', Grow m H m' H' → RepV g.K m' H' d v → RepH g.K m' H' h' → OutT g m' H' σ Q (k d h') → Q' v H') : OutE g m H σ Q' r := by
  cases r with
  | ok d h => exact fun v m' H' w rv rh => f d h v m' H' w rv rh (OutT.mono o w)
  | exc c h => exact o
  | bad => exact o
theorem OutE.toS {N : Ends} {Q' : VK} {r : R D} {ds : Sl} {k : D → Hs → RS} (hs : RepS g.K m H ds σ) (o : OutS g m H N (lift r ds k)) (f : ∀ d h' v m' H', Grow m H m' H' → RepV g.K m' H' d v → RepH g.K m' H' h' → OutS g m' H' N (k d h') → Q' v H') : OutE g m H σ Q' r := by
  cases r with
  | ok d h => exact fun v m' H' w rv rh => f d h v m' H' w rv rh (OutS.mono o w)
  | exc c h => exact fun m' H' w rh => o σ m' H' w (hs.mono w) rh
  | bad => exact o
theorem OutA.toE {Q : VK} {Q' : List V → Hp → Prop} {r : R (List D)} {k : List D → Hs → R D} (o : OutE g m H σ Q (r.bind k)) (f : ∀ d h' v m' H', Grow m H m' H' → RepL g.K m' H' d v → RepH g.K m' H' h' → OutE g m' H' σ Q (k d h') → Q' v H') : OutA g m H σ Q' r := by
  cases r with
  | ok d h => exact fun v m' H' w rv rh => f d h v m' H' w rv rh (OutE.mono o w)
  | exc c h => exact o
  | bad => exact o
theorem OutA.toA {Q : List V → Hp → Prop} {Q' : List V → Hp → Prop} {r : R (List D)} {k : List D → Hs → R (List D)} (o : OutA g m H σ Q (r.bind k)) (f : ∀ d h' v m' H', Grow m H m' H' → RepL g.K m' H' d v → RepH g.K m' H' h' → OutA g m' H' σ Q (k d h') → Q' v H') : OutA g m H σ Q' r := by
  cases r with
  | ok d h => exact fun v m' H' w rv rh => f d h v m' H' w rv rh (OutA.mono o w)
  | exc c h => exact o
  | bad => exact o
theorem OutT.toT {Q : Bool → Hp → Prop} {Q' : Bool → Hp → Prop} {r : R Bool} {k : Bool → Hs → R Bool} (o : OutT g m H σ Q (r.bind k)) (f : ∀ b h' m' H', Grow m H m' H' → RepH g.K m' H' h' → OutT g m' H' σ Q (k b h') → Q' b H') : OutT g m H σ Q' r := by
  cases r with
  | ok d h => exact fun m' H' w rh => f d h m' H' w rh (OutT.mono o w)
  | exc c h => exact o
  | bad => exact o
theorem OutT.toS {N : Ends} {Q' : Bool → Hp → Prop} {r : R Bool} {ds : Sl} {k : Bool → Hs → RS} (hs : RepS g.K m H ds σ) (o : OutS g m H N (lift r ds k)) (f : ∀ b h' m' H', Grow m H m' H' → RepH g.K m' H' h' → OutS g m' H' N (k b h') → Q' b H') : OutT g m H σ Q' r := by
  cases r with
  | ok d h => exact fun m' H' w rh => f d h m' H' w rh (OutS.mono o w)
  | exc c h => exact fun m' H' w rh => o σ m' H' w (hs.mono w) rh
  | bad => exact o
end
end DV
namespace DV
open PySem PySem.Spec PyProof.Rows L2
section
variable {K : PySem.W.Frag} {m m' : List Addr} {H H' : Hp} {h : Hs} {p a : Addr} {o u : HO} {ao : AO}
theorem RepH.fresh (r : RepH K m H h) (n : H p = none) : p ∉ m := fun hm => by
  obtain ⟨i, hi⟩ := List.mem_iff_getElem?.mp hm
  obtain ⟨hl, _⟩ := List.getElem?_eq_some_iff.mp hi
  have hl' : i < h.length := by rw [← r.len]; exact hl
  exact (r.at_ i p _ hi (List.getElem?_eq_getElem hl')).some n
theorem RepO.keep0 (r : RepO K m H a ao) (g : Grw m H m' H') (e : H' a = H a) : RepO K m' H' a ao := by
  cases ao with
  | lst ds => obtain ⟨xs, q, l⟩ := r; exact ⟨xs, e.trans q, l.mono0 g⟩
  | dct kvs => obtain ⟨xs, q, k, l⟩ := r; exact ⟨xs, e.trans q, k, l.mono0 g⟩
  | fdc kvs => obtain ⟨o, xs, q, k, l⟩ := r; exact ⟨o, xs, e.trans q, k, l.mono0 g⟩
  | dcT kvs => obtain ⟨xs, q, k, l⟩ := r; exact ⟨xs, e.trans q, k, l.mono0 g⟩
  | ins C fs => obtain ⟨dx, xs, q, k, l⟩ := r; exact ⟨dx, xs, e.trans q, k, l.mono0 g⟩
theorem RepO.keep (r : RepO K m H a ao) (g : Grow m H m' H') (e : H' a = H a) : RepO K m' H' a ao := r.keep0 g.w e
theorem Grow.put (n : H p = none) : Grow m H m (upd H p o) :=
  ⟨⟨[], by simp⟩, fun b xs e => by rw [upd_ne (ne_of_none e n)]; exact e, fun b o xs e => by rw [upd_ne (ne_of_none e n)]; exact e, fun b o e => by rw [upd_ne (ne_of_none e n)]; exact e⟩
theorem Grow.app (n : H p = none) : Grow m H (m ++ [p]) (upd H p o) := ⟨⟨[p], rfl⟩, (Grow.put (m := m) n).tup, (Grow.put (m := m) n).frz, (Grow.put (m := m) n).ext⟩
theorem RepH.put (r : RepH K m H h) (n : H p = none) : RepH K m (upd H p o) h :=
  ⟨r.len, r.nd, fun i b ob hi hb => (r.at_ i b ob hi hb).keep (.put n) (upd_ne fun z => r.fresh n (by rw [← z]; exact List.mem_of_getElem? hi))⟩
theorem RepH.new (r : RepH K m H h) (n : H p = none) (new : RepO K (m ++ [p]) (L2.upd H p o) p ao) : RepH K (m ++ [p]) (L2.upd H p o) (h ++ [ao]) := by
  have fr := r.fresh n
  refine ⟨by simp [r.len], ?_, fun i b ob hi hb => ?_⟩
  · exact List.nodup_append.mpr ⟨r.nd, by simp, fun x hx y hy z => fr (by simp at hy; rw [← hy, ← z]; exact hx)⟩
  · by_cases hl : i < m.length
    · rw [List.getElem?_append_left hl] at hi
      rw [List.getElem?_append_left (by rw [← r.len]; exact hl)] at hb
      exact (r.at_ i b ob hi hb).keep (.app n) (upd_ne fun z => fr (by rw [← z]; exact List.mem_of_getElem? hi))
    · have hz : i = m.length := by
        obtain ⟨q, _⟩ := List.getElem?_eq_some_iff.mp hi
        simp at q; omega
      subst hz
      simp at hi
      rw [r.len] at hb
      simp at hb
      subst hi hb
      exact new
/-- an object written -/
theorem Grow.write (e : H a = some u) (n1 : ∀ xs, u ≠ .tup xs) (n2 : ∀ o v, u ≠ .frz o v) (n3 : ∀ φ, u ≠ .ext φ) : Grow m H m (L2.upd H a o) :=
  ⟨⟨[], by simp⟩, fun b xs q => by rw [upd_ne (fun z => n1 xs (by rw [z, e] at q; exact Option.some.inj q))]; exact q,
    fun b o xs q => by rw [upd_ne (fun z => n2 o xs (by rw [z, e] at q; exact Option.some.inj q))]; exact q,
    fun b φ q => by rw [upd_ne (fun z => n3 φ (by rw [z, e] at q; exact Option.some.inj q))]; exact q⟩
theorem RepH.write {l : Nat} (r : RepH K m H h) (hl : m[l]? = some a) (e : H a = some u) (n1 : ∀ xs, u ≠ .tup xs) (n2 : ∀ o v, u ≠ .frz o v) (n3 : ∀ φ, u ≠ .ext φ) (new : RepO K m (L2.upd H a o) a ao) : RepH K m (L2.upd H a o) (h.set l ao) := by
  refine ⟨by simp [r.len], r.nd, fun i b ob hi hb => ?_⟩
  by_cases z : i = l
  · subst z
    rw [hl] at hi; cases hi
    obtain ⟨q, hq⟩ := List.getElem?_eq_some_iff.mp hb
    simp at q hq
    subst hq
    exact new
  · rw [List.getElem?_set_ne (Ne.symm z)] at hb
    refine (r.at_ i b ob hi hb).keep (.write e n1 n2 n3) (upd_ne fun w => z ?_)
    subst w
    obtain ⟨q1, e1⟩ := List.getElem?_eq_some_iff.mp hi
    obtain ⟨q2, e2⟩ := List.getElem?_eq_some_iff.mp hl
    exact (List.getElem_inj r.nd).mp (e1.trans e2.symm)
theorem RepH.lst {l : Nat} {ds : List D} (r : RepH K m H h) (hl : m[l]? = some a) (e : h[l]? = some (.lst ds)) : ∃ xs, H a = some (.lst xs) ∧ RepL K m H ds xs := r.at_ l a _ hl e
end
abbrev Res := Option (D × Hs)
abbrev VF2 := D → D → Hs → Res
def R.ofO : Res → R D
  | some p => .ok p.1 p.2
  | none => .bad
@[simp] theorem R.ofO_some (d : D) (h : Hs) : R.ofO (some (d, h)) = .ok d h := rfl
@[simp] theorem R.ofO_none : R.ofO none = .bad := rfl
def OutV (K : PySem.W.Frag) (m : List Addr) (H : Hp) (Q : VK) : Res → Prop
  | some p => ∀ v m' H', Grow m H m' H' → RepV K m' H' p.1 v → RepH K m' H' p.2 → Q v H'
  | none => False
def rV (K : PySem.W.Frag) (F : VF2) : R2 := fun x y H Q => ∃ m h dx dy, RepV K m H dx x ∧ RepV K m H dy y ∧ RepH K m H h ∧ OutV K m H Q (F dx dy h)
theorem OutV.of {g : Cfg} {m : List Addr} {H : Hp} {σ : St} {Q : VK} {r : Res} (o : OutE g m H σ Q (.ofO r)) : OutV g.K m H Q r := by
  cases r with
  | some p => exact o
  | none => exact o
/-- a value told, the heap as it is -/
theorem OutV.keep {K : PySem.W.Frag} {m : List Addr} {H : Hp} {h : Hs} {Q : VK} {d : D} {v : V} (o : OutV K m H Q (some (d, h))) (r : RepV K m H d v) (rh : RepH K m H h) : Q v H := o v m H (.refl _ _) r rh
theorem PE.weak {X : Cx} {e : Expr} {t t' : TE} (p : PE X e t) (w : ∀ σ H Q, t' σ H Q → t σ H Q) : PE X e t' := ⟨fun pns s σ H Q I h => p.run pns s σ H Q I (w σ H Q h)⟩
theorem PT.weak {X : Cx} {e : Expr} {t t' : TT} (p : PT X e t) (w : ∀ σ H Q, t' σ H Q → t σ H Q) : PT X e t' := ⟨fun pns s σ H Q I h => p.run pns s σ H Q I (w σ H Q h)⟩
theorem PW.weak {X : Cx} {e : Expr} {t t' : TT} (p : PW X e t) (w : ∀ σ H Q, t' σ H Q → t σ H Q) : PW X e t' := ⟨fun wh pns s σ H Q I h => p.run wh pns s σ H Q I (w σ H Q h)⟩
theorem PA.weak {X : Cx} {e : List Expr} {t t' : TA} (p : PA X e t) (w : ∀ σ H Q, t' σ H Q → t σ H Q) : PA X e t' := ⟨fun pos pns s σ H Q I h => p.run pos pns s σ H Q I (w σ H Q h)⟩
theorem PS.weak {X : Cx} {e : Stmt} {t t' : TS} (p : PS X e t) (w : ∀ N σ H, t' N σ H → t N σ H) : PS X e t' := ⟨fun pns s σ H Q I h => p.run pns s σ H Q I (w Q σ H h)⟩
theorem PSs.weak {X : Cx} {e : List Stmt} {t t' : TS} (p : PSs X e t) (w : ∀ N σ H, t' N σ H → t N σ H) : PSs X e t' := ⟨fun pns s σ H Q I h => p.run pns s σ H Q I (w Q σ H h)⟩
def cM (d : D) : EM := fun _ h => .ok d h
def vM (i : Nat) : EM := fun ds h => match ds[i]? with
  | some (some d) => .ok d h
  | _ => .bad
def binM (F : VF2) (A B : EM) : EM := fun ds h => (A ds h).bind fun x h => (B ds h).bind fun y h => .ofO (F x y h)
def unM (F : D → Hs → Res) (A : EM) : EM := fun ds h => (A ds h).bind fun x h => .ofO (F x h)
def nilA : AM := fun _ h => .ok [] h
def consA (A : EM) (B : AM) : AM := fun ds h => (A ds h).bind fun x h => (B ds h).bind fun xs h => .ok (x :: xs) h
abbrev LIM : Nat := 16777216
def tupF (xs : List D) (h : Hs) : Res := if xs.length ≤ LIM then some (.tup xs, h) else none
def lstF (xs : List D) (h : Hs) : Res := if xs.length ≤ LIM then some (.loc h.length, h ++ [.lst xs]) else none
def argM (F : List D → Hs → Res) (A : AM) : EM := fun ds h => (A ds h).bind fun xs h => .ofO (F xs h)
/-- a value as a test: a truth -/
def tbM (A : EM) : TM := fun ds h => (A ds h).bind fun d h => match d with
  | .bl b => .ok b h
  | _ => .bad
def truD : D → Hs → Option Bool
  | .non, _ => some false
  | .bl b, _ => some b
  | .int i, _ => some (i != 0)
  | .str s, _ => if s.length ≤ LIM then some ((s.length : Int) != 0) else none
  | .tup ds, _ => some (!ds.isEmpty)
  | .loc l, h => match h[l]? with
    | some (.lst ds) => some (!ds.isEmpty)
    | _ => none
  | _, _ => none
def truM (A : EM) : TM := fun ds h => (A ds h).bind fun d h => match truD d h with
  | some b => .ok b h
  | none => .bad
def andM (A B : TM) : TM := fun ds h => (A ds h).bind fun b h => if b = true then B ds h else .ok false h
def orM (A B : TM) : TM := fun ds h => (A ds h).bind fun b h => if b = true then .ok true h else B ds h
def notM (A : TM) : TM := fun ds h => (A ds h).bind fun b h => .ok (!b) h
def andV (A B : EM) : EM := fun ds h => (A ds h).bind fun d h => match d with
  | .bl b => if b = true then B ds h else .ok (.bl false) h
  | _ => .bad
def orV (A B : EM) : EM := fun ds h => (A ds h).bind fun d h => match d with
  | .bl b => if b = true then .ok (.bl true) h else B ds h
  | _ => .bad
def notV (A : EM) : EM := fun ds h => (A ds h).bind fun d h => match d with
  | .bl b => .ok (.bl (!b)) h
  | _ => .bad
def chainM (F G : VF2) (A B C : EM) : EM := fun ds h => (A ds h).bind fun x h => (B ds h).bind fun y h => (R.ofO (F x y h)).bind fun z h => match z with
  | .bl b => if b = true then (C ds h).bind fun w h => .ofO (G y w h) else .ok (.bl false) h
  | _ => .bad
def ifE (T : TM) (A B : EM) : EM := fun ds h => (T ds h).bind fun b h => if b = true then A ds h else B ds h
section
variable {X : Cx} {g : Cfg} {e a b c : Expr} {es : List Expr} {A B C : EM} {pos : Pos} {F G : VF2}
theorem em_const {v : V} {d : D} (p : PE X e (tC v)) (r : ∀ m H, RepV g.K m H d v) : PE X e (tM g (cM d)) := PE.weak p fun σ H Q ⟨m, ds, h, hs, rh, o⟩ => o v m H (.refl _ _) (r m H) rh
theorem em_int {i : Int} {j pos} : PE X (.Constant (.int i) j pos) (tM g (cM (.int i))) := em_const pe_int fun m H => by unfold RepV; rfl
theorem em_str {i : Str} {j pos} : PE X (.Constant (.str i) j pos) (tM g (cM (.str i))) := em_const pe_str fun m H => by unfold RepV; rfl
theorem em_bl {i : Bool} {j pos} : PE X (.Constant (.bool i) j pos) (tM g (cM (.bl i))) := em_const pe_bl fun m H => by unfold RepV; rfl
theorem em_non {j pos} : PE X (.Constant .none j pos) (tM g (cM .non)) := em_const pe_non fun m H => by unfold RepV; rfl
theorem em_gint {x : Str} {i : Int} {pos : Pos} (hg : Gl X x) (hm : ∃ t, X.mg x = some (.int i t)) (hd : (x == ("__debug__" : Str)) = false := by decide) : PE X (.Name x pos) (tM g (cM (.int i))) := by
  obtain ⟨t, hm⟩ := hm
  exact em_const (pe_glob (v := .int i) hg hm ⟨t, rfl⟩ hd) fun m H => by unfold RepV; rfl
theorem em_v {i : Nat} (p : PE X e (tVar i)) : PE X e (tM g (vM i)) := PE.weak p fun σ H Q ⟨m, ds, h, hs, rh, o⟩ => by
  unfold vM at o
  split at o
  · rename_i d hd
    obtain ⟨v, e1, r⟩ := hs.get hd
    exact ⟨v, e1, o v m H (.refl _ _) r rh⟩
  · exact o.elim
theorem bin_read {σ : St} {H : Hp} {Q : VK} (q : tM g (binM F A B) σ H Q) : tOp (rV g.K F) (tM g A) (tM g B) σ H Q := by
  obtain ⟨m, ds, h, hs, rh, o⟩ := q
  refine ⟨m, ds, h, hs, rh, OutE.toE o fun d1 h1 v1 m1 H1 g1 r1 rh1 o1 => ?_⟩
  refine ⟨m1, ds, h1, hs.mono g1, rh1, OutE.toE o1 fun d2 h2 v2 m2 H2 g2 r2 rh2 o2 => ?_⟩
  exact ⟨m2, h2, d1, d2, r1.mono g2, r2, rh2, .of o2⟩
theorem em_bin {op : Operator} (ho : OpR X (binaryOp op) (rV g.K F)) (ha : PE X a (tM g A)) (hb : PE X b (tM g B)) : PE X (.BinOp a op b pos) (tM g (binM F A B)) := PE.weak (pe_op ho ha hb) fun _ _ _ => bin_read
theorem em_cmp {op : CmpOp} (ho : OpR X (compareOp op) (rV g.K F)) (ha : PE X a (tM g A)) (hb : PE X b (tM g B)) (hm : behindInMarks op b = false) : PE X (.Compare a [op] [b] pos) (tM g (binM F A B)) := PE.weak (pe_cmpR ho ha hb hm) fun _ _ _ => bin_read
theorem em_ix (ho : IxR X (rV g.K F)) (ha : PE X a (tM g A)) (hb : PE X b (tM g B)) (hs : PlainIx b) : PE X (.Subscript a b pos) (tM g (binM F A B)) := PE.weak (pe_ix ho ha hb hs) fun _ _ _ => bin_read
theorem tb_read {σ : St} {H : Hp} {Q : Bool → Hp → Prop} (q : tT g (tbM A) σ H Q) : tM g A σ H fun x H' => ∃ k, x = .bl k ∧ Q k H' := by
  obtain ⟨m, ds, h, hs, rh, o⟩ := q
  refine ⟨m, ds, h, hs, rh, OutE.toT o fun d h' v m' H' w rv rh' o' => ?_⟩
  cases d with
  | bl b => exact ⟨b, by unfold RepV at rv; exact rv, o' m' H' (.refl _ _) rh'⟩
  | _ => exact (show False from o').elim
/-- comparisons as tests -/
theorem tm_cmp {op : CmpOp} (ho : OpR X (compareOp op) (rV g.K F)) (ha : PE X a (tM g A)) (hb : PE X b (tM g B)) (hm : behindInMarks op b = false) : PT X (.Compare a [op] [b] pos) (tT g (tbM (binM F A B))) :=
  PT.weak (pt_cmpR ho ha hb hm) fun σ H Q q => bin_read (tb_read q)
/-- any value as a test -/
theorem tm_tru (ha : PE X a (tM g A)) (hK : X.K = g.K) (he : ∀ whole, isTrue a X.env whole = (do let v ← whole; standAt a.pos; holding [v] (truthy v)) := by intro _; rfl) : PT X a (tT g (truM A)) := by
  refine PT.weak (pt_truth ha he) fun σ H Q ⟨m, ds, h, hs, rh, o⟩ => ⟨m, ds, h, hs, rh, OutE.toT o fun d h' v m' H' w rv rh' o' => ?_⟩
  have fin : ∀ {b : Bool}, OutT g m' H' σ Q (.ok b h') → Q b H' := fun q => q m' H' (.refl _ _) rh'
  have ls : sizeLine = 16777216 := sizeLine_eq
  cases d with
  | non => unfold RepV at rv; subst rv; exact ⟨false, rfl, fin o'⟩
  | bl b => unfold RepV at rv; subst rv; exact ⟨b, rfl, fin o'⟩
  | int i => unfold RepV at rv; subst rv; exact ⟨_, rfl, fin o'⟩
  | str s =>
    unfold RepV at rv; subst rv
    by_cases hz : s.length ≤ LIM
    · refine ⟨_, ⟨by rw [ls]; exact hz, rfl⟩, fin ?_⟩
      have e : truD (.str s) h' = some ((s.length : Int) != 0) := if_pos hz
      simpa only [e] using o'
    · have e : truD (.str s) h' = none := if_neg hz
      simp only [e] at o'
      exact o'.elim
  | tup xs =>
    unfold RepV at rv
    obtain ⟨p, vs, rfl, hp, rl⟩ := rv
    refine ⟨!vs.isEmpty, .inr (.inl ⟨vs, SqT.of hp, rfl⟩), ?_⟩
    have e : vs.isEmpty = xs.isEmpty := by
      rw [Bool.eq_iff_iff, List.isEmpty_iff, List.isEmpty_iff]; exact rl.nil_iff
    rw [e]
    exact fin o'
  | loc l =>
    unfold RepV at rv
    obtain ⟨p, hp, rfl⟩ := rv
    cases q : h'[l]? with
    | none => simp only [truD, q] at o'; exact o'.elim
    | some ao =>
      cases ao with
      | lst xs =>
        obtain ⟨vs, hv, rl⟩ := rh'.lst hp q
        refine ⟨!vs.isEmpty, .inl ⟨vs, SqL.of hv, rfl⟩, ?_⟩
        have e : vs.isEmpty = xs.isEmpty := by
          rw [Bool.eq_iff_iff, List.isEmpty_iff, List.isEmpty_iff]; exact rl.nil_iff
        rw [e]
        simp only [truD, q] at o'
        exact fin o'
      | _ => simp only [truD, q] at o'; exact o'.elim
  | exn c => exact (show False from o').elim
  | ro ns => exact (show False from o').elim
theorem tm_and1 {T : TM} (ha : PT X a (tT g T)) : PW X (.BoolOp .And [a] pos) (tT g T) := pw_and1 ha
theorem tm_or1 {T : TM} (ha : PT X a (tT g T)) : PW X (.BoolOp .Or [a] pos) (tT g T) := pw_or1 ha
theorem tm_and {T U : TM} {rest : List Expr} (ha : PT X a (tT g T)) (hb : PW X (.BoolOp .And (b :: rest) pos) (tT g U)) : PW X (.BoolOp .And (a :: b :: rest) pos) (tT g (andM T U)) := by
  refine PW.weak (pw_and ha hb) fun σ H Q ⟨m, ds, h, hs, rh, o⟩ => ⟨m, ds, h, hs, rh, OutT.toT o fun k h' m' H' w rh' o' => ?_⟩
  cases k with
  | true => rw [if_pos rfl] at o' ⊢; exact ⟨m', ds, h', hs.mono w, rh', o'⟩
  | false => rw [if_neg Bool.false_ne_true] at o' ⊢; exact o' m' H' (.refl _ _) rh'
theorem tm_or {T U : TM} {rest : List Expr} (ha : PT X a (tT g T)) (hb : PW X (.BoolOp .Or (b :: rest) pos) (tT g U)) : PW X (.BoolOp .Or (a :: b :: rest) pos) (tT g (orM T U)) := by
  refine PW.weak (pw_or ha hb) fun σ H Q ⟨m, ds, h, hs, rh, o⟩ => ⟨m, ds, h, hs, rh, OutT.toT o fun k h' m' H' w rh' o' => ?_⟩
  cases k with
  | true => rw [if_pos rfl] at o' ⊢; exact o' m' H' (.refl _ _) rh'
  | false => rw [if_neg Bool.false_ne_true] at o' ⊢; exact ⟨m', ds, h', hs.mono w, rh', o'⟩
theorem tm_not {T : TM} (ha : PT X a (tT g T)) : PT X (.UnaryOp .Not a pos) (tT g (notM T)) := by
  refine PT.weak (pt_not ha) fun σ H Q ⟨m, ds, h, hs, rh, o⟩ => ⟨m, ds, h, hs, rh, OutT.toT o fun k h' m' H' w rh' o' => ?_⟩
  exact o' m' H' (.refl _ _) rh'
theorem em_one {op} (ha : PE X a (tM g A)) : PE X (.BoolOp op [a] pos) (tM g A) := pe_one ha
theorem em_and {rest : List Expr} (ha : PE X a (tM g A)) (hb : PE X (.BoolOp .And (b :: rest) pos) (tM g B)) : PE X (.BoolOp .And (a :: b :: rest) pos) (tM g (andV A B)) := by
  refine PE.weak (pe_and ha hb) fun σ H Q ⟨m, ds, h, hs, rh, o⟩ => ⟨m, ds, h, hs, rh, OutE.toE o fun d h' v m' H' w rv rh' o' => ?_⟩
  cases d with
  | bl k =>
    refine ⟨k, by unfold RepV at rv; exact rv, ?_⟩
    have o' : OutE g m' H' σ Q (if k = true then B ds h' else .ok (.bl false) h') := o'
    cases k with
    | true => rw [if_pos rfl] at o' ⊢; exact ⟨m', ds, h', hs.mono w, rh', o'⟩
    | false => rw [if_neg Bool.false_ne_true] at o' ⊢; exact o' _ m' H' (.refl _ _) (by unfold RepV; rfl) rh'
  | _ => exact (show False from o').elim
theorem em_or {rest : List Expr} (ha : PE X a (tM g A)) (hb : PE X (.BoolOp .Or (b :: rest) pos) (tM g B)) : PE X (.BoolOp .Or (a :: b :: rest) pos) (tM g (orV A B)) := by
  refine PE.weak (pe_or ha hb) fun σ H Q ⟨m, ds, h, hs, rh, o⟩ => ⟨m, ds, h, hs, rh, OutE.toE o fun d h' v m' H' w rv rh' o' => ?_⟩
  cases d with
  | bl k =>
    refine ⟨k, by unfold RepV at rv; exact rv, ?_⟩
    have o' : OutE g m' H' σ Q (if k = true then .ok (.bl true) h' else B ds h') := o'
    cases k with
    | true => rw [if_pos rfl] at o' ⊢; exact o' _ m' H' (.refl _ _) (by unfold RepV; rfl) rh'
    | false => rw [if_neg Bool.false_ne_true] at o' ⊢; exact ⟨m', ds, h', hs.mono w, rh', o'⟩
  | _ => exact (show False from o').elim
theorem em_not (ha : PE X a (tM g A)) : PE X (.UnaryOp .Not a pos) (tM g (notV A)) := by
  refine PE.weak (pe_not ha) fun σ H Q ⟨m, ds, h, hs, rh, o⟩ => ⟨m, ds, h, hs, rh, OutE.toE o fun d h' v m' H' w rv rh' o' => ?_⟩
  cases d with
  | bl k => exact ⟨k, by unfold RepV at rv; exact rv, o' _ m' H' (.refl _ _) (by unfold RepV; rfl) rh'⟩
  | _ => exact (show False from o').elim
theorem am_nil : PA X [] (tA g nilA) := PA.weak pa_nil fun σ H Q ⟨m, ds, h, hs, rh, o⟩ => o [] m H (.refl _ _) .nil rh
theorem am_cons {As : AM} (ha : PE X e (tM g A)) (hr : PA X es (tA g As)) (hs : starEach (e :: es) X.env = (false, eval e X.env) :: starEach es X.env := by rfl) : PA X (e :: es) (tA g (consA A As)) := by
  refine PA.weak (pa_cons ha hr hs) fun σ H Q ⟨m, ds, h, hs, rh, o⟩ => ⟨m, ds, h, hs, rh, OutE.toA o fun d h' v m' H' w rv rh' o' => ?_⟩
  refine ⟨m', ds, h', hs.mono w, rh', OutA.toA o' fun xs h2 vs m2 H2 w2 rl rh2 o2 => ?_⟩
  exact o2 _ m2 H2 (.refl _ _) (.cons (rv.mono w2) rl) rh2
theorem em_tup {As : AM} {x1} (h : PA X es (tA g As)) : PE X (.Tuple es x1 pos) (tM g (argM tupF As)) := by
  refine PE.weak (pe_tup h) fun σ H Q ⟨m, ds, h, hs, rh, o⟩ => ⟨m, ds, h, hs, rh, OutA.toE o fun xs h' vs m' H' w rl rh' o' => ?_⟩
  have ls : sizeLine = 16777216 := sizeLine_eq
  by_cases hz : xs.length ≤ LIM
  · have e : tupF xs h' = some (.tup xs, h') := if_pos hz
    rw [e] at o'
    refine ⟨by rw [rl.length, ls]; exact hz, fun p hp => o' _ m' _ (.put hp) ?_ (rh'.put hp)⟩
    unfold RepV
    exact ⟨p, vs, rfl, upd_same, rl.mono (.put hp)⟩
  · have e : tupF xs h' = none := if_neg hz
    rw [e] at o'
    exact o'.elim
/-- a new list tracked -/
theorem new_lst {m : List Addr} {H : Hp} {h : Hs} {xs : List D} {vs : List V} {p : Addr} (rl : RepL g.K m H xs vs) (rh : RepH g.K m H h) (hp : H p = none) :
    RepV g.K (m ++ [p]) (upd H p (.lst vs)) (.loc h.length) (.ref p) ∧ RepH g.K (m ++ [p]) (upd H p (.lst vs)) (h ++ [.lst xs]) := by
  refine ⟨?_, rh.new hp ⟨vs, upd_same, rl.mono (.app hp)⟩⟩
  unfold RepV
  exact ⟨p, by rw [← rh.len]; simp, rfl⟩
theorem em_lst {As : AM} (h : PA X es (tA g As)) : PE X (.List es pos) (tM g (argM lstF As)) := by
  refine PE.weak (pe_lst h) fun σ H Q ⟨m, ds, h, hs, rh, o⟩ => ⟨m, ds, h, hs, rh, OutA.toE o fun xs h' vs m' H' w rl rh' o' => ?_⟩
  have ls : sizeLine = 16777216 := sizeLine_eq
  by_cases hz : xs.length ≤ LIM
  · have e : lstF xs h' = some (.loc h'.length, h' ++ [.lst xs]) := if_pos hz
    rw [e] at o'
    refine ⟨by rw [rl.length, ls]; exact hz, fun p hp => ?_⟩
    obtain ⟨q1, q2⟩ := new_lst rl rh' hp
    exact o' _ _ _ (.app hp) q1 q2
  · have e : lstF xs h' = none := if_neg hz
    rw [e] at o'
    exact o'.elim
def rC (K : PySem.W.Frag) (F : List D → Hs → Res) : List V → Hp → VK → Prop := fun vs H Q => ∃ m h ds, RepL K m H ds vs ∧ RepH K m H h ∧ OutV K m H Q (F ds h)
theorem call_read {Fc : List D → Hs → Res} {As : AM} {σ : St} {H : Hp} {Q : VK} (q : tM g (argM Fc As) σ H Q) : tCB (rC g.K Fc) (tA g As) σ H Q := by
  obtain ⟨m, ds, h, hs, rh, o⟩ := q
  exact ⟨m, ds, h, hs, rh, OutA.toE o fun xs h' vs m' H' w rl rh' o' => ⟨m', h', xs, rl, rh', .of o'⟩⟩
theorem em_callB {id : String} {Fc : List D → Hs → Res} {As : AM} {x : Str} {p : Pos} (hc : CallR X (.builtin id) (rC g.K Fc)) (hg : Gl X x) (hm : X.mg x = none) (hv : bootBuiltins x = some (.builtin id)) (ha : PA X (e :: es) (tA g As)) (hn : x ≠ "__name__" := by decide) (hdb : (x == ("__debug__" : Str)) = false := by decide)
    (he : starEach (e :: es) X.env = (false, eval e X.env) :: starEach es X.env := by rfl) (hpl : (backTo pos (starEach es X.env)).any (·.1) = false := by rfl) : PE X (.Call (.Name x p) (e :: es) [] pos) (tM g (argM Fc As)) :=
  PE.weak (pe_callB hc hg hm hv ha hn hdb he hpl) fun _ _ _ => call_read
theorem em_callTy {T : String} {Fc : List D → Hs → Res} {As : AM} {x : Str} {p : Pos} (hc : CallR X (.type T) (rC g.K Fc)) (hg : Gl X x) (hm : X.mg x = none) (hv : bootBuiltins x = some (.type T)) (ha : PA X (e :: es) (tA g As)) (hn : x ≠ "__name__" := by decide) (hdb : (x == ("__debug__" : Str)) = false := by decide)
    (he : starEach (e :: es) X.env = (false, eval e X.env) :: starEach es X.env := by rfl) (hpl : (backTo pos (starEach es X.env)).any (·.1) = false := by rfl) : PE X (.Call (.Name x p) (e :: es) [] pos) (tM g (argM Fc As)) :=
  PE.weak (pe_callTy hc hg hm hv ha hn hdb he hpl) fun _ _ _ => call_read
end
end DV
namespace DV
open PySem PySem.Spec PyProof.Rows L2
def passM : SM := fun ds h => .nx ds h
def seqM (A B : SM) : SM := fun ds h => match A ds h with
  | .nx ds h => B ds h
  | r => r
def setM (i : Nat) (A : EM) : SM := fun ds h => lift (A ds h) ds fun d h => .nx (ds.set i (some d)) h
def exprM (A : EM) : SM := fun ds h => lift (A ds h) ds fun _ h => .nx ds h
def retM (A : EM) : SM := fun ds h => lift (A ds h) ds fun d h => .rt d h
def retN : SM := fun _ h => .rt .non h
def ifM (T : TM) (A B : SM) : SM := fun ds h => lift (T ds h) ds fun b h => if b = true then A ds h else B ds h
def raiseM (c : Str) : SM := fun ds h => .exc c ds h
def whileM (T : TM) (B : SM) : Nat → SM
  | 0 => fun _ _ => .bad
  | n + 1 => fun ds h => lift (T ds h) ds fun b h => if b = true then (match B ds h with
    | .nx ds h => whileM T B n ds h
    | .ct ds h => whileM T B n ds h
    | .bk ds h => .nx ds h
    | r => r) else .nx ds h
/-- targets -/
abbrev GM := D → Sl → Hs → RS
def nameG (i : Nat) : GM := fun d ds h => .nx (ds.set i (some d)) h
def nilG : List D → Sl → Hs → RS := fun xs ds h => match xs with
  | [] => .nx ds h
  | _ => .bad
def consG (T : GM) (U : List D → Sl → Hs → RS) : List D → Sl → Hs → RS := fun xs ds h => match xs with
  | x :: r => (match T x ds h with
    | .nx ds h => U r ds h
    | _ => .bad)
  | [] => .bad
def tupG (n : Nat) (U : List D → Sl → Hs → RS) : GM := fun d ds h => match d with
  | .tup xs => if xs.length = n then U xs ds h else .bad
  | _ => .bad
def asgM (A : EM) (T : GM) : SM := fun ds h => lift (A ds h) ds fun d h => T d ds h
/-- loops over known items, under a guard -/
abbrev IM := Sl → Hs → R (List D × (Hs → Prop))
open Classical in
noncomputable def loopM (gd : Hs → Prop) (T : GM) (B : SM) : List D → SM
  | [] => fun ds h => if gd h then .nx ds h else .bad
  | d :: r => fun ds h => if gd h then (match T d ds h with
    | .nx ds h => (match B ds h with
      | .nx ds h => loopM gd T B r ds h
      | .ct ds h => loopM gd T B r ds h
      | .bk ds h => .nx ds h
      | q => q)
    | _ => .bad) else .bad
noncomputable def forM (I : IM) (T : GM) (B : SM) : SM := fun ds h => lift (I ds h) ds fun p h => loopM p.2 T B p.1 ds h
def tG (g : Cfg) (T : GM) : TG := fun v σ H Q => ∃ m d ds h, RepV g.K m H d v ∧ RepS g.K m H ds σ ∧ RepH g.K m H h ∧ OutS g m H { nx := Q, rt := fun _ _ => False } (match T d ds h with | .nx ds h => .nx ds h | _ => .bad)
def tGs (g : Cfg) (U : List D → Sl → Hs → RS) : TGs := fun vs σ H Q => ∃ m xs ds h, RepL g.K m H xs vs ∧ RepS g.K m H ds σ ∧ RepH g.K m H h ∧ OutS g m H { nx := Q, rt := fun _ _ => False } (match U xs ds h with | .nx ds h => .nx ds h | _ => .bad)
theorem PG.weak {X : Cx} {e : Expr} {t t' : TG} (p : PG X e t) (w : ∀ v σ H Q, t' v σ H Q → t v σ H Q) : PG X e t' := ⟨fun pns s σ H v u Q I r h => p.run pns s σ H v u Q I r (w v σ H Q h)⟩
theorem PGs.weak {X : Cx} {e : List Expr} {t t' : TGs} (p : PGs X e t) (w : ∀ v σ H Q, t' v σ H Q → t v σ H Q) : PGs X e t' := ⟨fun pns s σ H v u Q I r h => p.run pns s σ H v u Q I r (w v σ H Q h)⟩
theorem PI.weak {X : Cx} {tg e : Expr} {t t' : TI} (p : PI X tg e t) (w : ∀ σ H R, t' σ H R → t σ H R) : PI X tg e t' := ⟨fun pns s σ H R I h => p.run pns s σ H R I (w σ H R h)⟩
section
variable {X : Cx} {g : Cfg} {e a b c tg iter : Expr} {es : List Expr} {A B C : EM} {pos : Pos} {F G : VF2} {S U : SM} {T : TM} {st : Stmt} {sts body : List Stmt}
theorem sms_nil : PSs X [] (tS g passM) := PSs.weak pss_nil fun N σ H ⟨m, ds, h, hs, rh, o⟩ => o σ m H (.refl _ _) hs rh
theorem sms_one (h1 : PS X st (tS g S)) : PSs X [st] (tS g S) := pss_one h1
theorem sms_cons (h1 : PS X st (tS g S)) (h2 : PSs X sts (tS g U)) : PSs X (st :: sts) (tS g (seqM S U)) := by
  refine PSs.weak (pss_cons h1 h2) fun N σ H ⟨m, ds, h, hs, rh, o⟩ => ⟨m, ds, h, hs, rh, ?_⟩
  unfold seqM at o
  cases q : S ds h with
  | nx ds1 h1 =>
    rw [q] at o
    exact fun σ1 m1 H1 g1 r1 rh1 => ⟨m1, ds1, h1, r1, rh1, OutS.mono o g1⟩
  | rt d h1 => rw [q] at o; exact o
  | bk ds1 h1 => rw [q] at o; exact o
  | ct ds1 h1 => rw [q] at o; exact o
  | exc c ds1 h1 => rw [q] at o; exact o
  | bad => rw [q] at o; exact o
theorem sm_expr (he : PE X e (tM g A)) (hs : swapsWith e none pos.line X.env = pure false := by rfl) : PS X (.Expr e pos) (tS g (exprM A)) :=
  PS.weak (ps_expr he hs) fun N σ H ⟨m, ds, h, hs, rh, o⟩ => ⟨m, ds, h, hs, rh, OutE.toS hs o fun d h1 v m1 H1 g1 r1 rh1 o1 => o1 σ m1 H1 (.refl _ _) (hs.mono g1) rh1⟩
theorem sm_ret (he : PE X e (tM g A)) : PS X (.Return (some e) pos) (tS g (retM A)) :=
  PS.weak (ps_ret he) fun N σ H ⟨m, ds, h, hs, rh, o⟩ => ⟨m, ds, h, hs, rh, OutE.toS hs o fun d h1 v m1 H1 g1 r1 rh1 o1 => o1 v m1 H1 (.refl _ _) r1 rh1⟩
theorem sm_if {tb fb : List Stmt} (hc : PT X c (tT g T)) (ha : PSs X tb (tS g S)) (hb : PSs X fb (tS g U)) : PS X (.If c tb fb pos) (tS g (ifM T S U)) := by
  refine PS.weak (ps_if hc ha hb) fun N σ H ⟨m, ds, h, hs, rh, o⟩ => ⟨m, ds, h, hs, rh, OutT.toS hs o fun k h1 m1 H1 g1 rh1 o1 => ?_⟩
  cases k with
  | true => rw [if_pos rfl] at o1 ⊢; exact ⟨m1, ds, h1, hs.mono g1, rh1, o1⟩
  | false => rw [if_neg Bool.false_ne_true] at o1 ⊢; exact ⟨m1, ds, h1, hs.mono g1, rh1, o1⟩
theorem gm_name {i : Nat} (h : PG X tg (gName i)) : PG X tg (tG g (nameG i)) :=
  PG.weak h fun v σ H Q ⟨m, d, ds, h, rv, hs, rh, o⟩ => o (σ.set i (some v)) m H (.refl _ _) (hs.put i rv) rh
theorem gms_nil : PGs X [] (tGs g nilG) := PGs.weak pgs_nil fun vs σ H Q ⟨m, xs, ds, h, rl, hs, rh, o⟩ => by
  cases xs with
  | nil => unfold RepL at rl; exact ⟨rl, o σ m H (.refl _ _) hs rh⟩
  | cons x r => exact (show False from o).elim
theorem gms_cons {T1 : GM} {U1 : List D → Sl → Hs → RS} (h1 : PG X e (tG g T1)) (h2 : PGs X es (tGs g U1))
    (hs : (assignEach (e :: es) X.env).map (·.2) = assign e X.env :: (assignEach es X.env).map (·.2) := by rfl) : PGs X (e :: es) (tGs g (consG T1 U1)) := by
  refine PGs.weak (pgs_cons h1 h2 hs) fun vs σ H Q ⟨m, xs, ds, h, rl, hs, rh, o⟩ => ?_
  cases xs with
  | nil => exact (show False from o).elim
  | cons x r =>
    unfold RepL at rl
    obtain ⟨v, vr, rfl, r1, r2⟩ := rl
    refine ⟨v, vr, rfl, m, x, ds, h, r1, hs, rh, ?_⟩
    have o : OutS g m H { nx := Q, rt := fun _ _ => False } (match (match T1 x ds h with | .nx ds h => U1 r ds h | _ => .bad) with | .nx ds h => .nx ds h | _ => .bad) := o
    cases q : T1 x ds h with
    | nx ds1 h1 =>
      rw [q] at o
      exact fun σ1 m1 H1 g1 s1 rh1 => ⟨m1, r, ds1, h1, r2.mono g1, s1, rh1, OutS.mono o g1⟩
    | _ => rw [q] at o; exact (show False from o).elim
theorem gm_tup {k n : Nat} {U1 : List D → Sl → Hs → RS} (hc : X.calm = true) (h : PGs X es (tGs g U1)) (hK : X.K = g.K)
    (hn : (assignEach es X.env).length = n := by rfl) (hst : (assignEach es X.env).findIdx? (·.1) = none := by rfl) : PG X (.Tuple es k pos) (tG g (tupG n U1)) := by
  refine PG.weak (pg_tup hc h hn hst) fun v σ H Q ⟨m, d, ds, h, rv, hs, rh, o⟩ => ?_
  cases d with
  | tup xs =>
    unfold RepV at rv
    obtain ⟨p, vs, rfl, hp, rl⟩ := rv
    have o : OutS g m H { nx := Q, rt := fun _ _ => False } (match (if xs.length = n then U1 xs ds h else .bad) with | .nx ds h => .nx ds h | _ => .bad) := o
    by_cases hl : xs.length = n
    · rw [if_pos hl] at o
      exact ⟨p, vs, rfl, SqT.of hp, by rw [rl.length]; exact hl, m, xs, ds, h, rl, hs, rh, o⟩
    · rw [if_neg hl] at o; exact o.elim
  | _ => exact (show False from o).elim
/-- only a next or nothing comes of a target -/
def okG (T : GM) : GM := fun d ds h => match T d ds h with
  | .nx ds h => .nx ds h
  | _ => .bad
theorem sm_set {i : Nat} {x : Str} {pos' : Pos} (hN : X.N.Nodup) (hi : X.N[i]? = some x) (hx : Loc X.env.scope x) (he : PE X e (tM g A)) (hs : swapsWith e (some (.Name x pos')) pos.line X.env = pure false := by rfl) (hf : X.fn x = true ∨ X.env.scope.names.lookup x = some .local := by first | exact .inl rfl | exact .inr rfl | assumption) :
    PS X (.Assign [.Name x pos'] e pos) (tS g (setM i A)) :=
  PS.weak (ps_set hN hi hx he hs hf) fun N σ H ⟨m, ds, h, hs, rh, o⟩ => ⟨m, ds, h, hs, rh, OutE.toS hs o fun d h1 v m1 H1 g1 r1 rh1 o1 => o1 _ m1 H1 (.refl _ _) ((hs.mono g1).put i r1) rh1⟩
theorem sm_asg {T1 : GM} (he : PE X e (tM g A)) (hg : PG X tg (tG g T1)) (hs : swapsWithSole [tg] e pos.line X.env = pure false := by rfl) (hw : swappedStores [tg] e X.env = pure none := by rfl)
    (h1 : (assignEach [tg] X.env).map (·.2) = [assign tg X.env] := by rfl) : PS X (.Assign [tg] e pos) (tS g (asgM A (okG T1))) := by
  refine PS.weak (ps_asg he hg hs hw h1) fun N σ H ⟨m, ds, h, hs, rh, o⟩ => ⟨m, ds, h, hs, rh, OutE.toS hs o fun d h1 v m1 H1 g1 r1 rh1 o1 => ⟨m1, d, ds, h1, r1, hs.mono g1, rh1, ?_⟩⟩
  have o1 : OutS g m1 H1 N (match T1 d ds h1 with | .nx ds h => .nx ds h | _ => .bad) := o1
  cases q : T1 d ds h1 with
  | nx ds1 h1 => rw [q] at o1; exact o1
  | _ => rw [q] at o1; exact (show False from o1).elim
theorem sm_while (n : Nat) (hp : PassesOwn (model X.prog X.w) X.A X.env X.xe) (hc : PT X c (tT g T)) (hb : PSs X body (tS g S)) : PS X (.While c body [] pos) (tS g (whileM T S n)) := by
  refine PS.weak (ps_while hp hc hb) fun N σ H ⟨m, ds, h, hs, rh, o⟩ => ?_
  refine ⟨fun k σ H => ∃ m ds h, RepS g.K m H ds σ ∧ RepH g.K m H h ∧ OutS g m H N (whileM T S k ds h), ⟨n, m, ds, h, hs, rh, o⟩, ?_⟩
  rintro k σ H ⟨m, ds, h, hs, rh, o⟩
  cases k with
  | zero => exact (show False from o).elim
  | succ k =>
    refine ⟨m, ds, h, hs, rh, OutT.toS hs o fun b h1 m1 H1 g1 rh1 o1 => ?_⟩
    cases b with
    | true =>
      rw [if_pos rfl] at o1 ⊢
      refine ⟨fun σ H => ∃ m ds h, RepS g.K m H ds σ ∧ RepH g.K m H h ∧ OutS g m H N (whileM T S k ds h), fun σ' H' q => ⟨k, Nat.lt_succ_self k, q⟩, m1, ds, h1, hs.mono g1, rh1, ?_⟩
      cases q : S ds h1 with
      | nx ds2 h2 => rw [q] at o1; exact fun σ2 m2 H2 g2 s2 rh2 => ⟨m2, ds2, h2, s2, rh2, OutS.mono o1 g2⟩
      | ct ds2 h2 => rw [q] at o1; exact fun σ2 m2 H2 g2 s2 rh2 => ⟨m2, ds2, h2, s2, rh2, OutS.mono o1 g2⟩
      | bk ds2 h2 => rw [q] at o1; exact o1
      | rt d h2 => rw [q] at o1; exact o1
      | exc c ds2 h2 => rw [q] at o1; exact o1
      | bad => rw [q] at o1; exact o1
    | false => rw [if_neg Bool.false_ne_true] at o1 ⊢; exact o1 _ m1 H1 (.refl _ _) (hs.mono g1) rh1
end
/-- the iterator J yields these, as long as the guard holds -/
def IsIt (K : PySem.W.Frag) (J : It) (its : List D) (gd : Hs → Prop) (m0 : List Addr) (H0 : Hp) : Prop :=
  ∀ i m H h, Grow m0 H0 m H → RepH K m H h → gd h → (∀ d, its[i]? = some d → J.go i H ∧ ∀ x H', J.yld i H x H' → Grow m H m H' ∧ RepV K m H' d x ∧ RepH K m H' h) ∧ (its.length ≤ i → J.stop i H)
def OutI (g : Cfg) (m : List Addr) (H : Hp) (σ : St) (Q : It → Hp → Prop) : R (List D × (Hs → Prop)) → Prop
  | .ok p h' => ∀ J m' H', Grow m H m' H' → RepH g.K m' H' h' → IsIt g.K J p.1 p.2 m' H' → Q J H'
  | .exc c h' => ∀ m' H', Grow m H m' H' → RepH g.K m' H' h' → g.W (.ref (He.ga g.K c)) none σ H'
  | .bad => False
def tI (g : Cfg) (M : IM) : TI := fun σ H Q => ∃ m ds h, RepS g.K m H ds σ ∧ RepH g.K m H h ∧ OutI g m H σ Q (M ds h)
section
variable {X : Cx} {g : Cfg} {tg iter : Expr} {body : List Stmt} {pos : Pos} {S : SM} {T : GM} {I : IM}
theorem sm_for (hp : PassesOwn (model X.prog X.w) X.A X.env X.xe) (hc : X.calm = true) (hi : PI X tg iter (tI g I)) (hg : PG X tg (tG g T)) (hb : PSs X body (tS g S))
    (hs : ∀ x, foldedSetIterable iter X.env x = pure x := by intro _; rfl) : PS X (.For tg iter body [] pos) (tS g (forM I T S)) := by
  refine PS.weak (ps_for hp hc hi hg hb hs) fun N σ H ⟨m, ds, h, hs, rh, o⟩ => ⟨m, ds, h, hs, rh, ?_⟩
  unfold forM at o
  cases q : I ds h with
  | exc c h1 => rw [q] at o; exact fun m' H' w rh' => o σ m' H' w (hs.mono w) rh'
  | bad => rw [q] at o; exact o
  | ok p h1 =>
    obtain ⟨its, gd⟩ := p
    rw [q, lift_ok] at o
    intro J m1 H1 g1 rh1 it
    refine ⟨fun i k σ H => k = its.length - i ∧ i ≤ its.length ∧ ∃ m ds h, Grow m1 H1 m H ∧ RepS g.K m H ds σ ∧ RepH g.K m H h ∧ OutS g m H N (loopM gd T S (its.drop i) ds h),
      ⟨_, rfl, Nat.zero_le _, m1, ds, h1, .refl _ _, hs.mono g1, rh1, OutS.mono o g1⟩, ?_⟩
    rintro i k σ2 H2 ⟨rfl, hi, m2, ds2, h2, g2, s2, rh2, o2⟩
    by_cases hlt : i < its.length
    · have hd : its.drop i = its[i] :: its.drop (i + 1) := List.drop_eq_getElem_cons hlt
      rw [hd] at o2
      unfold loopM at o2
      by_cases hgd : gd h2
      · rw [if_pos hgd] at o2
        obtain ⟨f1, _⟩ := it i m2 H2 h2 g2 rh2 hgd
        obtain ⟨go, yl⟩ := f1 its[i] (List.getElem?_eq_getElem hlt)
        refine .inr ⟨go, fun σ H => ∃ m ds h, Grow m1 H1 m H ∧ RepS g.K m H ds σ ∧ RepH g.K m H h ∧ OutS g m H N (loopM gd T S (its.drop (i + 1)) ds h), fun σ' H' ⟨m', ds', h', w⟩ => ⟨its.length - (i + 1), by omega, rfl, hlt, m', ds', h', w⟩, fun x H3 y => ?_⟩
        obtain ⟨g3, r3, rh3⟩ := yl x H3 y
        refine ⟨m2, its[i], ds2, h2, r3, s2.mono g3, rh3, ?_⟩
        cases w : T its[i] ds2 h2 with
        | nx ds4 h4 =>
          rw [w] at o2
          intro σ4 m4 H4 g4 s4 rh4
          refine ⟨m4, ds4, h4, s4, rh4, ?_⟩
          have o2 : OutS g m2 H2 N (match S ds4 h4 with
            | .nx ds h => loopM gd T S (its.drop (i + 1)) ds h
            | .ct ds h => loopM gd T S (its.drop (i + 1)) ds h
            | .bk ds h => .nx ds h
            | q => q) := o2
          have o4 := OutS.mono o2 (g3.trans g4)
          have gg := g2.trans (g3.trans g4)
          cases w2 : S ds4 h4 with
          | nx ds5 h5 => rw [w2] at o4; exact fun σ5 m5 H5 g5 s5 rh5 => ⟨m5, ds5, h5, gg.trans g5, s5, rh5, OutS.mono o4 g5⟩
          | ct ds5 h5 => rw [w2] at o4; exact fun σ5 m5 H5 g5 s5 rh5 => ⟨m5, ds5, h5, gg.trans g5, s5, rh5, OutS.mono o4 g5⟩
          | bk ds5 h5 => rw [w2] at o4; exact o4
          | rt d h5 => rw [w2] at o4; exact o4
          | exc c ds5 h5 => rw [w2] at o4; exact o4
          | bad => rw [w2] at o4; exact o4
        | _ => rw [w] at o2; exact (show False from o2).elim
      · rw [if_neg hgd] at o2; exact o2.elim
    · have e : i = its.length := by omega
      subst e
      rw [List.drop_length] at o2
      unfold loopM at o2
      by_cases hgd : gd h2
      · rw [if_pos hgd] at o2
        exact .inl ⟨(it _ m2 H2 h2 g2 rh2 hgd).2 (Nat.le_refl _), o2 σ2 m2 H2 (.refl _ _) s2 rh2⟩
      · rw [if_neg hgd] at o2; exact o2.elim
end
/-- the items of a value and the guard: a list must stay as it is -/
noncomputable def itsF (d : D) (h : Hs) : Option (List D × (Hs → Prop)) := match d with
  | .tup ds => some (ds, fun _ => True)
  | .ro ns => some (ns.map D.int, fun _ => True)
  | .str s => some (s.cps.toList.map fun c => .str ⟨#[c]⟩, fun _ => True)
  | .loc l => match h[l]? with
    | some (.lst ds) => some (ds, fun h => h[l]? = some (.lst ds))
    | _ => none
  | _ => none
noncomputable def valI (A : EM) : IM := fun ds h => (A ds h).bind fun d h => match itsF d h with
  | some p => .ok p h
  | none => .bad
/-- a test that no evaluation looks into -/
noncomputable def cB (p : Prop) : Bool := @decide p (Classical.propDecidable p)
theorem cB_iff {p : Prop} : cB p = true ↔ p := by unfold cB; exact @decide_eq_true_iff p (Classical.propDecidable p)
theorem cB_of {p : Prop} (h : p) : cB p = true := cB_iff.mpr h
/-- a range's ends fit -/
noncomputable def inR (j : Int) : Bool := cB (-(2 ^ 62) ≤ j ∧ j < 2 ^ 62)
noncomputable def rng1 : List D → Option (List D)
  | [.int j] => if inR j = true then some ((List.range j.toNat).map fun (i : Nat) => .int (i : Int)) else none
  | _ => none
noncomputable def rng2 : List D → Option (List D)
  | [.int i, .int j] => if inR i = true ∧ inR j = true then some ((List.range (j - i).toNat).map fun (k : Nat) => .int (i + (k : Int))) else none
  | _ => none
theorem rng1_inv {xs its : List D} (h : rng1 xs = some its) : ∃ j : Int, xs = [.int j] ∧ (-(2 ^ 62) ≤ j ∧ j < 2 ^ 62) ∧ its = (List.range j.toNat).map fun (i : Nat) => .int (i : Int) := by
  unfold rng1 at h
  split at h
  · rename_i j
    split at h
    · rename_i hj; exact ⟨j, rfl, cB_iff.mp hj, (Option.some.inj h).symm⟩
    · cases h
  · cases h
def rngI (F : List D → Option (List D)) (A : AM) : IM := fun ds h => (A ds h).bind fun xs h => match F xs with
  | some its => .ok (its, fun _ => True) h
  | none => .bad
section
variable {X : Cx} {g : Cfg} {tg e a b : Expr} {A : EM} {pos : Pos}
/-- any of list, tuple, text, by its value -/
theorem pi_any {l : Expr} {tl : TE} (hl : PE X l tl) : PI X tg l (fun σ H R => tl σ H fun x H1 => (∃ a, x = .ref a ∧ (∃ xs, SqL X.K H1 a xs) ∧ R (Itl X.K a) H1) ∨ (∃ a, x = .ref a ∧ (∃ xs, SqT X.K H1 a xs) ∧ R (Itt X.K a) H1) ∨ ∃ z, x = .str z ∧ R (Its z) H1) := by
  refine ⟨fun pns s σ H R I h => ?_⟩
  refine thn (hl.run pns s σ H _ I h) fun v s1 ⟨x, H1, I1, r1, q1⟩ => ?_
  rcases q1 with ⟨a, e, ⟨xs, hq⟩, q⟩ | ⟨a, e, ⟨xs, hq⟩, q⟩ | ⟨z, e, q⟩
  · subst e
    cases r1
    obtain ⟨its, rv, p, hz⟩ := I1.list hq
    refine wpAny_pyIter_list p.isList ?_
    refine ⟨s1.heap.objs.size, [s1.heap.objs.size], _, _, H1, rfl, I1.kept (t' := s1.toks) fun b o e => Heap.get?_push_of_some _ e, turn_list a _, ⟨_, Heap.get?_push_size _ rfl, rfl, rfl⟩, fun b hb => ?_, q⟩
    have e : b = s1.heap.objs.size := by simpa using hb
    subst e
    exact I1.fpOk (Nat.le_refl _) (I1.hok.fresh (Nat.le_refl _))
  · subst e
    cases r1
    obtain ⟨its, rv, p, hz⟩ := I1.tuple hq
    refine wpAny_pyIter_tuple (show s1.heap.IsTuple a its.toArray from p) ?_
    refine ⟨s1.heap.objs.size, [s1.heap.objs.size], _, _, H1, rfl, I1.kept (t' := s1.toks) fun b o e => Heap.get?_push_of_some _ e, turn_tuple a _, ⟨_, Heap.get?_push_size _ rfl, rfl, rfl⟩, fun b hb => ?_, q⟩
    have e : b = s1.heap.objs.size := by simpa using hb
    subst e
    exact I1.fpOk (Nat.le_refl _) (I1.hok.fresh (Nat.le_refl _))
  · subst e
    obtain ⟨t, rfl⟩ := r1
    cases ha : z.cps.all (· < 128)
    · exact wpAny_pyIter_wide ha (pi_one (tk := s1.toks) I1 _ (turn_str _ z t "str_iterator" (.inr rfl)) ⟨_, Heap.get?_push_size _ rfl, rfl, rfl⟩ q)
    · exact wpAny_pyIter_ascii ha (pi_one (tk := s1.toks) I1 _ (turn_str _ z t "str_ascii_iterator" (.inl rfl)) ⟨_, Heap.get?_push_size _ rfl, rfl, rfl⟩ q)
theorem isIt_tup {K : PySem.W.Frag} {p : Addr} {vs : List V} {ds : List D} {m : List Addr} {H : Hp} (hp : H p = some (.tup vs)) (rl : RepL K m H ds vs) : IsIt K (Itt K p) ds (fun _ => True) m H := by
  intro i m' H' h' g' rh' _
  have hp' := g'.tup _ _ hp
  refine ⟨fun d hd => ?_, fun hi => ⟨vs, SqT.of hp', by rw [rl.length]; exact hi⟩⟩
  obtain ⟨x, hx, rx⟩ := rl.get hd
  refine ⟨⟨vs, x, SqT.of hp', hx⟩, fun y H2 ⟨e, q⟩ => ?_⟩
  subst e
  have := q vs (SqT.of hp')
  rw [hx] at this; cases this
  exact ⟨.refl _ _, rx.mono g', rh'⟩
theorem isIt_lst {K : PySem.W.Frag} {p : Addr} {l : Nat} {ds : List D} {m : List Addr} {H : Hp} (hp : m[l]? = some p) : IsIt K (Itl K p) ds (fun h => h[l]? = some (.lst ds)) m H := by
  intro i m' H' h' g' rh' hg
  obtain ⟨⟨r, rfl⟩, _, _, _⟩ := g'
  obtain ⟨hlt, _⟩ := List.getElem?_eq_some_iff.mp hp
  have hp' : (m ++ r)[l]? = some p := by rw [List.getElem?_append_left hlt]; exact hp
  obtain ⟨vs, hv, rl⟩ := rh'.lst hp' hg
  refine ⟨fun d hd => ?_, fun hi => ⟨vs, SqL.of hv, by rw [rl.length]; exact hi⟩⟩
  obtain ⟨x, hx, rx⟩ := rl.get hd
  refine ⟨⟨vs, x, SqL.of hv, hx⟩, fun y H2 ⟨e, q⟩ => ?_⟩
  subst e
  have := q vs (SqL.of hv)
  rw [hx] at this; cases this
  exact ⟨.refl _ _, rx, rh'⟩
theorem SqR.mono {K : PySem.W.Frag} {H H' : Hp} {m m' : List Addr} {p : Addr} {xs : List V} (g : Grow m H m' H') (q : SqR K H p xs) : SqR K H' p xs := by
  rcases q with ⟨o, q⟩ | q
  · exact .inl ⟨o, g.frz _ _ _ q⟩
  · exact .inr q
theorem isIt_ro {K : PySem.W.Frag} {p : Addr} {ns : List Int} {m : List Addr} {H : Hp} (hp : SqR K H p (ns.map V.int)) : IsIt K (Itl K p) (ns.map D.int) (fun _ => True) m H := by
  intro i m' H' h' g' rh' _
  have hq := (hp.mono g').sq
  refine ⟨fun d hd => ?_, fun hi => ⟨_, hq, by simpa using hi⟩⟩
  rw [List.getElem?_map] at hd
  cases e : ns[i]? with
  | none => rw [e] at hd; cases hd
  | some n =>
    rw [e] at hd
    cases hd
    have hx : (ns.map V.int)[i]? = some (.int n) := by rw [List.getElem?_map, e]; rfl
    refine ⟨⟨_, .int n, hq, hx⟩, fun y H2 ⟨e, q⟩ => ?_⟩
    subst e
    have := q _ hq
    rw [hx] at this; cases this
    exact ⟨.refl _ _, by unfold RepV; rfl, rh'⟩
theorem isIt_str {K : PySem.W.Frag} {z : Str} {m : List Addr} {H : Hp} : IsIt K (Its z) (z.cps.toList.map fun c => .str ⟨#[c]⟩) (fun _ => True) m H := by
  intro i m' H' h' g' rh' _
  refine ⟨fun d hd => ?_, fun hi => (show z.cps.size ≤ i by simpa using hi)⟩
  rw [List.getElem?_map, Array.getElem?_toList] at hd
  cases e : z.cps[i]? with
  | none => rw [e] at hd; cases hd
  | some n =>
    rw [e] at hd
    cases hd
    refine ⟨?_, fun y H2 ⟨e2, c, hc, q⟩ => ?_⟩
    · have : i < z.cps.size := (Array.getElem?_eq_some_iff.mp e).1
      exact this
    · subst e2 q
      rw [e] at hc; cases hc
      exact ⟨.refl _ _, by unfold RepV; rfl, rh'⟩
theorem isIt_rng {K : PySem.W.Frag} {lo : Int} {n : Nat} {m : List Addr} {H : Hp} : IsIt K (Itr lo n) ((List.range n).map fun (k : Nat) => .int (lo + (k : Int))) (fun _ => True) m H := by
  intro i m' H' h' g' rh' _
  refine ⟨fun d hd => ?_, fun hi => (show n ≤ i by simpa using hi)⟩
  rw [List.getElem?_map] at hd
  by_cases hl : i < n
  · rw [List.getElem?_range hl] at hd
    cases hd
    exact ⟨hl, fun y H2 ⟨e2, q⟩ => by subst e2 q; exact ⟨.refl _ _, by unfold RepV; rfl, rh'⟩⟩
  · rw [List.getElem?_eq_none (by simpa using hl)] at hd; cases hd
theorem OutE.toI {g : Cfg} {m : List Addr} {H : Hp} {σ : St} {Q : It → Hp → Prop} {Q' : VK} {r : R D} {k : D → Hs → R (List D × (Hs → Prop))} (o : OutI g m H σ Q (r.bind k)) (f : ∀ d h' v m' H', Grow m H m' H' → RepV g.K m' H' d v → RepH g.K m' H' h' → OutI g m' H' σ Q (k d h') → Q' v H') : OutE g m H σ Q' r := by
  cases r with
  | ok d h =>
    refine fun v m' H' w rv rh => f d h v m' H' w rv rh ?_
    rw [R.bind_ok] at o
    cases q : k d h with
    | ok p h2 => rw [q] at o; exact fun J m2 H2 w2 => o J m2 H2 (w.trans w2)
    | exc c h2 => rw [q] at o; exact fun m2 H2 w2 => o m2 H2 (w.trans w2)
    | bad => rw [q] at o; exact o
  | exc c h => exact o
  | bad => exact o
theorem OutA.toI {g : Cfg} {m : List Addr} {H : Hp} {σ : St} {Q : It → Hp → Prop} {Q' : List V → Hp → Prop} {r : R (List D)} {k : List D → Hs → R (List D × (Hs → Prop))} (o : OutI g m H σ Q (r.bind k)) (f : ∀ d h' v m' H', Grow m H m' H' → RepL g.K m' H' d v → RepH g.K m' H' h' → OutI g m' H' σ Q (k d h') → Q' v H') : OutA g m H σ Q' r := by
  cases r with
  | ok d h =>
    refine fun v m' H' w rv rh => f d h v m' H' w rv rh ?_
    rw [R.bind_ok] at o
    cases q : k d h with
    | ok p h2 => rw [q] at o; exact fun J m2 H2 w2 => o J m2 H2 (w.trans w2)
    | exc c h2 => rw [q] at o; exact fun m2 H2 w2 => o m2 H2 (w.trans w2)
    | bad => rw [q] at o; exact o
  | exc c h => exact o
  | bad => exact o
theorem im_val (hK : X.K = g.K) (he : PE X e (tM g A)) : PI X tg e (tI g (valI A)) := by
  refine PI.weak (pi_any he) fun σ H R ⟨m, ds, h, hs, rh, o⟩ => ⟨m, ds, h, hs, rh, OutE.toI o fun d h1 v m1 H1 g1 r1 rh1 o1 => ?_⟩
  rw [hK]
  cases d with
  | tup xs =>
    unfold RepV at r1
    obtain ⟨p, vs, rfl, hp, rl⟩ := r1
    exact .inr (.inl ⟨p, rfl, ⟨vs, SqT.of hp⟩, o1 _ m1 H1 (.refl _ _) rh1 (isIt_tup hp rl)⟩)
  | ro ns =>
    unfold RepV at r1
    obtain ⟨p, rfl, hp⟩ := r1
    exact .inl ⟨p, rfl, ⟨_, hp.sq⟩, o1 _ m1 H1 (.refl _ _) rh1 (isIt_ro hp)⟩
  | str z =>
    unfold RepV at r1
    exact .inr (.inr ⟨z, r1, o1 _ m1 H1 (.refl _ _) rh1 isIt_str⟩)
  | loc l =>
    unfold RepV at r1
    obtain ⟨p, hp, rfl⟩ := r1
    cases q : h1[l]? with
    | none => simp only [itsF, q] at o1; exact o1.elim
    | some ao =>
      cases ao with
      | lst xs =>
        obtain ⟨vs, hv, rl⟩ := rh1.lst hp q
        simp only [itsF, q] at o1
        exact .inl ⟨p, rfl, ⟨vs, SqL.of hv⟩, o1 _ m1 H1 (.refl _ _) rh1 (isIt_lst hp)⟩
      | _ => simp only [itsF, q] at o1; exact o1.elim
  | _ => exact (show False from o1).elim
theorem repL1 {K : PySem.W.Frag} {m : List Addr} {H : Hp} {d : D} {vs : List V} (r : RepL K m H [d] vs) : ∃ v, vs = [v] ∧ RepV K m H d v := by
  unfold RepL at r
  obtain ⟨x, r, rfl, h1, h2⟩ := r
  unfold RepL at h2
  exact ⟨x, by rw [h2], h1⟩
theorem repL2 {K : PySem.W.Frag} {m : List Addr} {H : Hp} {d e : D} {vs : List V} (r : RepL K m H [d, e] vs) : ∃ v u, vs = [v, u] ∧ RepV K m H d v ∧ RepV K m H e u := by
  unfold RepL at r
  obtain ⟨x, r, rfl, h1, h2⟩ := r
  obtain ⟨u, rfl, h3⟩ := repL1 h2
  exact ⟨x, u, rfl, h1, h3⟩
theorem im_rng1 {As : AM} {p : Pos} (hg : Gl X "range") (hm : X.mg "range" = none) (ha : PA X [a] (tA g As)) (hs : starEach [a] X.env = [(false, eval a X.env)] := by rfl) : PI X tg (.Call (.Name "range" p) [a] [] pos) (tI g (rngI rng1 As)) := by
  refine PI.weak (pi_range1 hg hm ha hs) fun σ H R ⟨m, ds, h, hs, rh, o⟩ => ⟨m, ds, h, hs, rh, OutA.toI o fun xs h1 vs m1 H1 g1 rl rh1 o1 => ?_⟩
  cases q : rng1 xs with
  | none => simp only [q] at o1; exact o1.elim
  | some its =>
    simp only [q] at o1
    obtain ⟨j, rfl, hj, rfl⟩ := rng1_inv q
    obtain ⟨v, rfl, r1⟩ := repL1 rl
    unfold RepV at r1
    subst r1
    refine ⟨j, rfl, hj.1, hj.2, o1 _ m1 H1 (.refl _ _) rh1 ?_⟩
    have := isIt_rng (K := g.K) (lo := 0) (n := j.toNat) (m := m1) (H := H1)
    simpa only [Int.zero_add] using this
end
end DV
namespace DV
open PySem PySem.Spec PyProof.Rows L2
def wipeD (ds : Sl) : List Nat → Sl
  | [] => ds
  | v :: vs => (wipeD ds vs).set v none
theorem RepS.wipe {K : PySem.W.Frag} {m : List Addr} {H : Hp} {ds : Sl} {σ : St} (r : RepS K m H ds σ) : ∀ vs : List Nat, RepS K m H (wipeD ds vs) (wipe σ vs)
  | [] => r
  | v :: vs => (RepS.wipe r vs).forget v none
/-- no exception -/
def R.noX {α : Type} : R α → R α
  | .ok a h => .ok a h
  | _ => .bad
@[simp] theorem R.noX_ok {α : Type} (a : α) (h : Hs) : (R.ok a h).noX = .ok a h := rfl
open Classical in
/-- l: the new list's number -/
noncomputable def lcLoop (gd : Hs → Prop) (l : Nat) (T : GM) (C : TM) (A : EM) (ds : Sl) : List D → Hs → R D
  | [], h => if gd h then .ok (.loc l) h else .bad
  | d :: r, h => if gd h then (match T d ds h with
    | .nx ds1 h1 => (C ds1 h1).noX.bind fun b h2 => if b = true then (A ds1 h2).noX.bind fun y h3 => (match h3[l]? with
        | some (.lst acc) => if acc.length < LIM then lcLoop gd l T C A ds r (h3.set l (.lst (acc ++ [y]))) else .bad
        | _ => .bad) else lcLoop gd l T C A ds r h2
    | _ => .bad) else .bad
/-- [A for T in I if C], own: the slots of its own names -/
noncomputable def lcM (own : List Nat) (I : IM) (T : GM) (C : TM) (A : EM) : EM := fun ds h => (I ds h).bind fun p h => lcLoop p.2 h.length T C A (wipeD ds own) p.1 (h ++ [.lst []])
def yesM : TM := fun _ h => .ok true h
theorem OutI.toE {g : Cfg} {m : List Addr} {H : Hp} {σ : St} {Q : VK} {Q' : It → Hp → Prop} {r : R (List D × (Hs → Prop))} {k : (List D × (Hs → Prop)) → Hs → R D} (o : OutE g m H σ Q (r.bind k))
    (f : ∀ p h' J m' H', Grow m H m' H' → RepH g.K m' H' h' → IsIt g.K J p.1 p.2 m' H' → OutE g m' H' σ Q (k p h') → Q' J H') : OutI g m H σ Q' r := by
  cases r with
  | ok p h => exact fun J m' H' w rh it => f p h J m' H' w rh it (OutE.mono o w)
  | exc c h => exact o
  | bad => exact o
/-- no exception leaves a comprehension's block -/
def noW (K : PySem.W.Frag) : Cfg := ⟨K, fun _ _ _ _ => False⟩
theorem IsIt.mono {K : PySem.W.Frag} {J : It} {its : List D} {gd : Hs → Prop} {m m' : List Addr} {H H' : Hp} (x : IsIt K J its gd m H) (w : Grow m H m' H') : IsIt K J its gd m' H' :=
  fun i m2 H2 h2 g2 => x i m2 H2 h2 (w.trans g2)
/-- a target of own names: its reading t, its maker T -/
structure CT (K : PySem.W.Frag) (own : List Nat) (t : TG) (T : GM) : Prop where
  keep : ∀ d ds h ds' h', T d ds h = .nx ds' h' → h' = h
  run : ∀ (m : List Addr) (d : D) (ds ds' : Sl) (h h' : Hs) (v : V) (σ : St) (H : Hp) (Q : St → Hp → Prop), RepV K m H d v → RepS K m H ds (wipe σ own) → T d ds h = .nx ds' h' →
    (∀ σ', wipe σ' own = wipe σ own → RepS K m H ds' σ' → Q σ' H) → t v (wipe σ own) H fun σ2 H2 => wipe σ2 own = wipe σ own ∧ Q σ2 H2
theorem ct_name (K : PySem.W.Frag) (i : Nat) : CT K [i] (gName i) (nameG i) where
  keep := fun d ds h ds' h' e => by cases e; rfl
  run := by
    intro m d ds ds' h h' v σ H Q rv rs e o
    cases e
    have e : wipe ((wipe σ [i]).set i (some v)) [i] = wipe σ [i] := by
      show (((σ.set i none).set i (some v)).set i none) = σ.set i none
      rw [List.set_set, List.set_set]
    exact ⟨e, o _ e (rs.put i rv)⟩
theorem two_inv {i j : Nat} {d : D} {ds ds' : Sl} {h h' : Hs} (e : tupG 2 (consG (nameG i) (consG (nameG j) nilG)) d ds h = .nx ds' h') : ∃ x y, d = .tup [x, y] ∧ h' = h ∧ ds' = (ds.set i (some x)).set j (some y) := by
  cases d with
  | tup xs =>
    match xs, e with
    | [], e => cases e
    | [_], e => cases e
    | [x, y], e => cases e; exact ⟨x, y, rfl, rfl, rfl⟩
    | x :: y :: z :: r, e =>
      have e : (if (x :: y :: z :: r).length = 2 then consG (nameG i) (consG (nameG j) nilG) (x :: y :: z :: r) ds h else .bad) = .nx ds' h' := e
      rw [if_neg (by simp)] at e
      cases e
  | _ => cases e
theorem ct_two (K : PySem.W.Frag) {i j : Nat} (hij : i ≠ j) : CT K [i, j] (gTup K 2 (gCons (gName i) (gCons (gName j) gNil))) (tupG 2 (consG (nameG i) (consG (nameG j) nilG))) where
  keep := fun d ds h ds' h' e => by obtain ⟨_, _, _, e, _⟩ := two_inv e; exact e
  run := by
    intro m d ds ds' h h' v σ H Q rv rs e o
    obtain ⟨x, y, rfl, _, rfl⟩ := two_inv e
    unfold RepV at rv
    obtain ⟨p, vs, rfl, hp, rl⟩ := rv
    obtain ⟨a, b, rfl, ra, rb⟩ : ∃ a b, vs = [a, b] ∧ RepV K m H x a ∧ RepV K m H y b := by
      unfold RepL at rl
      obtain ⟨a, r, rfl, h1, h2⟩ := rl
      unfold RepL at h2
      obtain ⟨b, r, rfl, h2, h3⟩ := h2
      unfold RepL at h3
      subst h3
      exact ⟨a, b, rfl, h1, h2⟩
    have e : wipe (((wipe σ [i, j]).set i (some a)).set j (some b)) [i, j] = wipe σ [i, j] := by
      show ((((((σ.set j none).set i none).set i (some a)).set j (some b)).set j none).set i none) = (σ.set j none).set i none
      rw [List.set_set, List.set_set]
      rw [List.set_comm _ _ (Ne.symm hij), List.set_set, List.set_comm _ _ hij, List.set_set]
    exact ⟨p, [a, b], rfl, SqT.of hp, rfl, a, [b], rfl, b, [], rfl, rfl, e, o _ e ((rs.put i ra).put j rb)⟩
theorem lc_read {g : Cfg} {own : List Nat} {I : IM} {T : GM} {C : TM} {A : EM} {σ : St} {H : Hp} {Q : VK} (q : tM g (lcM own I T C A) σ H Q)
    {t : TG} (ct : CT g.K own t T) :
    tLc (tI g I) t (tT (noW g.K) C) (tM (noW g.K) A) own σ H Q := by
  obtain ⟨m, ds, h, hs, rh, o⟩ := q
  refine ⟨m, ds, h, hs, rh, OutI.toE o fun p h1 J m1 H1 g1 rh1 it o1 => ?_⟩
  obtain ⟨its, gd⟩ := p
  intro L hL
  -- the new list
  have rh2 : RepH g.K (m1 ++ [L]) (upd H1 L (.lst [])) (h1 ++ [.lst []]) := (new_lst (g := g) (.nil) rh1 hL).2
  have g2 : Grow m1 H1 (m1 ++ [L]) (upd H1 L (.lst [])) := .app hL
  have hl : (m1 ++ [L])[h1.length]? = some L := by rw [← rh1.len]; simp
  have s2 := (hs.mono g1).mono g2
  have it2 := it.mono g2
  have o2 : OutE g (m1 ++ [L]) (upd H1 L (.lst [])) σ Q (lcLoop gd h1.length T C A (wipeD ds own) its (h1 ++ [.lst []])) := OutE.mono o1 g2
  generalize (m1 ++ [L]) = m2 at rh2 g2 hl s2 it2 o2
  generalize (upd H1 L (.lst [])) = H2 at rh2 g2 s2 it2 o2 ⊢
  generalize h1.length = l at hl o2
  generalize (h1 ++ [AO.lst []]) = h2 at rh2 o2
  refine ⟨fun i k H => k = its.length - i ∧ i ≤ its.length ∧ ∃ m h, Grow m2 H2 m H ∧ RepH g.K m H h ∧ OutE g m H σ Q (lcLoop gd l T C A (wipeD ds own) (its.drop i) h), ⟨_, rfl, Nat.zero_le _, m2, h2, .refl _ _, rh2, o2⟩, ?_⟩
  rintro i k H3 ⟨rfl, hi, m3, h3, g3, rh3, o3⟩
  have hl3 : m3[l]? = some L := by
    obtain ⟨⟨r, rfl⟩, _, _, _⟩ := g3
    obtain ⟨q, _⟩ := List.getElem?_eq_some_iff.mp hl
    rw [List.getElem?_append_left q]; exact hl
  by_cases hlt : i < its.length
  · have hd : its.drop i = its[i] :: its.drop (i + 1) := List.drop_eq_getElem_cons hlt
    rw [hd] at o3
    unfold lcLoop at o3
    by_cases hgd : gd h3
    · rw [if_pos hgd] at o3
      obtain ⟨f1, _⟩ := it2 i m3 H3 h3 g3 rh3 hgd
      obtain ⟨go, yl⟩ := f1 its[i] (List.getElem?_eq_getElem hlt)
      refine .inr ⟨go, fun H => ∃ m h, Grow m2 H2 m H ∧ RepH g.K m H h ∧ OutE g m H σ Q (lcLoop gd l T C A (wipeD ds own) (its.drop (i + 1)) h), fun H' ⟨m', h', w⟩ => ⟨its.length - (i + 1), by omega, rfl, hlt, m', h', w⟩, fun x H4 y => ?_⟩
      obtain ⟨g4, r4, rh4⟩ := yl x H4 y
      cases w : T its[i] (wipeD ds own) h3 with
      | nx ds5 h5 =>
        rw [w] at o3
        obtain rfl := ct.keep _ _ _ _ _ w
        refine ct.run m3 its[i] (wipeD ds own) ds5 h5 h5 x σ H4 _ r4 (((s2.mono g3).mono g4).wipe own) w fun σ5 hw5 s5 => ?_
        have o5 := OutE.mono o3 g4
        refine ⟨m3, ds5, h5, s5, rh4, ?_⟩
        have gg := g3.trans g4
        change OutE g m3 H4 σ Q ((C ds5 h5).noX.bind _) at o5
        cases c5 : C ds5 h5 with
        | exc c h6 => rw [c5] at o5; exact o5.elim
        | bad => rw [c5] at o5; exact o5
        | ok b h6 =>
          rw [c5, R.noX_ok, R.bind_ok] at o5
          intro m6 H6 g6 rh6
          cases b with
          | false =>
            rw [if_neg Bool.false_ne_true] at o5 ⊢
            exact ⟨m6, h6, gg.trans g6, rh6, OutE.mono o5 g6⟩
          | true =>
            rw [if_pos rfl] at o5 ⊢
            refine ⟨m6, ds5, h6, s5.mono g6, rh6, ?_⟩
            cases a6 : A ds5 h6 with
            | exc c h7 => rw [a6] at o5; exact o5.elim
            | bad => rw [a6] at o5; exact o5
            | ok yd h7 =>
              rw [a6, R.noX_ok, R.bind_ok] at o5
              intro yv m7 H7 g7 r7 rh7
              have hl7 : m7[l]? = some L := by
                obtain ⟨⟨r, rfl⟩, _, _, _⟩ := g4.trans (g6.trans g7)
                obtain ⟨q, _⟩ := List.getElem?_eq_some_iff.mp hl3
                rw [List.getElem?_append_left q]; exact hl3
              cases e7 : h7[l]? with
              | none => rw [e7] at o5; exact o5.elim
              | some ao =>
                cases ao with
                | lst acc =>
                  rw [e7] at o5
                  change OutE g m3 H4 σ Q (if acc.length < LIM then _ else _) at o5
                  by_cases hz : acc.length < LIM
                  · rw [if_pos hz] at o5
                    obtain ⟨vs, hv, rl⟩ := rh7.lst hl7 e7
                    have w8 : Grow m7 H7 m7 (upd H7 L (.lst (vs ++ [yv]))) := .write hv (fun _ z => nomatch z) (fun _ _ z => nomatch z) (fun _ z => nomatch z)
                    have rh8 : RepH g.K m7 (upd H7 L (.lst (vs ++ [yv]))) (h7.set l (.lst (acc ++ [yd]))) :=
                      rh7.write hl7 hv (fun _ z => nomatch z) (fun _ _ z => nomatch z) (fun _ z => nomatch z) ⟨_, upd_same, (rl.append (.cons r7 .nil)).mono w8⟩
                    refine ⟨vs, hv, ?_, m7, _, (gg.trans (g6.trans g7)).trans w8, rh8, OutE.mono o5 ((g6.trans g7).trans w8)⟩
                    rw [rl.length, sizeLine_eq]; exact hz
                  · rw [if_neg hz] at o5; exact o5.elim
                | _ => rw [e7] at o5; exact (show False from o5).elim
      | _ => rw [w] at o3; exact (show False from o3).elim
    · rw [if_neg hgd] at o3; exact o3.elim
  · have e : i = its.length := by omega
    subst e
    rw [List.drop_length] at o3
    unfold lcLoop at o3
    by_cases hgd : gd h3
    · rw [if_pos hgd] at o3
      exact .inl ⟨(it2 _ m3 H3 h3 g3 rh3 hgd).2 (Nat.le_refl _), o3 _ m3 H3 (.refl _ _) (by unfold RepV; exact ⟨L, hl3, rfl⟩) rh3⟩
    · rw [if_neg hgd] at o3; exact o3.elim
/-- tests of a clause -/
theorem tms_nil {X : Cx} {g : Cfg} : PTs X [] (tT g yesM) := ⟨fun _ _ _ H _ I ⟨m, ds, h, hs, rh, o⟩ => wpAny_tests_nil ⟨H, I, o m H (.refl _ _) rh⟩⟩
theorem tms_one {X : Cx} {g : Cfg} {c : Expr} {C : TM} (h : PT X c (tT g C)) : PTs X [c] (tT g C) := pts_one h
section
variable {X : Cx} {g : Cfg} {tg elt iter : Expr} {ifs : List Expr} {scope : Scope} {own : List (Str × Nat)} {pos spos py : Pos} {I : IM} {T : GM} {C : TM} {A : EM} {t : TG}
theorem em_lc (hc : X.calm = true) (hN : X.N.Nodup) (hi : PI X tg iter (tI g I)) (ok : BlkOk X.N X.env.scope scope own) (ct : CT g.K (own.map (·.2)) t T)
    (hg : ∀ (s : Shared) (H : Hp) (C : Addr) (cl : List (Str × Addr)) (fp : List Addr), PG (X.blk s H scope (compEnvC scope cl C X.env) fp) tg t)
    (ht : ∀ (s : Shared) (H : Hp) (Ca : Addr) (cl : List (Str × Addr)) (fp : List Addr), PTs (X.blk s H scope (compEnvC scope cl Ca X.env) fp) ifs (tT (noW g.K) C))
    (he : ∀ (s : Shared) (H : Hp) (C : Addr) (cl : List (Str × Addr)) (fp : List Addr), PE (X.blk s H scope (compEnvC scope cl C X.env) fp) elt (tM (noW g.K) A)) (hs : ∀ x, foldedSetIterable iter X.env x = pure x := by intro _; rfl) :
    PE X (.ListComp elt [⟨tg, iter, ifs, 0⟩] scope pos) (tM g (lcM (own.map (·.2)) I T C A)) := PE.weak (pe_lc hc hN hi ok hg ht he hs) fun σ H Q q => lc_read q ct
end
/-- what a def makes of its arguments and the objects -/
abbrev Fm := List D → Hs → R D
def OutC (K : PySem.W.Frag) (m : List Addr) (H : Hp) (Q : VK) (E : XK) : R D → Prop
  | .ok d h' => ∀ v m' H', Grow m H m' H' → RepV K m' H' d v → RepH K m' H' h' → Q v H'
  | .exc c h' => ∀ m' H', Grow m H m' H' → RepH K m' H' h' → E (.ref (He.ga K c)) none H'
  | .bad => False
def spM (K : PySem.W.Frag) (n : Nat) (φ : Fm) : Sp := fun vs H Q E => vs.length = n ∧ ∃ m ds h, RepL K m H ds vs ∧ RepH K m H h ∧ OutC K m H Q E (φ ds h)
def callM (φ : Fm) (A : AM) : EM := fun ds h => (A ds h).bind fun xs h => φ xs h
theorem callS_read {g : Cfg} {n : Nat} {φ : Fm} {As : AM} {σ : St} {H : Hp} {Q : VK} (ar : ∀ xs h, xs.length ≠ n → φ xs h = .bad) (q : tM g (callM φ As) σ H Q) : tCallS (spM g.K n φ) (WE g.W) (tA g As) σ H Q := by
  obtain ⟨m, ds, h, hs, rh, o⟩ := q
  refine ⟨m, ds, h, hs, rh, OutA.toE o fun xs h' vs m' H' w rl rh' o' => ?_⟩
  by_cases hl : xs.length = n
  · refine ⟨by rw [rl.length]; exact hl, m', xs, h', rl, rh', ?_⟩
    cases e : φ xs h' with
    | ok d h2 => rw [e] at o'; exact o'
    | exc c h2 => rw [e] at o'; exact o'
    | bad => rw [e] at o'; exact o'
  · rw [ar _ _ hl] at o'; exact o'.elim
/-- a def of the top, as its callers see it: at this level it does φ -/
structure FnAt (P : Program) (w : World) (K : PySem.W.Frag) (mg : Str → Option Value) (base : Heap) (k : Nat) (x : Str) (ps : List Str) (φ : Fm) : Prop where
  ex : ∃ f fd, mg x = some (.ref f) ∧ PySem.W.keepIn K (.ref f) = true ∧ Binds K fd ps [] ∧ FnOk P w K mg base (L2.CX P w) k f fd ps (spM K ps.length φ)
  ar : ∀ xs h, xs.length ≠ ps.length → φ xs h = .bad
section
variable {X : Cx} {g : Cfg} {e : Expr} {es : List Expr} {As : AM} {x : Str} {p pos : Pos} {k : Nat} {ps : List Str} {φ : Fm}
theorem em_call (F : FnAt X.prog X.w X.K X.mg X.base k x ps φ) (hK : X.K = g.K) (hr : Room k X.A) (tk : Takes X g.W) (hg : Gl X x) (ha : PA X (e :: es) (tA g As)) (hdb : (x == ("__debug__" : Str)) = false := by decide) (he : starEach (e :: es) X.env = (false, eval e X.env) :: starEach es X.env := by rfl) (hpl : (backTo pos (starEach es X.env)).any (·.1) = false := by rfl) :
    PE X (.Call (.Name x p) (e :: es) [] pos) (tM g (callM φ As)) := by
  obtain ⟨f, fd, hm, hk, hb, G⟩ := F.ex
  rw [hK] at G
  refine PE.weak (pe_callS (E := WE g.W) (by rw [hK]; exact G) hr hg hm hk hb (passAt tk) ha hdb he hpl) fun σ H Q q => callS_read F.ar q
end
end DV
namespace DV
open PySem PySem.Spec PyProof.Rows L2
mutual
def noloc : D → Bool
  | .loc _ => false
  | .tup ds => nolocL ds
  | .non => true
  | .bl _ => true
  | .int _ => true
  | .str _ => true
  | .ro _ => true
  | .exn _ => true
def nolocL : List D → Bool
  | [] => true
  | d :: ds => noloc d && nolocL ds
end
section
variable {K : PySem.W.Frag}
mutual
theorem RepV.free {m m' : List Addr} {H : Hp} : ∀ {d : D} {v : V}, noloc d = true → RepV K m H d v → RepV K m' H d v
  | .non, _, _, h => h
  | .bl _, _, _, h => h
  | .int _, _, _, h => h
  | .str _, _, _, h => h
  | .ro _, _, _, h => h
  | .exn _, _, _, h => h
  | .tup ds, v, n, h => by
    unfold RepV at h ⊢
    obtain ⟨a, xs, e, ha, hl⟩ := h
    exact ⟨a, xs, e, ha, RepL.free (by unfold noloc at n; exact n) hl⟩
  | .loc l, v, n, h => by unfold noloc at n; cases n
theorem RepL.free {m m' : List Addr} {H : Hp} : ∀ {ds : List D} {xs : List V}, nolocL ds = true → RepL K m H ds xs → RepL K m' H ds xs
  | [], _, _, h => h
  | d :: ds, xs, n, h => by
    unfold RepL at h ⊢
    unfold nolocL at n
    obtain ⟨n1, n2⟩ := Bool.and_eq_true_iff.mp n
    obtain ⟨x, r, e, h1, h2⟩ := h
    exact ⟨x, r, e, RepV.free n1 h1, RepL.free n2 h2⟩
end
mutual
/-- what stood for it by fewer numbers still does -/
theorem RepV.shrink {m0 r : List Addr} {H0 H : Hp} : ∀ {d : D} {v0 v : V}, RepV K m0 H0 d v0 → RepV K (m0 ++ r) H d v → RepV K m0 H d v
  | .non, _, _, _, h => h
  | .bl _, _, _, _, h => h
  | .int _, _, _, _, h => h
  | .str _, _, _, _, h => h
  | .ro _, _, _, _, h => h
  | .exn _, _, _, _, h => h
  | .tup ds, v0, v, n, h => by
    unfold RepV at h n ⊢
    obtain ⟨a0, xs0, _, _, hl0⟩ := n
    obtain ⟨a, xs, e, ha, hl⟩ := h
    exact ⟨a, xs, e, ha, RepL.shrink hl0 hl⟩
  | .loc l, v0, v, n, h => by
    unfold RepV at h n ⊢
    obtain ⟨a0, ha0, _⟩ := n
    obtain ⟨a, ha, e⟩ := h
    obtain ⟨hl, _⟩ := List.getElem?_eq_some_iff.mp ha0
    rw [List.getElem?_append_left hl] at ha
    exact ⟨a, ha, e⟩
theorem RepL.shrink {m0 r : List Addr} {H0 H : Hp} : ∀ {ds : List D} {xs0 xs : List V}, RepL K m0 H0 ds xs0 → RepL K (m0 ++ r) H ds xs → RepL K m0 H ds xs
  | [], _, _, _, h => h
  | d :: ds, xs0, xs, n, h => by
    unfold RepL at h n ⊢
    obtain ⟨x0, r0, _, n1, n2⟩ := n
    obtain ⟨x, r, e, h1, h2⟩ := h
    exact ⟨x, r, e, RepV.shrink n1 h1, RepL.shrink n2 h2⟩
end
theorem RepO.shrink {m0 r : List Addr} {H0 H : Hp} {a a0 : Addr} {o : AO} (n : RepO K m0 H0 a0 o) (h : RepO K (m0 ++ r) H a o) : RepO K m0 H a o := by
  cases o with
  | lst ds => obtain ⟨xs0, _, n⟩ := n; obtain ⟨xs, e, h⟩ := h; exact ⟨xs, e, n.shrink h⟩
  | dct kvs => obtain ⟨xs0, _, _, n⟩ := n; obtain ⟨xs, e, k, h⟩ := h; exact ⟨xs, e, k, n.shrink h⟩
  | fdc kvs => obtain ⟨_, xs0, _, _, n⟩ := n; obtain ⟨ob, xs, e, k, h⟩ := h; exact ⟨ob, xs, e, k, n.shrink h⟩
  | dcT kvs => obtain ⟨xs0, _, _, n⟩ := n; obtain ⟨xs, e, k, h⟩ := h; exact ⟨xs, e, k, n.shrink h⟩
  | ins C fs => obtain ⟨_, xs0, _, _, n⟩ := n; obtain ⟨dx, xs, e, k, h⟩ := h; exact ⟨dx, xs, e, k, n.shrink h⟩
/-- an object without numbers in it -/
def nolocO : AO → Bool
  | .lst ds => nolocL ds
  | .dct kvs => nolocL (kvs.map (·.2))
  | .fdc kvs => nolocL (kvs.map (·.2))
  | .dcT kvs => nolocL (kvs.map (·.2))
  | .ins _ fs => nolocL (fs.map (·.2))
theorem RepO.free {m m' : List Addr} {H : Hp} {a : Addr} {o : AO} (n : nolocO o = true) (h : RepO K m H a o) : RepO K m' H a o := by
  cases o with
  | lst ds => obtain ⟨xs, e, h⟩ := h; exact ⟨xs, e, h.free n⟩
  | dct kvs => obtain ⟨xs, e, k, h⟩ := h; exact ⟨xs, e, k, h.free n⟩
  | fdc kvs => obtain ⟨ob, xs, e, k, h⟩ := h; exact ⟨ob, xs, e, k, h.free n⟩
  | dcT kvs => obtain ⟨xs, e, k, h⟩ := h; exact ⟨xs, e, k, h.free n⟩
  | ins C fs => obtain ⟨dx, xs, e, k, h⟩ := h; exact ⟨dx, xs, e, k, h.free n⟩
theorem Grow.cut {m m' : List Addr} {H H' : Hp} (g : Grow m H m' H') : Grow m H m H' := ⟨⟨[], by simp⟩, g.tup, g.frz, g.ext⟩
/-- back to the old objects, each as it was or without numbers -/
theorem RepH.cut {m m' : List Addr} {H H' : Hp} {h h' : Hs} (r0 : RepH K m H h) (r : RepH K m' H' h') (g : Grow m H m' H') (c : ∀ (i : Nat) (o : AO), i < h.length → h'[i]? = some o → h[i]? = some o ∨ nolocO o = true) : RepH K m H' (h'.take h.length) := by
  obtain ⟨⟨q, rfl⟩, _, _⟩ := g
  have l1 := r.len
  have l0 := r0.len
  rw [List.length_append] at l1
  refine ⟨by rw [List.length_take]; omega, (List.nodup_append.mp r.nd).1, fun i a o hi ho => ?_⟩
  obtain ⟨hl, _⟩ := List.getElem?_eq_some_iff.mp hi
  have hlt : i < h.length := by omega
  rw [List.getElem?_take_of_lt hlt] at ho
  have ro := r.at_ i a o (by rw [List.getElem?_append_left hl]; exact hi) ho
  rcases c i o hlt ho with e | e
  · exact (r0.at_ i a o hi e).shrink ro
  · exact ro.free e
end
open Classical in
/-- nothing is changed, a value without objects comes back -/
noncomputable def nPure (φ : Fm) : Fm := fun xs h => match φ xs h with
  | .ok d h' => if noloc d = true ∧ h'.take h.length = h then .ok d h else .bad
  | .exc c h' => if h'.take h.length = h then .exc c h else .bad
  | .bad => .bad
open Classical in
/-- nothing is changed, a new list or dict comes back, without objects in it -/
noncomputable def nNew (φ : Fm) : Fm := fun xs h => match φ xs h with
  | .ok (.loc l) h' => (match h'[l]? with
    | some o => if h.length ≤ l ∧ h'.take h.length = h ∧ nolocO o = true then .ok (.loc h.length) (h ++ [o]) else .bad
    | none => .bad)
  | .exc c h' => if h'.take h.length = h then .exc c h else .bad
  | _ => .bad
section
variable {K : PySem.W.Frag} {m : List Addr} {H : Hp} {Q : VK} {E : XK} {φ : Fm} {xs : List D} {h : Hs}
theorem take_same {h h' : Hs} (e : h'.take h.length = h) : ∀ (i : Nat) (o : AO), i < h.length → h'[i]? = some o → h[i]? = some o ∨ nolocO o = true := fun i o hl ho => .inl (by
  rw [← List.getElem?_take_of_lt hl, e] at ho; exact ho)
theorem nPure_ok (rh : RepH K m H h) (o : OutC K m H Q E (nPure φ xs h)) : OutC K m H Q E (φ xs h) := by
  unfold nPure at o
  cases q : φ xs h with
  | ok d h' =>
    rw [q] at o
    simp only at o
    split at o
    · rename_i c
      intro v m' H' g rv rh'
      have := rh.cut rh' g (take_same c.2)
      rw [c.2] at this
      exact o v m H' g.cut (rv.free c.1) this
    · exact o.elim
  | exc c h' =>
    rw [q] at o
    simp only at o
    split at o
    · rename_i e
      intro m' H' g rh'
      have := rh.cut rh' g (take_same e)
      rw [e] at this
      exact o m H' g.cut this
    · exact o.elim
  | bad => rw [q] at o; exact o
theorem nNew_ok (rh : RepH K m H h) (o : OutC K m H Q E (nNew φ xs h)) : OutC K m H Q E (φ xs h) := by
  unfold nNew at o
  cases q : φ xs h with
  | ok d h' =>
    rw [q] at o
    cases d with
    | loc l =>
      cases e : h'[l]? with
      | none => simp only [e] at o; exact o.elim
      | some ob =>
        simp only [e] at o
        split at o
        · rename_i c
          obtain ⟨c1, c2, c3⟩ := c
          intro v m' H' g rv rh'
          unfold RepV at rv
          obtain ⟨a, ha, rfl⟩ := rv
          have r1 := rh.cut rh' g (take_same c2)
          rw [c2] at r1
          have ro : RepO K (m ++ [a]) H' a ob := (rh'.at_ l a ob ha e).free c3
          have hn : a ∉ m := fun hm => by
            obtain ⟨⟨q, rfl⟩, _, _⟩ := g
            obtain ⟨i, hi⟩ := List.mem_iff_getElem?.mp hm
            obtain ⟨hl, e1⟩ := List.getElem?_eq_some_iff.mp hi
            have hi' : (m ++ q)[i]? = some a := by rw [List.getElem?_append_left hl]; exact hi
            obtain ⟨q1, e1⟩ := List.getElem?_eq_some_iff.mp hi'
            obtain ⟨q2, e2⟩ := List.getElem?_eq_some_iff.mp ha
            have := (List.getElem_inj rh'.nd).mp (e1.trans e2.symm)
            have := rh.len
            omega
          refine o (.ref a) (m ++ [a]) H' ⟨⟨[a], rfl⟩, g.tup, g.frz, g.ext⟩ (by unfold RepV; exact ⟨a, by rw [← rh.len]; simp, rfl⟩) ⟨by simp [rh.len], ?_, fun i b ob' hi hb => ?_⟩
          · exact List.nodup_append.mpr ⟨r1.nd, by simp, fun x hx y hy z => hn (by simp at hy; rw [← hy, ← z]; exact hx)⟩
          · by_cases hl : i < m.length
            · rw [List.getElem?_append_left hl] at hi
              rw [List.getElem?_append_left (by rw [← rh.len]; exact hl)] at hb
              exact (r1.at_ i b ob' hi hb).keep ⟨⟨[a], rfl⟩, fun _ _ z => z, fun _ _ _ z => z, fun _ _ z => z⟩ rfl
            · have hz : i = m.length := by
                obtain ⟨q, _⟩ := List.getElem?_eq_some_iff.mp hi
                simp at q; omega
              subst hz
              simp at hi
              rw [rh.len] at hb
              simp at hb
              subst hi hb
              exact ro
        · exact o.elim
    | _ => exact (show False from o).elim
  | exc c h' =>
    rw [q] at o
    simp only at o
    split at o
    · rename_i e
      intro m' H' g rh'
      have := rh.cut rh' g (take_same e)
      rw [e] at this
      exact o m H' g.cut this
    · exact o.elim
  | bad => rw [q] at o; exact o
end
/-- a kind of end -/
structure Nrm where
  f : Fm → Fm
  ok : ∀ (K : PySem.W.Frag) (m : List Addr) (H : Hp) (Q : VK) (E : XK) (φ : Fm) (xs : List D) (h : Hs), RepH K m H h → OutC K m H Q E (f φ xs h) → OutC K m H Q E (φ xs h)
  ar : ∀ (φ : Fm) (n : Nat), (∀ xs h, xs.length ≠ n → φ xs h = .bad) → ∀ xs h, xs.length ≠ n → f φ xs h = .bad
noncomputable def kPure : Nrm := ⟨nPure, fun _ _ _ _ _ _ _ _ => nPure_ok, fun φ n a xs h l => by unfold nPure; rw [a xs h l]⟩
noncomputable def kNew : Nrm := ⟨nNew, fun _ _ _ _ _ _ _ _ => nNew_ok, fun φ n a xs h l => by unfold nNew; rw [a xs h l]⟩
def kRaw : Nrm := ⟨fun φ => φ, fun _ _ _ _ _ _ _ _ _ o => o, fun _ _ a => a⟩
def startD (nN : Nat) (xs : List D) : Sl := xs.map some ++ List.replicate (nN - xs.length) none
def runM (np nN : Nat) (M : SM) : Fm := fun xs h => if xs.length = np then (match M (startD nN xs) h with
  | .nx _ h => .ok .non h
  | .rt d h => .ok d h
  | .exc c _ h => .exc c h
  | _ => .bad) else .bad
theorem runM_ar (np nN : Nat) (M : SM) : ∀ xs h, xs.length ≠ np → runM np nN M xs h = .bad := fun xs h l => if_neg l
theorem repS_start {K : PySem.W.Frag} {m : List Addr} {H : Hp} {N : List Str} : ∀ {xs : List D} {vs : List V}, RepL K m H xs vs → RepS K m H (startD N.length xs) (start N vs) := by
  intro xs vs r
  have rep : ∀ n : Nat, RepS K m H (List.replicate n none) (List.replicate n none) := fun n => by
    induction n with
    | zero => exact trivial
    | succ n ih => exact ⟨fun d e => (nomatch e), ih⟩
  have gen : ∀ (n : Nat) (xs : List D) (vs : List V), RepL K m H xs vs → RepS K m H (xs.map some ++ List.replicate n none) (vs.map some ++ List.replicate n none) := by
    intro n xs
    induction xs with
    | nil => intro vs r; unfold RepL at r; subst r; exact rep n
    | cons x xs ih =>
      intro vs r
      unfold RepL at r
      obtain ⟨v, vr, rfl, h1, h2⟩ := r
      exact ⟨fun d e => by cases e; exact ⟨v, rfl, h1⟩, ih vr h2⟩
  unfold startD L2.start
  rw [r.length]
  exact gen _ xs vs r
section
variable {P : Program} {w : World} {K : PySem.W.Frag} {mg : Str → Option Value} {base : Heap} {x qual : Str} {params : Arguments} {body : List Stmt} {scope : Scope} {f : Addr} {fd : FuncData}
theorem def_ok {N ps : List Str} {k : Nat} {M : SM} (kd : Nrm) (F : FunD K x qual params body scope [] [] f fd) (S : FnScope N ps scope)
    (hb : ∀ (cdv : Value) (A : Around) (outer : List Env) (s : Shared) (H : Hp) (E : XK) (W : WX), Room k (A.deeper (envOfC qual scope s.heap.objs.size f cdv)) → Takes (cxOf (L2.CX P w) P w K mg base N qual scope f cdv A outer s H E) W →
      PSs (cxOf (L2.CX P w) P w K mg base N qual scope f cdv A outer s H E) body (tS ⟨K, W⟩ M)) : FnOk P w K mg base (L2.CX P w) (k + 1) f fd ps (spM K ps.length (kd.f (runM ps.length N.length M))) := by
  refine F.ok S (fun vs H Q E h => h.1) fun cdv A outer s H vs Q E hr h => ?_
  obtain ⟨hl, m, ds, hs, rl, rh, o⟩ := h
  have o := kd.ok K m H Q E _ ds hs rh o
  refine ⟨_, hb cdv A outer s H E (fun cls d _ H => E cls d H) hr (takes_of rfl rfl rfl rfl), m, startD N.length ds, hs, repS_start rl, rh, ?_⟩
  unfold runM at o
  rw [if_pos (by rw [← rl.length]; exact hl)] at o
  cases q : M (startD N.length ds) hs with
  | nx ds1 h1 => rw [q] at o; exact fun σ' m' H' g r rh' => o .non m' H' g (by unfold RepV; rfl) rh'
  | rt d h1 => rw [q] at o; exact fun v m' H' g r rh' => o v m' H' g r rh'
  | exc c ds1 h1 => rw [q] at o; exact fun σ' m' H' g r rh' => o m' H' g rh'
  | bk ds1 h1 => rw [q] at o; exact o.elim
  | ct ds1 h1 => rw [q] at o; exact o.elim
  | bad => rw [q] at o; exact o.elim
/-- nothing is told at level 0 -/
theorem fnAt_zero {ps : List Str} (F : FunD K x qual params body scope [] [] f fd) (hm : mg x = some (.ref f)) (hb : Binds K fd ps []) : FnAt P w K mg base 0 x ps fun _ _ => .bad :=
  ⟨⟨f, fd, hm, F.kp, hb, ⟨fun vs H Q E h => h.1, fun A outer s H args us vs Q E _ _ _ _ h => by obtain ⟨_, m, ds, hs, _, _, o⟩ := h; exact o.elim⟩⟩, fun _ _ _ => rfl⟩
end
end DV
namespace DV
open PySem PySem.Spec PyProof.Rows L2
def intF (g : Int → Int → Option D) : VF2
  | .int i, .int j, h => (g i j).map fun d => (d, h)
  | _, _, _ => none
theorem intF_inv {g : Int → Int → Option D} {x y : D} {h : Hs} {p : D × Hs} (e : intF g x y h = some p) : ∃ i j d, x = .int i ∧ y = .int j ∧ g i j = some d ∧ p = (d, h) := by
  unfold intF at e
  split at e
  · rename_i i j
    cases q : g i j with
    | none => rw [q] at e; cases e
    | some d => rw [q] at e; exact ⟨i, j, d, rfl, rfl, q, (Option.some.inj e).symm⟩
  · cases e
def ipF (C : Int → Int → Bool) (g : Int → Int → Int) : VF2 := intF fun i j => if C i j = true then some (.int (g i j)) else none
def cmpF (p : Int → Int → Bool) : VF2 := intF fun i j => some (.bl (p i j))
noncomputable def cMul (i j : Int) : Bool := cB ((-18446744073709551616 < i ∧ i < 18446744073709551616) ∨ (-18446744073709551616 < j ∧ j < 18446744073709551616))
noncomputable def cDiv (_ j : Int) : Bool := cB (0 < j ∧ j < 1073741824)
noncomputable def cMod (_ j : Int) : Bool := cB (0 < j)
noncomputable def cPow (i j : Int) : Bool := cB (0 ≤ j ∧ j ≤ 1000000 ∧ i.natAbs < 18446744073709551616)
def subF : VF2 := ipF (fun _ _ => true) fun i j => i - j
noncomputable def fdivF : VF2 := ipF cDiv fun i j => i / j
noncomputable def modF : VF2 := ipF cMod fun i j => i % j
noncomputable def powF : VF2 := ipF cPow fun i j => i ^ j.toNat
def ltF : VF2 := cmpF fun i j => decide (i < j)
def gtF : VF2 := cmpF fun i j => decide (j < i)
def negF : D → Hs → Res
  | .int i, h => some (.int (-i), h)
  | _, _ => none
section
variable {X : Cx} {K : PySem.W.Frag} {f : Value → Value → Sem Value}
theorem ip_ok {C : Int → Int → Bool} {P : Int → Int → Prop} {g : Int → Int → Int} (op : OpR X f (rI P fun i j => .int (g i j))) (hc : ∀ i j, C i j = true → P i j) : OpR X f (rV K (ipF C g)) := by
  intro pns s σ H x y v u Q I rx ry h
  obtain ⟨m, hs, dx, dy, r1, r2, rh, o⟩ := h
  cases e : ipF C g dx dy hs with
  | none => rw [e] at o; exact o.elim
  | some p =>
    rw [e] at o
    obtain ⟨i, j, d, rfl, rfl, q, rfl⟩ := intF_inv e
    unfold RepV at r1 r2
    subst r1 r2
    split at q
    · rename_i c
      cases q
      exact op pns s σ H _ _ v u Q I rx ry ⟨i, j, rfl, rfl, hc i j c, o _ m H (.refl _ _) (by unfold RepV; rfl) rh⟩
    · cases q
theorem cmp_ok {p : Int → Int → Bool} (op : OpR X f (rI0 fun i j => .bl (p i j))) : OpR X f (rV K (cmpF p)) := by
  intro pns s σ H x y v u Q I rx ry h
  obtain ⟨m, hs, dx, dy, r1, r2, rh, o⟩ := h
  cases e : cmpF p dx dy hs with
  | none => rw [e] at o; exact o.elim
  | some q =>
    rw [e] at o
    obtain ⟨i, j, d, rfl, rfl, q, rfl⟩ := intF_inv e
    unfold RepV at r1 r2
    subst r1 r2
    cases q
    exact op pns s σ H _ _ v u Q I rx ry ⟨i, j, rfl, rfl, o _ m H (.refl _ _) (by unfold RepV; rfl) rh⟩
theorem o_sub : OpR X (binaryOp .Sub) (rV K subF) := ip_ok (P := fun _ _ => True) (fun pns s σ H x y v u Q I rx ry ⟨i, j, e1, e2, _, q⟩ => op_sub pns s σ H x y v u Q I rx ry ⟨i, j, e1, e2, q⟩) fun _ _ _ => trivial
theorem o_fdiv : OpR X (binaryOp .FloorDiv) (rV K fdivF) := ip_ok op_fdiv fun i j h => cB_iff.mp h
theorem o_mod : OpR X (binaryOp .Mod) (rV K modF) := ip_ok op_mod fun i j h => cB_iff.mp h
theorem o_pow : OpR X (binaryOp .Pow) (rV K powF) := ip_ok op_pow fun i j h => cB_iff.mp h
theorem o_lt : OpR X (compareOp .Lt) (rV K ltF) := cmp_ok op_lt
theorem o_gt : OpR X (compareOp .Gt) (rV K gtF) := cmp_ok op_gt
end
theorem em_neg {X : Cx} {g : Cfg} {a : Expr} {A : EM} {pos : Pos} (ha : PE X a (tM g A)) : PE X (.UnaryOp .USub a pos) (tM g (unM negF A)) := by
  refine PE.weak (pe_un un_neg ha) fun σ H Q ⟨m, ds, h, hs, rh, o⟩ => ⟨m, ds, h, hs, rh, OutE.toE o fun d h1 v m1 H1 g1 r1 rh1 o1 => ?_⟩
  cases d with
  | int i => unfold RepV at r1; exact ⟨i, r1, o1 _ m1 H1 (.refl _ _) (by unfold RepV; rfl) rh1⟩
  | _ => exact (show False from o1).elim
def addF : VF2
  | .int i, .int j, h => some (.int (i + j), h)
  | .str a, .str b, h => if a.length + b.length ≤ LIM then some (.str (a ++ b), h) else none
  | .tup xs, .tup ys, h => if xs.length + ys.length ≤ LIM then some (.tup (xs ++ ys), h) else none
  | .loc a, .loc b, h => match h[a]?, h[b]? with
    | some (.lst xs), some (.lst ys) => if xs.length + ys.length ≤ LIM then some (.loc h.length, h ++ [.lst (xs ++ ys)]) else none
    | _, _ => none
  | .ro ns, .loc b, h => match h[b]? with
    | some (.lst ys) => if ns.length + ys.length ≤ LIM then some (.loc h.length, h ++ [.lst (ns.map D.int ++ ys)]) else none
    | _ => none
  | _, _, _ => none
section
variable {X : Cx} {K : PySem.W.Frag}
/-- list + list, read at any list -/
theorem op_catL : OpR X (binaryOp .Add) (fun x y H Q => ∃ l b xs zs, x = .ref l ∧ y = .ref b ∧ SqL X.K H l xs ∧ SqL X.K H b zs ∧ xs.length + zs.length ≤ sizeLine ∧ ∀ p, H p = none → Q (.ref p) (upd H p (.lst (xs ++ zs)))) := by
  intro pns s σ H x y v u Q I rx ry h
  obtain ⟨l, b, xs, zs, rfl, rfl, hH, hB, hz, q⟩ := h
  cases rx
  cases ry
  obtain ⟨its, r, pl, z⟩ := I.list hH
  obtain ⟨its2, r2, pl2, z2⟩ := I.list hB
  have hl := r.length
  have hl2 := r2.length
  obtain ⟨⟨cls, dd, data, sl⟩, ho, hc, n, hd⟩ := pl.isList
  obtain ⟨⟨cls2, dd2, data2, sl2⟩, ho2, hc2, n2, hd2⟩ := pl2.isList
  simp only at hc hd hc2 hd2
  subst hc hd hc2 hd2
  have e : its.toArray ++ its2.toArray = (its ++ its2).toArray := by simp
  refine concat_meets ⟨_, ho, rfl⟩ ⟨_, ho2, rfl⟩ noFill_list_add seq_list_add PySem.F.slot_list_add PySem.F.entry_list_add (PySem.F.args_list_add_2 _ _) (list_addW l b its.toArray its2.toArray n n2 dd dd2 sl sl2 (by simp only [List.size_toArray]; omega)) ⟨ho, ho2, ?_⟩
  rw [e]
  exact ⟨.ref _, _, I.lnew (t' := s.toks) (r.append r2) (by rw [List.length_append]; omega), rfl, q _ I.fresh⟩
theorem repL_ints {m : List Addr} {H : Hp} : ∀ ns : List Int, RepL K m H (ns.map D.int) (ns.map V.int)
  | [] => RepL.nil
  | n :: ns => .cons (by unfold RepV; rfl) (repL_ints ns)
/-- a list told, at its number -/
theorem new_lst' {m : List Addr} {H : Hp} {h : Hs} {xs : List D} {vs : List V} {p : Addr} {Q : VK} (rl : RepL K m H xs vs) (rh : RepH K m H h) (hp : H p = none) (o : OutV K m H Q (some (.loc h.length, h ++ [.lst xs]))) : Q (.ref p) (upd H p (.lst vs)) :=
  let ⟨q1, q2⟩ := new_lst (g := ⟨K, fun _ _ _ _ => False⟩) rl rh hp
  o _ _ _ (.app hp) q1 q2
theorem LIM_eq : sizeLine = LIM := sizeLine_eq
theorem o_add : OpR X (binaryOp .Add) (rV X.K addF) := by
  intro pns s σ H x y v u Q I rx ry h
  obtain ⟨m, hs, dx, dy, r1, r2, rh, o⟩ := h
  unfold addF at o
  split at o
  · unfold RepV at r1 r2
    subst r1 r2
    exact op_add pns s σ H _ _ v u Q I rx ry ⟨_, _, rfl, rfl, o _ m H (.refl _ _) (by unfold RepV; rfl) rh⟩
  · unfold RepV at r1 r2
    subst r1 r2
    split at o
    · rename_i hz
      exact op_add_str pns s σ H _ _ v u Q I rx ry ⟨_, _, rfl, rfl, by rw [LIM_eq]; exact hz, o _ m H (.refl _ _) (by unfold RepV; rfl) rh⟩
    · exact o.elim
  · unfold RepV at r1 r2
    obtain ⟨a, vs, rfl, ha, rl⟩ := r1
    obtain ⟨b, ws, rfl, hb, rl2⟩ := r2
    split at o
    · rename_i hz
      refine op_catA pns s σ H _ _ v u Q I rx ry ⟨a, b, vs, ws, rfl, rfl, SqT.of ha, SqT.of hb, by rw [LIM_eq, rl.length, rl2.length]; exact hz, fun e => ?_, fun e1 e => ?_, fun _ _ p hp => ?_⟩
      · have := rl.nil_iff.mp e
        subst this
        exact o _ m H (.refl _ _) (by unfold RepV; exact ⟨b, ws, rfl, hb, rl2⟩) rh
      · have := rl2.nil_iff.mp e
        subst this
        refine o _ m H (.refl _ _) ?_ rh
        show RepV X.K m H (.tup (_ ++ [])) _
        rw [List.append_nil]
        unfold RepV
        exact ⟨a, vs, rfl, ha, rl⟩
      · exact o _ m _ (.put hp) (by unfold RepV; exact ⟨p, _, rfl, upd_same, (rl.append rl2).mono (.put hp)⟩) (rh.put hp)
    · exact o.elim
  · unfold RepV at r1 r2
    obtain ⟨a, ha, rfl⟩ := r1
    obtain ⟨b, hb, rfl⟩ := r2
    split at o
    · rename_i xs ys e1 e2
      obtain ⟨vs, hv, rl⟩ := rh.lst ha e1
      obtain ⟨ws, hw, rl2⟩ := rh.lst hb e2
      split at o
      · rename_i hz
        exact op_catL pns s σ H _ _ v u Q I rx ry ⟨a, b, vs, ws, rfl, rfl, SqL.of hv, SqL.of hw, by rw [LIM_eq, rl.length, rl2.length]; exact hz, fun p hp => new_lst' (rl.append rl2) rh hp o⟩
      · exact o.elim
    · exact o.elim
  · unfold RepV at r1 r2
    obtain ⟨a, rfl, ha⟩ := r1
    obtain ⟨b, hb, rfl⟩ := r2
    split at o
    · rename_i ys e2
      obtain ⟨ws, hw, rl2⟩ := rh.lst hb e2
      split at o
      · rename_i hz
        exact op_catL pns s σ H _ _ v u Q I rx ry ⟨a, b, _, ws, rfl, rfl, ha.sq, SqL.of hw, by rw [LIM_eq, List.length_map, rl2.length]; exact hz, fun p hp => new_lst' ((repL_ints _).append rl2) rh hp o⟩
      · exact o.elim
    · exact o.elim
  · exact o.elim
/-- a text n times -/
def repS (z : Str) (n : Nat) : Str := ⟨((List.replicate n z.cps.toList).flatten).toArray⟩
theorem rep_fold (l : List Nat) : ∀ (k : Nat) (acc : List Nat), (List.replicate k l.toArray).foldl (fun p q => p ++ q) acc.toArray = (acc ++ (List.replicate k l).flatten).toArray
  | 0, acc => by simp
  | k + 1, acc => by
    have ih := rep_fold l k (acc ++ l)
    have e : acc.toArray ++ l.toArray = (acc ++ l).toArray := by simp
    rw [List.replicate_succ, List.foldl_cons, e, ih, List.replicate_succ, List.flatten_cons, List.append_assoc]
theorem rep_len (l : List Nat) (k : Nat) : (List.replicate k l).flatten.length = l.length * k := by
  induction k with
  | zero => simp
  | succ k ih => rw [List.replicate_succ, List.flatten_cons, List.length_append, ih, Nat.mul_succ, Nat.add_comm]
noncomputable def mulF : VF2
  | .int i, .int j, h => if cMul i j = true then some (.int (i * j), h) else none
  | .str z, .int j, h => if cB (-1000000 ≤ j ∧ j ≤ 1000000 ∧ z.length ≤ 1000000 ∧ z.length * j.toNat ≤ LIM) = true then some (.str (repS z j.toNat), h) else none
  | _, _, _ => none
theorem mul_strD {A : Around} {E : Value → Shared → Prop} {P : Program} {w : World} {s : Shared} {z : Str} {j : Int} {t u : Tok} {Q : Value → Shared → Prop} (c1 : -1000000 ≤ j) (c2 : j ≤ 1000000) (c3 : z.length ≤ 1000000) (c4 : z.length * j.toNat ≤ LIM)
    (q : ∀ t' tk, Q (.str (repS z j.toNat) t') { s with toks := tk }) : wpAny (model P w) A (binaryOp .Mult (.str z t) (.int j u)) Q E s := by
  have hz : z.length = z.cps.toList.length := by rw [Array.length_toList]; rfl
  refine PySem.P.mul_str (by rw [decide_eq_false (by omega), decide_eq_false (by omega)]; rfl) (fun h1 h2 h3 => ?_) (fun h1 h2 => ?_) ?_
  · have h5 : (1000000 : Int) ≤ (2 ^ 63 - 1) / j := (Int.le_ediv_iff_mul_le (by omega)).mpr (by omega)
    omega
  · show decide (_ > sizeLine) = false
    rw [LIM_eq]
    exact decide_eq_false (by omega)
  · have e1 : sizeLine = LIM := LIM_eq
    by_cases h1 : j < 1
    · rw [if_pos h1]
      have : j.toNat = 0 := by omega
      rw [this] at q
      exact ⟨by rw [e1]; decide, q _ _⟩
    · rw [if_neg h1]
      by_cases h2 : (j == 1 || z.length == 0) = true
      · rw [if_pos h2]
        have er : repS z j.toNat = z := by
          rcases Bool.or_eq_true_iff.mp h2 with h | h
          · have : j = 1 := eq_of_beq h
            subst this
            show (⟨((List.replicate 1 z.cps.toList).flatten).toArray⟩ : Str) = z
            simp
          · have h : z.length = 0 := eq_of_beq h
            have hl : z.cps.toList = [] := List.eq_nil_of_length_eq_zero (by omega)
            have hn : z.cps = #[] := Array.toList_inj.mp hl
            cases z with
            | mk cps => subst hn; unfold repS; simp
        have := q t s.toks
        rw [er] at this
        exact this
      · rw [if_neg h2]
        have ef : (List.replicate j.toNat z.cps).foldl (fun p q => p ++ q) #[] = ((List.replicate j.toNat z.cps.toList).flatten).toArray := by
          have := rep_fold z.cps.toList j.toNat []
          simpa using this
        refine ⟨?_, ?_⟩
        · rw [e1]
          show Array.size _ ≤ LIM
          rw [ef, List.size_toArray, rep_len, ← hz]
          exact c4
        · have := q s.toks (s.toks + 1)
          unfold repS at this
          rw [← ef] at this
          exact this
theorem o_mul : OpR X (binaryOp .Mult) (rV K mulF) := by
  intro pns s σ H x y v u Q I rx ry h
  obtain ⟨m, hs, dx, dy, r1, r2, rh, o⟩ := h
  unfold mulF at o
  split at o
  · unfold RepV at r1 r2
    subst r1 r2
    split at o
    · rename_i c
      refine op_mul pns s σ H _ _ v u Q I rx ry ⟨_, _, rfl, rfl, ?_, o _ m H (.refl _ _) (by unfold RepV; rfl) rh⟩
      exact cB_iff.mp c
    · exact o.elim
  · unfold RepV at r1 r2
    subst r1 r2
    split at o
    · rename_i c
      have c := cB_iff.mp c
      obtain ⟨t, rfl⟩ := rx
      obtain ⟨t', rfl⟩ := ry
      exact mul_strD c.1 c.2.1 c.2.2.1 c.2.2.2 fun t' tk => ⟨.str _, H, I.tok _, ⟨_, rfl⟩, o _ m H (.refl _ _) (by unfold RepV; rfl) rh⟩
    · exact o.elim
  · exact o.elim
end
mutual
/-- texts, numbers, None, and tuples of them -/
def pyOk : D → Bool
  | .non => true
  | .int _ => true
  | .str s => PyData.strOk s
  | .tup ds => pyOkL ds
  | .bl _ => false
  | .loc _ => false
  | .ro _ => false
  | .exn _ => false
def pyOkL : List D → Bool
  | [] => true
  | d :: ds => pyOk d && pyOkL ds
end
mutual
def depD : D → Nat
  | .tup ds => depL ds + 1
  | .non => 0
  | .int _ => 0
  | .str _ => 0
  | .bl _ => 0
  | .loc _ => 0
  | .ro _ => 0
  | .exn _ => 0
def depL : List D → Nat
  | [] => 0
  | d :: ds => max (depD d) (depL ds)
end
mutual
def toPy : D → PyData
  | .non => .none
  | .int i => .int i
  | .str s => .str s
  | .tup ds => .tuple (toPyL ds)
  | .bl b => .bool b
  | .loc _ => .none
  | .ro _ => .none
  | .exn _ => .none
def toPyL : List D → List PyData
  | [] => []
  | d :: ds => toPy d :: toPyL ds
end
mutual
theorem canLay_of : ∀ {d : D}, pyOk d = true → (toPy d).canLay0 = true
  | .non, _ => rfl
  | .int _, _ => rfl
  | .str s, k => by unfold pyOk at k; exact k
  | .tup ds, k => by unfold pyOk at k; exact canLay_ofL k
  | .bl _, _ => rfl
  | .loc _, _ => rfl
  | .ro _, _ => rfl
  | .exn _, _ => rfl
theorem canLay_ofL : ∀ {ds : List D}, pyOkL ds = true → PyData.canLayAll0 (toPyL ds) = true
  | [], _ => rfl
  | d :: ds, k => by
    unfold pyOkL at k
    obtain ⟨k1, k2⟩ := Bool.and_eq_true_iff.mp k
    show ((toPy d).canLay0 && PyData.canLayAll0 (toPyL ds)) = true
    rw [canLay_of k1, canLay_ofL k2]; rfl
end
mutual
theorem dep_toPy : ∀ d : D, (toPy d).depth = depD d
  | .non => rfl
  | .int _ => rfl
  | .str _ => rfl
  | .tup ds => by
    show PyData.depthAll (toPyL ds) + 1 = depL ds + 1
    rw [dep_toPyL ds]
  | .bl _ => rfl
  | .loc _ => rfl
  | .ro _ => rfl
  | .exn _ => rfl
theorem dep_toPyL : ∀ ds : List D, PyData.depthAll (toPyL ds) = depL ds
  | [] => rfl
  | d :: ds => by
    show max (toPy d).depth (PyData.depthAll (toPyL ds)) = max (depD d) (depL ds)
    rw [dep_toPy d, dep_toPyL ds]
end
mutual
theorem eqv_iff : ∀ {d e : D}, pyOk d = true → pyOk e = true → (PyData.eqv (toPy d) (toPy e) = true ↔ d = e)
  | .non, .non, _, _ => by simp [toPy, PyData.eqv]
  | .int i, .int j, _, _ => by simp [toPy, PyData.eqv]
  | .str i, .str j, _, _ => by simp [toPy, PyData.eqv]
  | .tup ds, .tup es, k1, k2 => by
    unfold pyOk at k1 k2
    have := eqv_iffL k1 k2
    simp only [toPy, PyData.eqv, D.tup.injEq]
    exact this
  | .non, .int _, _, _ => by simp [toPy, PyData.eqv]
  | .non, .str _, _, _ => by simp [toPy, PyData.eqv]
  | .non, .tup _, _, _ => by simp [toPy, PyData.eqv]
  | .int _, .non, _, _ => by simp [toPy, PyData.eqv]
  | .int _, .str _, _, _ => by simp [toPy, PyData.eqv]
  | .int _, .tup _, _, _ => by simp [toPy, PyData.eqv]
  | .str _, .non, _, _ => by simp [toPy, PyData.eqv]
  | .str _, .int _, _, _ => by simp [toPy, PyData.eqv]
  | .str _, .tup _, _, _ => by simp [toPy, PyData.eqv]
  | .tup _, .non, _, _ => by simp [toPy, PyData.eqv]
  | .tup _, .int _, _, _ => by simp [toPy, PyData.eqv]
  | .tup _, .str _, _, _ => by simp [toPy, PyData.eqv]
  | .bl _, _, k, _ => by unfold pyOk at k; cases k
  | .loc _, _, k, _ => by unfold pyOk at k; cases k
  | .ro _, _, k, _ => by unfold pyOk at k; cases k
  | .exn _, _, k, _ => by unfold pyOk at k; cases k
  | _, .bl _, _, k => by unfold pyOk at k; cases k
  | _, .loc _, _, k => by unfold pyOk at k; cases k
  | _, .ro _, _, k => by unfold pyOk at k; cases k
  | _, .exn _, _, k => by unfold pyOk at k; cases k
theorem eqv_iffL : ∀ {ds es : List D}, pyOkL ds = true → pyOkL es = true → (PyData.eqvAll (toPyL ds) (toPyL es) = true ↔ ds = es)
  | [], [], _, _ => by simp [toPyL, PyData.eqvAll]
  | [], _ :: _, _, _ => by simp [toPyL, PyData.eqvAll]
  | _ :: _, [], _, _ => by simp [toPyL, PyData.eqvAll]
  | d :: ds, e :: es, k1, k2 => by
    unfold pyOkL at k1 k2
    obtain ⟨a1, a2⟩ := Bool.and_eq_true_iff.mp k1
    obtain ⟨b1, b2⟩ := Bool.and_eq_true_iff.mp k2
    show (PyData.eqv (toPy d) (toPy e) && PyData.eqvAll (toPyL ds) (toPyL es)) = true ↔ _
    rw [Bool.and_eq_true_iff, eqv_iff a1 b1, eqv_iffL a2 b2, List.cons.injEq]
end
mutual
def pyW (φ : Nat → Option PyData) : D → Option PyData
  | .non => some .none
  | .bl b => some (.bool b)
  | .int i => some (.int i)
  | .str s => some (.str s)
  | .tup ds => (pyWL φ ds).map .tuple
  | .loc l => φ l
  | .ro ns => some (.list (ns.map .int))
  | .exn _ => none
def pyWL (φ : Nat → Option PyData) : List D → Option (List PyData)
  | [] => some []
  | d :: ds => (pyW φ d).bind fun p => (pyWL φ ds).map fun ps => p :: ps
end
def pyLoc : Nat → Hs → Nat → Option PyData
  | 0, _, _ => none
  | n + 1, h, l => match h[l]? with
    | some (.lst ds) => (pyWL (pyLoc n h) ds).map .list
    | _ => none
def pyH (h : Hs) (d : D) : Option PyData := pyW (pyLoc 4 h) d
section
variable {K : PySem.W.Frag} {m : List Addr} {H : Hp}
theorem dp_ints : ∀ ns : List Int, DpAll K H (ns.map V.int) (ns.map .int)
  | [] => .nil
  | n :: ns => .cons (.int n) (dp_ints ns)
mutual
theorem pyW_dp {φ : Nat → Option PyData} (hφ : ∀ l p v, φ l = some p → RepV K m H (.loc l) v → Dp K H v p) : ∀ {d : D} {v : V} {p : PyData}, pyW φ d = some p → RepV K m H d v → Dp K H v p
  | .non, _, _, e, r => by unfold RepV at r; subst r; cases e; exact .non
  | .bl b, _, _, e, r => by unfold RepV at r; subst r; cases e; exact .bl b
  | .int i, _, _, e, r => by unfold RepV at r; subst r; cases e; exact .int i
  | .str s, _, _, e, r => by unfold RepV at r; subst r; cases e; exact .str s
  | .tup ds, _, _, e, r => by
    unfold RepV at r
    obtain ⟨a, xs, rfl, ha, rl⟩ := r
    unfold pyW at e
    cases q : pyWL φ ds with
    | none => rw [q] at e; cases e
    | some ps => rw [q] at e; cases e; exact .tup (SqT.of ha) (pyWL_dp hφ q rl)
  | .loc l, _, _, e, r => hφ _ _ _ (by unfold pyW at e; exact e) r
  | .ro ns, _, _, e, r => by
    unfold RepV at r
    obtain ⟨a, rfl, q⟩ := r
    cases e
    exact .lst q.sq (dp_ints ns)
  | .exn _, _, _, e, _ => by cases e
theorem pyWL_dp {φ : Nat → Option PyData} (hφ : ∀ l p v, φ l = some p → RepV K m H (.loc l) v → Dp K H v p) : ∀ {ds : List D} {vs : List V} {ps : List PyData}, pyWL φ ds = some ps → RepL K m H ds vs → DpAll K H vs ps
  | [], _, _, e, r => by unfold RepL at r; subst r; cases e; exact .nil
  | d :: ds, _, _, e, r => by
    unfold RepL at r
    obtain ⟨x, xs, rfl, r1, r2⟩ := r
    unfold pyWL at e
    cases q1 : pyW φ d with
    | none => rw [q1] at e; cases e
    | some p =>
      cases q2 : pyWL φ ds with
      | none => rw [q1, q2] at e; cases e
      | some ps => rw [q1, q2] at e; cases e; exact .cons (pyW_dp hφ q1 r1) (pyWL_dp hφ q2 r2)
end
theorem pyLoc_dp {h : Hs} (rh : RepH K m H h) : ∀ (n l : Nat) (p : PyData) (v : V), pyLoc n h l = some p → RepV K m H (.loc l) v → Dp K H v p
  | 0, _, _, _, e, _ => by cases e
  | n + 1, l, p, v, e, r => by
    unfold RepV at r
    obtain ⟨a, ha, rfl⟩ := r
    unfold pyLoc at e
    cases q : h[l]? with
    | none => rw [q] at e; cases e
    | some o =>
      rw [q] at e
      cases o with
      | lst ds =>
        simp only at e
        obtain ⟨vs, hv, rl⟩ := rh.lst ha q
        cases q2 : pyWL (pyLoc n h) ds with
        | none => rw [q2] at e; cases e
        | some ps => rw [q2] at e; cases e; exact .lst (SqL.of hv) (pyWL_dp (fun l p v => pyLoc_dp rh n l p v) q2 rl)
      | _ => cases e
theorem pyH_dp {h : Hs} (rh : RepH K m H h) {d : D} {v : V} {p : PyData} (e : pyH h d = some p) (r : RepV K m H d v) : Dp K H v p := pyW_dp (fun l p v => pyLoc_dp rh 4 l p v) e r
end
mutual
theorem pyW_of (φ : Nat → Option PyData) : ∀ {d : D}, pyOk d = true → pyW φ d = some (toPy d)
  | .non, _ => rfl
  | .int _, _ => rfl
  | .str _, _ => rfl
  | .tup ds, k => by
    unfold pyOk at k
    unfold pyW toPy
    rw [pyWL_of φ k]; rfl
  | .bl _, _ => rfl
  | .loc _, k => by unfold pyOk at k; cases k
  | .ro _, k => by unfold pyOk at k; cases k
  | .exn _, k => by unfold pyOk at k; cases k
theorem pyWL_of (φ : Nat → Option PyData) : ∀ {ds : List D}, pyOkL ds = true → pyWL φ ds = some (toPyL ds)
  | [], _ => rfl
  | d :: ds, k => by
    unfold pyOkL at k
    obtain ⟨a, b⟩ := Bool.and_eq_true_iff.mp k
    unfold pyWL toPyL
    rw [pyW_of φ a, pyWL_of φ b]; rfl
end
/-- two lists of different lengths -/
def lenNe (d e : D) (h : Hs) : Bool := match d, e with
  | .loc a, .loc b => (match h[a]?, h[b]? with
    | some (.lst xs), some (.lst ys) => decide (xs.length ≠ ys.length)
    | _, _ => false)
  | _, _ => false
/-- d == e, where it is told -/
noncomputable def eqB (d e : D) (h : Hs) : Option Bool := if lenNe d e h = true then some false else match pyH h d, pyH h e with
  | some p, some q => if p.canLay0 = true ∧ q.canLay0 = true ∧ p.depth ≤ 190 then some (PyData.eqv p q) else none
  | _, _ => none
noncomputable def eqF : VF2 := fun d e h => (eqB d e h).map fun b => (.bl b, h)
noncomputable def neF : VF2 := fun d e h => (eqB d e h).map fun b => (.bl (!b), h)
section
variable {X : Cx}
theorem decide_iff {p : Prop} {b : Bool} (h : b = true ↔ p) : b = @decide p (Classical.propDecidable p) := by
  letI := Classical.propDecidable p
  by_cases hp : p
  · rw [decide_eq_true hp, h.mpr hp]
  · rw [decide_eq_false hp]
    cases b with
    | true => exact absurd (h.mp rfl) hp
    | false => rfl
/-- both comparisons at once -/
theorem eq_core {pns : List (Addr × Obj)} {s : Shared} {σ : St} {H : Hp} {x y : V} {v u : Value} {m : List Addr} {hs : Hs} {dx dy : D} {b : Bool} (hu : X.A.units + 195 < cLine) (I : Inv X pns σ H s) (rx : RelV x v) (ry : RelV y u) (r1 : RepV X.K m H dx x) (r2 : RepV X.K m H dy y)
    (rh : RepH X.K m H hs) (e : eqB dx dy hs = some b) {Q : Value → Shared → Prop} {Q' : Value → Shared → Prop} {E : Value → Shared → Prop} (q : Q (.bool b) s) (q' : Q' (.bool (!b)) s) :
    wpAny (model X.prog X.w) X.A (compareOp .Eq v u) Q E s ∧ wpAny (model X.prog X.w) X.A (compareOp .NotEq v u) Q' E s := by
  unfold eqB at e
  split at e
  · rename_i c
    cases e
    unfold lenNe at c
    split at c
    · rename_i i j
      unfold RepV at r1 r2
      obtain ⟨a, ha, rfl⟩ := r1
      obtain ⟨c2, hc, rfl⟩ := r2
      split at c
      · rename_i xs ys e1 e2
        have hne := of_decide_eq_true c
        obtain ⟨vs, hv, rl⟩ := rh.lst ha e1
        obtain ⟨ws, hw, rl2⟩ := rh.lst hc e2
        cases rx; cases ry
        obtain ⟨its, r, pl, z⟩ := I.list (SqL.of hv)
        obtain ⟨its2, r2, pl2, z2⟩ := I.list (SqL.of hw)
        have hsz : (its.toArray.size != its2.toArray.size) = true := by
          have l1 := rl.length
          have l2 := rl2.length
          have l3 := r.length
          have l4 := r2.length
          simp only [List.size_toArray, bne_iff_ne, ne_eq]
          omega
        exact ⟨SeqAt.eq_list_lengthsAt pl.isList pl2.isList hsz (by omega) q, SeqAt.RcNeAt.lists_lengths pl.isList pl2.isList hsz (by omega) _ _ _ _ q'⟩
      · cases c
    · cases c
  · split at e
    · rename_i p p' e1 e2
      split at e
      · rename_i c
        obtain ⟨c1, c2, c3⟩ := c
        obtain ⟨as, q1⟩ := Dp.reads I _ x v (pyH_dp rh e1 r1) rx
        obtain ⟨bs, q2⟩ := Dp.reads I _ y u (pyH_dp rh e2 r2) ry
        have room : X.A.units + min p.depth p'.depth < cLine := by
          have : min p.depth p'.depth ≤ p.depth := Nat.min_le_left _ _
          omega
        have e3 : PyData.eqv p p' = b := Option.some.inj e
        exact ⟨SeqAt.compareEq_reads q1 q2 c1 c2 room (by rw [e3]; exact q), SeqAt.compareNe_reads q1 q2 c1 c2 room (by rw [e3]; exact q')⟩
      · cases e
    · cases e
theorem o_eq (hu : X.A.units + 195 < cLine) : OpR X (compareOp .Eq) (rV X.K eqF) := by
  intro pns s σ H x y v u Q I rx ry h
  obtain ⟨m, hs, dx, dy, r1, r2, rh, o⟩ := h
  unfold eqF at o
  cases e : eqB dx dy hs with
  | none => rw [e] at o; exact o.elim
  | some b =>
    rw [e] at o
    exact (eq_core (E := X.xe) (Q' := fun _ _ => True) hu I rx ry r1 r2 rh e ⟨.bl b, H, I, rfl, o _ m H (.refl _ _) (by unfold RepV; rfl) rh⟩ trivial).1
theorem o_ne (hu : X.A.units + 195 < cLine) : OpR X (compareOp .NotEq) (rV X.K neF) := by
  intro pns s σ H x y v u Q I rx ry h
  obtain ⟨m, hs, dx, dy, r1, r2, rh, o⟩ := h
  unfold neF at o
  cases e : eqB dx dy hs with
  | none => rw [e] at o; exact o.elim
  | some b =>
    rw [e] at o
    exact (eq_core (E := X.xe) (Q := fun _ _ => True) hu I rx ry r1 r2 rh e trivial ⟨.bl (!b), H, I, rfl, o _ m H (.refl _ _) (by unfold RepV; rfl) rh⟩).2
end
open Classical in
theorem eqB_of {d e : D} {h : Hs} (a : pyOk d = true) (b : pyOk e = true) (z : depD d ≤ 190) : eqB d e h = some (decide (d = e)) := by
  have n : lenNe d e h = false := by
    unfold lenNe
    split
    · unfold pyOk at a; cases a
    · rfl
  have e1 : pyH h d = some (toPy d) := pyW_of _ a
  have e2 : pyH h e = some (toPy e) := pyW_of _ b
  unfold eqB
  rw [n, if_neg Bool.false_ne_true, e1, e2]
  simp only
  rw [if_pos ⟨canLay_of a, canLay_of b, by rw [dep_toPy]; exact z⟩, decide_iff (eqv_iff a b)]
open Classical in
theorem eqB_lst {i j : Nat} {xs ys : List D} {h : Hs} (ei : h[i]? = some (.lst xs)) (ej : h[j]? = some (.lst ys)) (a : pyOkL xs = true) (b : pyOkL ys = true) (z : depL xs ≤ 189) : eqB (.loc i) (.loc j) h = some (decide (xs = ys)) := by
  unfold eqB lenNe
  simp only [ei, ej]
  split
  · rename_i c
    have c := of_decide_eq_true c
    rw [decide_eq_false fun e => c (by rw [e])]
  · have e1 : pyH h (.loc i) = some (.list (toPyL xs)) := by
      unfold pyH pyW pyLoc
      simp only [ei, pyWL_of _ a]; rfl
    have e2 : pyH h (.loc j) = some (.list (toPyL ys)) := by
      unfold pyH pyW pyLoc
      simp only [ej, pyWL_of _ b]; rfl
    rw [e1, e2]
    simp only
    have d1 : (PyData.list (toPyL xs)).depth = depL xs + 1 := by
      show PyData.depthAll (toPyL xs) + 1 = _
      rw [dep_toPyL]
    rw [if_pos ⟨canLay_ofL a, canLay_ofL b, by rw [d1]; omega⟩]
    congr 1
    show PyData.eqvAll (toPyL xs) (toPyL ys) = _
    rw [decide_iff (eqv_iffL a b)]
    congr
theorem eqB_len {i j : Nat} {xs ys : List D} {h : Hs} (ei : h[i]? = some (.lst xs)) (ej : h[j]? = some (.lst ys)) (c : xs.length ≠ ys.length) : eqB (.loc i) (.loc j) h = some false := by
  unfold eqB lenNe
  simp only [ei, ej]
  rw [if_pos (decide_eq_true c)]
end DV
namespace DV
open PySem PySem.Spec PyProof.Rows L2
section
variable {K : PySem.W.Frag} {m : List Addr} {H : Hp}
theorem RepL.at_ {ds : List D} {vs : List V} {i : Int} {d : D} (r : RepL K m H ds vs) (e : atI ds i = some d) : ∃ v, atI vs i = some v ∧ RepV K m H d v := by
  unfold atI at e ⊢
  rw [r.length]
  cases q : ixN ds.length i with
  | none => rw [q] at e; cases e
  | some j =>
    rw [q] at e
    obtain ⟨v, hv, rv⟩ := r.get e
    exact ⟨v, hv, rv⟩
end
def valD {κ : Type} [DecidableEq κ] (kvs : List (κ × D)) (k : κ) : Option D := (kvs.find? fun p => decide (p.1 = k)).map (·.2)
def putD {κ : Type} [DecidableEq κ] (kvs : List (κ × D)) (k : κ) (v : D) : List (κ × D) := if (kvs.any fun p => decide (p.1 = k)) = true then kvs.map (fun p => if p.1 = k then (p.1, v) else p) else kvs ++ [(k, v)]
theorem kV_keyD {K : PySem.W.Frag} {m : List Addr} {H : Hp} {d : D} {v : V} {k : Key} (r : RepV K m H d v) (e : keyD d = some k) : v = kV k := by
  cases d with
  | int i => cases e; unfold RepV at r; exact r
  | str i => cases e; unfold RepV at r; exact r
  | _ => cases e
def keysD : List D → Option (List Key)
  | [] => some []
  | d :: ds => (keyD d).bind fun k => (keysD ds).map fun ks => k :: ks
theorem kV_keysD {K : PySem.W.Frag} {m : List Addr} {H : Hp} : ∀ {ds : List D} {vs : List V} {ks : List Key}, RepL K m H ds vs → keysD ds = some ks → vs = ks.map kV
  | [], vs, ks, r, e => by cases e; unfold RepL at r; exact r
  | d :: ds, vs, ks, r, e => by
    unfold RepL at r
    obtain ⟨x, xs, rfl, h1, h2⟩ := r
    unfold keysD at e
    cases q : keyD d with
    | none => rw [q] at e; cases e
    | some k =>
      cases q2 : keysD ds with
      | none => rw [q, q2] at e; cases e
      | some ks2 =>
        rw [q, q2] at e
        cases e
        rw [kV_keyD h1 q, kV_keysD h2 q2]
        rfl
section
variable {κ : Type} [DecidableEq κ] {K : PySem.W.Frag} {m : List Addr} {H : Hp}
theorem valD_rep (k : κ) : ∀ {kvs : List (κ × D)} {ks : List (κ × V)}, kvs.map (·.1) = ks.map (·.1) → RepL K m H (kvs.map (·.2)) (ks.map (·.2)) →
    (valD kvs k = none ∧ valV ks k = none) ∨ ∃ d v, valD kvs k = some d ∧ valV ks k = some v ∧ RepV K m H d v
  | [], [], _, _ => .inl ⟨rfl, rfl⟩
  | [], _ :: _, e, _ => by cases e
  | _ :: _, [], e, _ => by cases e
  | (k1, d) :: kvs, (k2, v) :: ks, e, r => by
    simp only [List.map_cons, List.cons.injEq] at e
    obtain ⟨e1, e2⟩ := e
    subst e1
    simp only [List.map_cons] at r
    unfold RepL at r
    obtain ⟨x, xs, q, h1, h2⟩ := r
    injection q with q1 q2
    subst q1 q2
    by_cases c : k1 = k
    · subst c
      exact .inr ⟨d, v, by simp [valD], by simp [valV], h1⟩
    · rcases valD_rep k e2 h2 with ⟨a, b⟩ | ⟨d', v', a, b, w⟩
      · exact .inl ⟨by unfold valD at a ⊢; rw [List.find?_cons]; simp [c]; simpa using a, by unfold valV at b ⊢; rw [List.find?_cons]; simp [c]; simpa using b⟩
      · exact .inr ⟨d', v', by unfold valD at a ⊢; rw [List.find?_cons]; simpa [c] using a, by unfold valV at b ⊢; rw [List.find?_cons]; simpa [c] using b, w⟩
theorem any_rep (k : κ) : ∀ {kvs : List (κ × D)} {ks : List (κ × V)}, kvs.map (·.1) = ks.map (·.1) → (kvs.any fun p => decide (p.1 = k)) = ks.any fun p => decide (p.1 = k)
  | [], [], _ => rfl
  | [], _ :: _, e => by cases e
  | _ :: _, [], e => by cases e
  | (k1, d) :: kvs, (k2, v) :: ks, e => by
    simp only [List.map_cons, List.cons.injEq] at e
    obtain ⟨e1, e2⟩ := e
    subst e1
    rw [List.any_cons, List.any_cons, any_rep k e2]
theorem over_rep (k : κ) {d : D} {v : V} (rv : RepV K m H d v) : ∀ {kvs : List (κ × D)} {ks : List (κ × V)}, kvs.map (·.1) = ks.map (·.1) → RepL K m H (kvs.map (·.2)) (ks.map (·.2)) →
    (kvs.map (fun p => if p.1 = k then (p.1, d) else p)).map (·.1) = (ks.map (fun p => if p.1 = k then (p.1, v) else p)).map (·.1) ∧ RepL K m H ((kvs.map (fun p => if p.1 = k then (p.1, d) else p)).map (·.2)) ((ks.map (fun p => if p.1 = k then (p.1, v) else p)).map (·.2))
  | [], [], _, _ => ⟨rfl, RepL.nil⟩
  | [], _ :: _, e, _ => by cases e
  | _ :: _, [], e, _ => by cases e
  | (k1, d1) :: kvs, (k2, v1) :: ks, e, r => by
    simp only [List.map_cons, List.cons.injEq] at e
    obtain ⟨e1, e2⟩ := e
    subst e1
    simp only [List.map_cons] at r
    unfold RepL at r
    obtain ⟨x, xs, q, h1, h2⟩ := r
    injection q with q1 q2
    subst q1 q2
    obtain ⟨a, b⟩ := over_rep k rv e2 h2
    by_cases c : k1 = k
    · simp only [List.map_cons, c, if_true]
      exact ⟨by rw [a], .cons rv b⟩
    · simp only [List.map_cons, c, if_false]
      exact ⟨by rw [a], .cons h1 b⟩
theorem put_rep (k : κ) {d : D} {v : V} (rv : RepV K m H d v) {kvs : List (κ × D)} {ks : List (κ × V)} (e : kvs.map (·.1) = ks.map (·.1)) (r : RepL K m H (kvs.map (·.2)) (ks.map (·.2))) :
    (putD kvs k d).map (·.1) = (putK ks k v).map (·.1) ∧ RepL K m H ((putD kvs k d).map (·.2)) ((putK ks k v).map (·.2)) := by
  unfold putD putK
  rw [any_rep k e]
  split
  · exact over_rep k rv e r
  · refine ⟨by rw [List.map_append, List.map_append, e]; rfl, ?_⟩
    rw [List.map_append, List.map_append]
    exact r.append (.cons rv .nil)
end
theorem map_len {α β γ δ : Type} {f : α → γ} {g : β → γ} {xs : List α} {ys : List β} (e : xs.map f = ys.map g) : xs.length = ys.length := by
  have := congrArg List.length e
  simpa using this
def ixF : VF2
  | .loc l, k, h => match h[l]? with
    | some (.lst ds) => (match k with
      | .int i => (atI ds i).map fun d => (d, h)
      | _ => none)
    | some (.dct kvs) => (keyD k).bind fun k => (valD kvs k).map fun d => (d, h)
    | some (.fdc kvs) => (keyD k).bind fun k => (valD kvs k).map fun d => (d, h)
    | some (.dcT kvs) => (match k with
      | .tup ks => (keysD ks).bind fun k => (valD kvs k).map fun d => (d, h)
      | _ => none)
    | _ => none
  | .ro ns, .int i, h => (atI ns i).map fun n => (.int n, h)
  | .tup ds, .int i, h => (atI ds i).map fun d => (d, h)
  | .str z, .int i, h => if z.length ≤ LIM then (atI z.cps.toList i).map fun c => (.str ⟨#[c]⟩, h) else none
  | _, _, _ => none
theorem atI_map {α β : Type} (f : α → β) (xs : List α) (i : Int) : atI (xs.map f) i = (atI xs i).map f := by
  unfold atI
  rw [List.length_map]
  cases ixN xs.length i with
  | none => rfl
  | some j => simp
section
variable {X : Cx}
theorem o_ix (hu : X.A.units + 1 < cLine) : IxR X (rV X.K ixF) := by
  intro value slice pns s σ H x y v u Q I rx ry h hsl
  obtain ⟨m, hs, dx, dy, r1, r2, rh, o⟩ := h
  unfold ixF at o
  split at o
  · unfold RepV at r1
    obtain ⟨a, ha, rfl⟩ := r1
    have got : ∀ {d : D} {w : V}, OutV X.K m H Q (some (d, hs)) → RepV X.K m H d w → DGet H a y (some w) → wpAny (model X.prog X.w) X.A (subscriptTail value slice v u) (EP X pns σ Q) X.xe s := fun o' rw' g => by
      cases rx
      exact tail_any (dict_typeIs I g) PySem.F.slot_dict_getitem.lookup (d_getItem hu I g ry fun w2 s2 I2 r2' => ⟨_, H, I2, r2', OutV.keep o' rw' rh⟩) hsl
    split at o
    · rename_i ds e1
      obtain ⟨vs, hv, rl⟩ := rh.lst ha e1
      split at o
      · unfold RepV at r2
        subst r2
        cases q : atI ds _ with
        | none => rw [q] at o; exact o.elim
        | some d =>
          rw [q] at o
          obtain ⟨w, hw, rw'⟩ := rl.at_ q
          exact ix_list value slice pns s σ H _ _ v u Q I rx ry ⟨a, vs, _, w, rfl, rfl, SqL.of hv, hw, OutV.keep o rw' rh⟩ hsl
      · exact o.elim
    · rename_i kvs e1
      obtain ⟨ks, hk, kk, rk⟩ := rh.at_ _ a _ ha e1
      cases q : keyD dy with
      | none => rw [q] at o; exact o.elim
      | some k =>
        rw [q, Option.bind_some] at o
        have ey := kV_keyD r2 q
        subst ey
        rcases valD_rep k kk rk with ⟨z, _⟩ | ⟨d, w, z, z2, rw'⟩
        · rw [z] at o; exact o.elim
        · rw [z] at o
          refine got o rw' ?_
          rw [← z2]
          exact DGet.k hk
    · rename_i kvs e1
      obtain ⟨ob, ks, hk, kk, rk⟩ := rh.at_ _ a _ ha e1
      cases q : keyD dy with
      | none => rw [q] at o; exact o.elim
      | some k =>
        rw [q, Option.bind_some] at o
        have ey := kV_keyD r2 q
        subst ey
        rcases valD_rep k kk rk with ⟨z, _⟩ | ⟨d, w, z, z2, rw'⟩
        · rw [z] at o; exact o.elim
        · rw [z] at o
          refine got o rw' ?_
          rw [← z2]
          exact .inl ⟨ks, k, .inr ⟨ob, hk⟩, rfl, rfl⟩
    · rename_i kvs e1
      obtain ⟨ks, hk, kk, rk⟩ := rh.at_ _ a _ ha e1
      split at o
      · rename_i kd
        cases q : keysD kd with
        | none => rw [q] at o; exact o.elim
        | some k =>
          rw [q, Option.bind_some] at o
          unfold RepV at r2
          obtain ⟨b, xs, rfl, hb, rl⟩ := r2
          have ey := kV_keysD rl q
          subst ey
          rcases valD_rep k kk rk with ⟨z, _⟩ | ⟨d, w, z, z2, rw'⟩
          · rw [z] at o; exact o.elim
          · rw [z] at o
            refine got o rw' ?_
            rw [← z2]
            exact DGet.t hk hb
      · exact o.elim
    · exact o.elim
  · unfold RepV at r1 r2
    obtain ⟨a, rfl, ha⟩ := r1
    subst r2
    rename_i ns i
    cases q : atI ns i with
    | none => rw [q] at o; exact o.elim
    | some n =>
      rw [q] at o
      exact ix_list value slice pns s σ H _ _ v u Q I rx ry ⟨a, _, i, .int n, rfl, rfl, ha.sq, by rw [atI_map, q]; rfl, OutV.keep o (by unfold RepV; rfl) rh⟩ hsl
  · unfold RepV at r1 r2
    obtain ⟨a, vs, rfl, ha, rl⟩ := r1
    subst r2
    rename_i ds i
    cases q : atI ds i with
    | none => rw [q] at o; exact o.elim
    | some d =>
      rw [q] at o
      obtain ⟨w, hw, rw'⟩ := rl.at_ q
      exact ix_tup value slice pns s σ H _ _ v u Q I rx ry ⟨a, vs, _, w, rfl, rfl, SqT.of ha, hw, OutV.keep o rw' rh⟩ hsl
  · unfold RepV at r1 r2
    subst r1 r2
    rename_i z i
    split at o
    · rename_i hz
      cases q : atI z.cps.toList i with
      | none => rw [q] at o; exact o.elim
      | some c =>
        rw [q] at o
        exact ix_str value slice pns s σ H _ _ v u Q I rx ry ⟨z, i, c, rfl, rfl, by rw [LIM_eq]; exact hz, q, OutV.keep o (by unfold RepV; rfl) rh⟩ hsl
    · exact o.elim
  · exact o.elim
end
abbrev OM := Sl → Hs → R (Option Int)
def noP : OM := fun _ h => .ok none h
def someP (A : EM) : OM := fun ds h => (A ds h).bind fun d h => match d with
  | .int i => .ok (some i) h
  | _ => .bad
def cutL {α : Type} (xs : List α) (lo hi : Option Int) : List α := (xs.drop (HT.sIx xs.length 0 lo)).take (HT.sIx xs.length xs.length hi - HT.sIx xs.length 0 lo)
def slF (d : D) (lo hi : Option Int) (h : Hs) : Res := match d with
  | .loc l => match h[l]? with
    | some (.lst ds) => some (.loc h.length, h ++ [.lst (cutL ds lo hi)])
    | _ => none
  | .ro ns => some (.loc h.length, h ++ [.lst ((cutL ns lo hi).map D.int)])
  | .tup ds => some (.tup (cutL ds lo hi), h)
  | .str z => if z.length ≤ LIM then some (.str (cutS z lo hi), h) else none
  | _ => none
def slM (A : EM) (lo hi : OM) : EM := fun ds h => (A ds h).bind fun d h => (lo ds h).bind fun l h => (hi ds h).bind fun u h => .ofO (slF d l u h)
def OutP (g : Cfg) (m : List Addr) (H : Hp) (σ : St) (Q : Option Int → Hp → Prop) : R (Option Int) → Prop
  | .ok o h' => ∀ m' H', Grow m H m' H' → RepH g.K m' H' h' → Q o H'
  | .exc c h' => ∀ m' H', Grow m H m' H' → RepH g.K m' H' h' → g.W (.ref (He.ga g.K c)) none σ H'
  | .bad => False
def tP (g : Cfg) (M : OM) : TO := fun σ H Q => ∃ m ds h, RepS g.K m H ds σ ∧ RepH g.K m H h ∧ OutP g m H σ Q (M ds h)
theorem OutP.toE {g : Cfg} {m : List Addr} {H : Hp} {σ : St} {Q : VK} {Q' : Option Int → Hp → Prop} {r : R (Option Int)} {k : Option Int → Hs → R D} (o : OutE g m H σ Q (r.bind k))
    (f : ∀ b h' m' H', Grow m H m' H' → RepH g.K m' H' h' → OutE g m' H' σ Q (k b h') → Q' b H') : OutP g m H σ Q' r := by
  cases r with
  | ok d h => exact fun m' H' w rh => f d h m' H' w rh (OutE.mono o w)
  | exc c h => exact o
  | bad => exact o
theorem PO.weak {X : Cx} {e : Option Expr} {t t' : TO} (p : PO X e t) (w : ∀ σ H Q, t' σ H Q → t σ H Q) : PO X e t' := ⟨fun pns s σ H Q I h => p.run pns s σ H Q I (w σ H Q h)⟩
section
variable {X : Cx} {g : Cfg} {e : Expr} {lo hi : Option Expr} {A : EM} {L U : OM} {pos p2 : Pos}
theorem pm_no : PO X none (tP g noP) := PO.weak po_none fun σ H Q ⟨m, ds, h, hs, rh, o⟩ => o m H (.refl _ _) rh
theorem pm_some (ha : PE X e (tM g A)) : PO X (some e) (tP g (someP A)) := by
  refine PO.weak (po_some ha) fun σ H Q ⟨m, ds, h, hs, rh, o⟩ => ⟨m, ds, h, hs, rh, ?_⟩
  unfold someP at o
  cases q : A ds h with
  | ok d h1 =>
    rw [q, R.bind_ok] at o
    intro v m1 H1 g1 r1 rh1
    cases d with
    | int i => unfold RepV at r1; exact ⟨i, r1, o m1 H1 g1 rh1⟩
    | _ => exact (show False from o).elim
  | exc c h1 => rw [q] at o; exact o
  | bad => rw [q] at o; exact o
theorem cutL_map {α β : Type} (f : α → β) (xs : List α) (lo hi : Option Int) : cutL (xs.map f) lo hi = (cutL xs lo hi).map f := by
  unfold cutL
  rw [List.length_map, List.map_take, List.map_drop]
theorem RepL.cut {K : PySem.W.Frag} {m : List Addr} {H : Hp} {ds : List D} {vs : List V} (r : RepL K m H ds vs) (lo hi : Option Int) : RepL K m H (cutL ds lo hi) (cutV vs lo hi) := by
  unfold cutL cutV
  rw [r.length]
  exact (r.drop _).take _
theorem em_slice (hK : X.K = g.K) (ha : PE X e (tM g A)) (hl : PO X lo (tP g L)) (hu : PO X hi (tP g U)) : PE X (.Subscript e (.Slice lo hi none p2) pos) (tM g (slM A L U)) := by
  have hr : SlR X (fun x lo hi H Q => (rSlL X.K x lo hi H Q ∨ rSlA X.K x lo hi H Q) ∨ rSlS x lo hi H Q) := (sl_list.or sl_tupA).or sl_str
  refine PE.weak (pe_slice hr ha hl hu) fun σ H Q ⟨m, ds, h, hs, rh, o⟩ => ⟨m, ds, h, hs, rh, OutE.toE o fun d h1 v m1 H1 g1 r1 rh1 o1 => ?_⟩
  refine ⟨m1, ds, h1, hs.mono g1, rh1, OutP.toE o1 fun l h2 m2 H2 g2 rh2 o2 => ?_⟩
  refine ⟨m2, ds, h2, (hs.mono g1).mono g2, rh2, OutP.toE o2 fun u h3 m3 H3 g3 rh3 o3 => ?_⟩
  have r3 := r1.mono (g2.trans g3)
  have o3 : OutV g.K m3 H3 Q (slF d l u h3) := .of o3
  rw [hK]
  unfold slF at o3
  split at o3
  · unfold RepV at r3
    obtain ⟨a, hq, rfl⟩ := r3
    split at o3
    · rename_i xs e1
      obtain ⟨vs, hv, rl⟩ := rh3.lst hq e1
      exact .inl (.inl ⟨a, vs, rfl, SqL.of hv, fun p hp => new_lst' (rl.cut _ _) rh3 hp o3⟩)
    · exact o3.elim
  · unfold RepV at r3
    obtain ⟨a, rfl, hq⟩ := r3
    rename_i ns _
    refine .inl (.inl ⟨a, _, rfl, hq.sq, fun p hp => new_lst' ?_ rh3 hp o3⟩)
    have := (repL_ints (K := g.K) (m := m3) (H := H3) ns).cut l u
    rwa [cutL_map] at this
  · unfold RepV at r3
    obtain ⟨a, vs, rfl, hq, rl⟩ := r3
    rename_i xs _
    refine .inl (.inr ⟨a, vs, rfl, SqT.of hq, fun hw => ?_, fun _ p hp => ?_⟩)
    · have e : cutL xs l u = xs := by
        have hl := rl.length
        rw [hl] at hw
        unfold cutL
        rw [hw.1, hw.2, List.drop_zero, Nat.sub_zero, List.take_length]
      rw [e] at o3
      exact o3 _ m3 H3 (.refl _ _) (by unfold RepV; exact ⟨a, vs, rfl, hq, rl⟩) rh3
    · exact o3 _ m3 _ (.put hp) (by unfold RepV; exact ⟨p, _, rfl, upd_same, (rl.cut _ _).mono (.put hp)⟩) (rh3.put hp)
  · unfold RepV at r3
    subst r3
    split at o3
    · rename_i hz
      exact .inr ⟨_, rfl, by rw [LIM_eq]; exact hz, OutV.keep o3 (by unfold RepV; rfl) rh3⟩
    · exact o3.elim
  · exact o3.elim
end
def lenF : List D → Hs → Res
  | [.loc l], h => match h[l]? with
    | some (.lst ds) => some (.int ds.length, h)
    | some (.dct kvs) => some (.int kvs.length, h)
    | some (.fdc kvs) => some (.int kvs.length, h)
    | _ => none
  | [.ro ns], h => some (.int ns.length, h)
  | [.tup ds], h => some (.int ds.length, h)
  | [.str z], h => if z.length ≤ LIM then some (.int z.length, h) else none
  | _, _ => none
def intT : List D → Hs → Res
  | [.int i], h => some (.int i, h)
  | [.bl b], h => some (.int (if b then 1 else 0), h)
  | _, _ => none
def tupT : List D → Hs → Res
  | [.loc l], h => match h[l]? with
    | some (.lst ds) => some (.tup ds, h)
    | _ => none
  | [.tup ds], h => some (.tup ds, h)
  | _, _ => none
def intsOf : List D → Option (List Int)
  | [] => some []
  | .int i :: r => (intsOf r).map fun ns => i :: ns
  | _ => none
theorem intsOf_some : ∀ {ds : List D} {ns : List Int}, intsOf ds = some ns → ds = ns.map D.int
  | [], _, e => by cases e; rfl
  | .int i :: r, ns, e => by
    unfold intsOf at e
    cases q : intsOf r with
    | none => rw [q] at e; cases e
    | some ms => rw [q] at e; cases e; rw [List.map_cons, intsOf_some q]
  | .non :: _, _, e => by cases e
  | .bl _ :: _, _, e => by cases e
  | .str _ :: _, _, e => by cases e
  | .tup _ :: _, _, e => by cases e
  | .loc _ :: _, _, e => by cases e
  | .ro _ :: _, _, e => by cases e
  | .exn _ :: _, _, e => by cases e
@[simp] theorem intsOf_map (ns : List Int) : intsOf (ns.map D.int) = some ns := by
  induction ns with
  | nil => rfl
  | cons n ns ih => rw [List.map_cons]; unfold intsOf; rw [ih]; rfl
def sumF : List D → Hs → Res
  | [.loc l], h => match h[l]? with
    | some (.lst ds) => (intsOf ds).map fun ns => (.int ns.sum, h)
    | _ => none
  | _, _ => none
def maxI (x : Int) (xs : List Int) : Int := xs.foldl (fun a y => if a < y then y else a) x
def max1F : List D → Hs → Res
  | [.loc l], h => match h[l]? with
    | some (.lst ds) => match intsOf ds with
      | some (n :: ns) => some (.int (maxI n ns), h)
      | _ => none
    | _ => none
  | _, _ => none
def max2F : List D → Hs → Res
  | [.int i, .int j], h => some (.int (if j > i then j else i), h)
  | _, _ => none
def min2F : List D → Hs → Res
  | [.int i, .int j], h => some (.int (if j < i then j else i), h)
  | _, _ => none
theorem repL_map {K : PySem.W.Frag} {m : List Addr} {H : Hp} : ∀ {ns : List Int} {vs : List V}, RepL K m H (ns.map D.int) vs → vs = ns.map V.int
  | [], vs, r => by unfold RepL at r; exact r
  | n :: ns, vs, r => by
    rw [List.map_cons] at r
    unfold RepL at r
    obtain ⟨x, xs, rfl, h1, h2⟩ := r
    unfold RepV at h1
    rw [h1, repL_map h2]; rfl
theorem maxI_spec : ∀ (xs : List Int) (x : Int), (maxI x xs = x ∨ maxI x xs ∈ xs) ∧ x ≤ maxI x xs ∧ ∀ y ∈ xs, y ≤ maxI x xs
  | [], x => ⟨.inl rfl, Int.le_refl _, fun y h => nomatch h⟩
  | z :: xs, x => by
    have e : maxI x (z :: xs) = maxI (if x < z then z else x) xs := rfl
    rw [e]
    by_cases c : x < z
    · rw [if_pos c]
      obtain ⟨h1, h2, h3⟩ := maxI_spec xs z
      refine ⟨.inr ?_, by omega, fun y hy => ?_⟩
      · rcases h1 with h1 | h1
        · rw [h1]; exact List.mem_cons_self
        · exact List.mem_cons_of_mem _ h1
      · rcases List.mem_cons.mp hy with e | hy
        · rw [e]; exact h2
        · exact h3 y hy
    · rw [if_neg c]
      obtain ⟨h1, h2, h3⟩ := maxI_spec xs x
      refine ⟨h1.imp id (List.mem_cons_of_mem _), h2, fun y hy => ?_⟩
      rcases List.mem_cons.mp hy with e | hy
      · rw [e]; omega
      · exact h3 y hy
section
variable {X : Cx}
theorem c_len : CallR X (.builtin "len") (rC X.K lenF) := by
  intro pns s σ H vs us Q I rl h
  obtain ⟨m, hs, ds, r, rh, o⟩ := h
  unfold lenF at o
  split at o
  · obtain ⟨x, rfl, r1⟩ := repL1 r
    unfold RepV at r1
    obtain ⟨a, ha, rfl⟩ := r1
    split at o
    · rename_i xs e1
      obtain ⟨vs, hv, rl2⟩ := rh.lst ha e1
      exact call_len pns s σ H _ us Q I rl ⟨_, _, rfl, .inl ⟨vs, SqL.of hv, rl2.length.symm⟩, OutV.keep o (by unfold RepV; rfl) rh⟩
    · rename_i kvs e1
      obtain ⟨ks, hk, kk, rk⟩ := rh.at_ _ a _ ha e1
      obtain ⟨u, rfl, ru⟩ := vals1 rl
      cases ru
      refine d_len I (.inl hk) fun t s' I' => ⟨.int ks.length, H, I', ⟨t, rfl⟩, ?_⟩
      have e : ks.length = kvs.length := by have := congrArg List.length kk; simpa using this.symm
      rw [e]
      exact OutV.keep o (by unfold RepV; rfl) rh
    · rename_i kvs e1
      obtain ⟨ob, ks, hk, kk, rk⟩ := rh.at_ _ a _ ha e1
      obtain ⟨u, rfl, ru⟩ := vals1 rl
      cases ru
      refine d_len I (.inr ⟨ob, hk⟩) fun t s' I' => ⟨.int ks.length, H, I', ⟨t, rfl⟩, ?_⟩
      have e : ks.length = kvs.length := by have := congrArg List.length kk; simpa using this.symm
      rw [e]
      exact OutV.keep o (by unfold RepV; rfl) rh
    · exact o.elim
  · obtain ⟨x, rfl, r1⟩ := repL1 r
    unfold RepV at r1
    obtain ⟨a, rfl, ha⟩ := r1
    exact call_len pns s σ H _ us Q I rl ⟨_, _, rfl, .inl ⟨_, ha.sq, (List.length_map _).symm⟩, OutV.keep o (by unfold RepV; rfl) rh⟩
  · obtain ⟨x, rfl, r1⟩ := repL1 r
    unfold RepV at r1
    obtain ⟨a, xs, rfl, ha, rl2⟩ := r1
    exact call_len pns s σ H _ us Q I rl ⟨_, _, rfl, .inr ⟨xs, SqT.of ha, rl2.length.symm⟩, OutV.keep o (by unfold RepV; rfl) rh⟩
  · obtain ⟨x, rfl, r1⟩ := repL1 r
    unfold RepV at r1
    subst r1
    split at o
    · rename_i hz
      exact call_len pns s σ H _ us Q I rl ⟨_, _, rfl, ⟨by rw [LIM_eq]; exact hz, rfl⟩, OutV.keep o (by unfold RepV; rfl) rh⟩
    · exact o.elim
  · exact o.elim
theorem c_int : CallR X (.type "int") (rC X.K intT) := by
  intro pns s σ H vs us Q I rl h
  obtain ⟨m, hs, ds, r, rh, o⟩ := h
  unfold intT at o
  split at o
  · obtain ⟨x, rfl, r1⟩ := repL1 r
    unfold RepV at r1; subst r1
    exact call_int1 pns s σ H _ us Q I rl (.inl ⟨_, rfl, OutV.keep o (by unfold RepV; rfl) rh⟩)
  · obtain ⟨x, rfl, r1⟩ := repL1 r
    unfold RepV at r1; subst r1
    exact call_int1 pns s σ H _ us Q I rl (.inr ⟨_, rfl, OutV.keep o (by unfold RepV; rfl) rh⟩)
  · exact o.elim
theorem c_tuple : CallR X (.type "tuple") (rC X.K tupT) := by
  intro pns s σ H vs us Q I rl h
  obtain ⟨m, hs, ds, r, rh, o⟩ := h
  unfold tupT at o
  split at o
  · obtain ⟨x, rfl, r1⟩ := repL1 r
    unfold RepV at r1
    obtain ⟨a, ha, rfl⟩ := r1
    split at o
    · rename_i xs e1
      obtain ⟨vs, hv, rl2⟩ := rh.lst ha e1
      refine call_tuple_of pns s σ H _ us Q I rl ⟨a, vs, rfl, .inl ⟨SqL.of hv, fun p hp => ?_⟩⟩
      exact o _ m _ (.put hp) (by unfold RepV; exact ⟨p, _, rfl, upd_same, rl2.mono (.put hp)⟩) (rh.put hp)
    · exact o.elim
  · obtain ⟨x, rfl, r1⟩ := repL1 r
    have r0 := r1
    unfold RepV at r1
    obtain ⟨a, xs, rfl, ha, rl2⟩ := r1
    exact call_tuple_of pns s σ H _ us Q I rl ⟨a, xs, rfl, .inr ⟨SqT.of ha, OutV.keep o r0 rh⟩⟩
  · exact o.elim
theorem c_sum (hc : X.calm = true) : CallR X (.builtin "sum") (rC X.K sumF) := by
  intro pns s σ H vs us Q I rl h
  obtain ⟨m, hs, ds, r, rh, o⟩ := h
  unfold sumF at o
  split at o
  · obtain ⟨x, rfl, r1⟩ := repL1 r
    unfold RepV at r1
    obtain ⟨a, ha, rfl⟩ := r1
    split at o
    · rename_i xs e1
      obtain ⟨vs, hv, rl2⟩ := rh.lst ha e1
      cases q : intsOf xs with
      | none => rw [q] at o; exact o.elim
      | some ns =>
        rw [q] at o
        rw [intsOf_some q] at rl2
        have := repL_map rl2
        subst this
        exact cr_sum hc pns s σ H _ us Q I rl ⟨a, ns, rfl, SqL.of hv, OutV.keep o (by unfold RepV; rfl) rh⟩
    · exact o.elim
  · exact o.elim
theorem c_max1 (hc : X.calm = true) : CallR X (.builtin "max") (rC X.K max1F) := by
  intro pns s σ H vs us Q I rl h
  obtain ⟨m, hs, ds, r, rh, o⟩ := h
  unfold max1F at o
  split at o
  · obtain ⟨x, rfl, r1⟩ := repL1 r
    unfold RepV at r1
    obtain ⟨a, ha, rfl⟩ := r1
    split at o
    · rename_i xs e1
      obtain ⟨vs, hv, rl2⟩ := rh.lst ha e1
      split at o
      · rename_i n ns q
        rw [intsOf_some q] at rl2
        have := repL_map rl2
        subst this
        refine cr_max hc pns s σ H _ us Q I rl ⟨a, n :: ns, rfl, SqL.of hv, Nat.succ_pos _, fun k hk hle => ?_⟩
        obtain ⟨h1, h2, h3⟩ := maxI_spec ns n
        have e : k = maxI n ns := by
          have a1 : maxI n ns ≤ k := by
            rcases h1 with h1 | h1
            · rw [h1]; exact hle n List.mem_cons_self
            · exact hle _ (List.mem_cons_of_mem _ h1)
          have a2 : k ≤ maxI n ns := by
            rcases List.mem_cons.mp hk with e | hk
            · rw [e]; exact h2
            · exact h3 k hk
          omega
        rw [e]
        exact OutV.keep o (by unfold RepV; rfl) rh
      · exact o.elim
    · exact o.elim
  · exact o.elim
theorem c_max2 (hc : X.calm = true) : CallR X (.builtin "max") (rC X.K max2F) := by
  intro pns s σ H vs us Q I rl h
  obtain ⟨m, hs, ds, r, rh, o⟩ := h
  unfold max2F at o
  split at o
  · obtain ⟨x, y, rfl, r1, r2⟩ := repL2 r
    unfold RepV at r1 r2; subst r1 r2
    exact call_max2 hc pns s σ H _ us Q I rl ⟨_, _, rfl, OutV.keep o (by unfold RepV; rfl) rh⟩
  · exact o.elim
theorem c_min2 (hc : X.calm = true) : CallR X (.builtin "min") (rC X.K min2F) := by
  intro pns s σ H vs us Q I rl h
  obtain ⟨m, hs, ds, r, rh, o⟩ := h
  unfold min2F at o
  split at o
  · obtain ⟨x, y, rfl, r1, r2⟩ := repL2 r
    unfold RepV at r1 r2; subst r1 r2
    exact call_min2 hc pns s σ H _ us Q I rl ⟨_, _, rfl, OutV.keep o (by unfold RepV; rfl) rh⟩
  · exact o.elim
end
def tyD : D → Hs → Option String
  | .non, _ => some "NoneType"
  | .bl _, _ => some "bool"
  | .int _, _ => some "int"
  | .str _, _ => some "str"
  | .tup _, _ => some "tuple"
  | .ro _, _ => some "list"
  | .exn _, _ => none
  | .loc l, h => match h[l]? with
    | some (.lst _) => some "list"
    | some (.dct _) => some "dict"
    | some (.fdc _) => some "dict"
    | _ => none
def isB (t T : String) : Bool := t == T || (t == "bool" && T == "int")
def isF (T : String) (d : D) (h : Hs) : Res := (tyD d h).map fun t => (.bl (isB t T), h)
theorem kitB_ok {t T : String} (ht : t ∈ ["NoneType", "bool", "int", "str", "tuple", "list", "dict"]) (hT : T ∈ ["bool", "int", "str", "tuple", "list", "dict"]) : kitB t T = some (isB t T) := by
  simp only [List.mem_cons, List.not_mem_nil, or_false] at ht hT
  rcases ht with rfl | rfl | rfl | rfl | rfl | rfl | rfl <;> rcases hT with rfl | rfl | rfl | rfl | rfl | rfl <;> decide +kernel
theorem tyD_mem {d : D} {h : Hs} {t : String} (e : tyD d h = some t) : t ∈ ["NoneType", "bool", "int", "str", "tuple", "list", "dict"] := by
  unfold tyD at e
  split at e
  all_goals first
    | (cases e; simp; done)
    | (cases e; done)
    | (split at e <;> first | (cases e; simp; done) | cases e)
theorem tyX_of {X : Cx} {m : List Addr} {H : Hp} {h : Hs} {d : D} {v : V} {t : String} (r : RepV X.K m H d v) (rh : RepH X.K m H h) (e : tyD d h = some t) : TyX X.K H v (.type t) := by
  unfold tyD at e
  split at e
  · cases e; unfold RepV at r; subst r; exact .base .non
  · cases e; unfold RepV at r; subst r; exact .base (.bl _)
  · cases e; unfold RepV at r; subst r; exact .base (.int _)
  · cases e; unfold RepV at r; subst r; exact .base (.str _)
  · cases e; unfold RepV at r; obtain ⟨a, xs, rfl, ha, _⟩ := r; exact .base (.tup ha)
  · cases e
    unfold RepV at r
    obtain ⟨a, rfl, ha⟩ := r
    rcases ha with ⟨o, ha⟩ | ⟨o, its, n, hk, hc, _⟩
    · exact .base (.frz ha)
    · exact .kList hk hc
  · cases e
  · unfold RepV at r
    obtain ⟨a, ha, rfl⟩ := r
    split at e
    · rename_i e1
      cases e
      obtain ⟨vs, hv, _⟩ := rh.lst ha e1
      exact .base (.lst hv)
    · rename_i e1
      cases e
      obtain ⟨ks, hk, _⟩ := rh.at_ _ a _ ha e1
      exact .base (.dK hk)
    · rename_i e1
      cases e
      obtain ⟨ob, ks, hk, _⟩ := rh.at_ _ a _ ha e1
      exact .fDict hk
    · cases e
theorem em_isi {X : Cx} {g : Cfg} {e : Expr} {A : EM} {T : String} {Tn : Str} {p p2 pos : Pos} (hK : X.K = g.K) (hT : T ∈ ["bool", "int", "str", "tuple", "list", "dict"]) (hg : Gl X "isinstance") (hm : X.mg "isinstance" = none) (hgT : Gl X Tn) (hmT : X.mg Tn = none) (hv : bootBuiltins Tn = some (.type T))
    (ha : PE X e (tM g A)) (hn : Tn ≠ "__name__" := by decide) (hd : (Tn == ("__debug__" : Str)) = false := by decide)
    (he : starEach [e, .Name Tn p2] X.env = (false, eval e X.env) :: starEach [.Name Tn p2] X.env := by rfl) (hpl : (backTo pos (starEach [.Name Tn p2] X.env)).any (·.1) = false := by rfl) : PE X (.Call (.Name "isinstance" p) [e, .Name Tn p2] [] pos) (tM g (unM (isF T) A)) := by
  refine PE.weak (pe_callB call_isi hg hm (by decide +kernel) (pa_cons ha (pa_cons (pe_bltn (v := .ty T) hgT hmT hv rfl hn hd) pa_nil) he) (by decide) (by decide) he hpl) fun σ H Q ⟨m, ds, h, hs, rh, o⟩ => ⟨m, ds, h, hs, rh, OutE.toE o fun d h1 v m1 H1 g1 r1 rh1 o1 => ?_⟩
  unfold isF at o1
  cases q : tyD d h1 with
  | none => rw [q] at o1; exact o1.elim
  | some t =>
    rw [q] at o1
    have ty : TyX X.K H1 v (.type t) := tyX_of (X := X) (by rw [hK]; exact r1) (by rw [hK]; exact rh1) q
    exact ⟨v, .ty T, .type t, .type T, isB t T, rfl, .ty T, ty, kit_ty (kitB_ok (tyD_mem q) hT), o1 _ m1 H1 (.refl _ _) (by unfold RepV; rfl) rh1⟩
end DV
namespace DV
open PySem PySem.Spec PyProof.Rows L2
noncomputable def rng3 : List D → Option (List D)
  | [.int i, .int j, .int k] => if k = -1 ∧ inR i = true ∧ inR j = true then some ((List.range (i - j).toNat).map fun (t : Nat) => .int (i - (t : Int))) else none
  | _ => none
theorem rng3_inv {xs its : List D} (h : rng3 xs = some its) : ∃ i j : Int, xs = [.int i, .int j, .int (-1)] ∧ ((-(2 ^ 62) ≤ i ∧ i < 2 ^ 62) ∧ -(2 ^ 62) ≤ j ∧ j < 2 ^ 62) ∧ its = (List.range (i - j).toNat).map fun (t : Nat) => .int (i - (t : Int)) := by
  unfold rng3 at h
  split at h
  · rename_i i j k
    split at h
    · rename_i hj
      obtain ⟨rfl, hi, hj⟩ := hj
      exact ⟨i, j, rfl, ⟨cB_iff.mp hi, cB_iff.mp hj⟩, (Option.some.inj h).symm⟩
    · cases h
  · cases h
theorem isIt_rngC {K : PySem.W.Frag} {lo : Int} {n : Nat} {m : List Addr} {H : Hp} : IsIt K (Itc lo (-1) n) ((List.range n).map fun (k : Nat) => .int (lo - (k : Int))) (fun _ => True) m H := by
  intro i m' H' h' g' rh' _
  refine ⟨fun d hd => ?_, fun hi => (show n ≤ i by simpa using hi)⟩
  rw [List.getElem?_map] at hd
  by_cases hl : i < n
  · rw [List.getElem?_range hl] at hd
    cases hd
    refine ⟨hl, fun y H2 ⟨e2, q⟩ => ?_⟩
    subst e2 q
    refine ⟨.refl _ _, ?_, rh'⟩
    unfold RepV
    have e : lo + (i : Nat) * (-1 : Int) = lo - (i : Nat) := by omega
    rw [e]
  · rw [List.getElem?_eq_none (by simpa using hl)] at hd; cases hd
theorem repL3 {K : PySem.W.Frag} {m : List Addr} {H : Hp} {d e f : D} {vs : List V} (r : RepL K m H [d, e, f] vs) : ∃ v u w, vs = [v, u, w] ∧ RepV K m H d v ∧ RepV K m H e u ∧ RepV K m H f w := by
  unfold RepL at r
  obtain ⟨x, r, rfl, h1, h2⟩ := r
  obtain ⟨u, w, rfl, h3, h4⟩ := repL2 h2
  exact ⟨x, u, w, rfl, h1, h3, h4⟩
section
variable {X : Cx} {g : Cfg} {tg e a b c : Expr} {A : EM} {pos : Pos}
theorem im_rng3 {As : AM} {p : Pos} (hg : Gl X "range") (hm : X.mg "range" = none) (ha : PA X [a, b, c] (tA g As)) (hs : starEach [a, b, c] X.env = (false, eval a X.env) :: starEach [b, c] X.env := by rfl) (hpl : (backTo pos (starEach [b, c] X.env)).any (·.1) = false := by rfl) : PI X tg (.Call (.Name "range" p) [a, b, c] [] pos) (tI g (rngI rng3 As)) := by
  refine PI.weak (pi_range3 hg hm ha hs hpl) fun σ H R ⟨m, ds, h, hs, rh, o⟩ => ⟨m, ds, h, hs, rh, OutA.toI o fun xs h1 vs m1 H1 g1 rl rh1 o1 => ?_⟩
  cases q : rng3 xs with
  | none => simp only [q] at o1; exact o1.elim
  | some its =>
    simp only [q] at o1
    obtain ⟨i, j, rfl, hj, rfl⟩ := rng3_inv q
    obtain ⟨v, u, w, rfl, r1, r2, r3⟩ := repL3 rl
    unfold RepV at r1 r2 r3
    subst r1 r2 r3
    exact ⟨i, j, -1, _, rfl, .neg hj.1.1 hj.1.2 hj.2.1 hj.2.2, o1 _ m1 H1 (.refl _ _) rh1 isIt_rngC⟩
end
/-- the receiver is of that type when it has been read -/
def mtMc (ck : D → Hs → Bool) (F : D → List D → Hs → Res) (O : EM) (As : AM) : EM := fun ds h => (O ds h).bind fun d h => if ck d h = true then (As ds h).bind fun xs h => .ofO (F d xs h) else .bad
def ckList : D → Hs → Bool
  | .loc l, h => match h[l]? with
    | some (.lst _) => true
    | _ => false
  | .ro _, _ => true
  | _, _ => false
def ckDct : D → Hs → Bool
  | .loc l, h => match h[l]? with
    | some (.dct _) => true
    | _ => false
  | _, _ => false
theorem ckList_ty {K : PySem.W.Frag} {m : List Addr} {H : Hp} {h : Hs} {d : D} {v : V} (r : RepV K m H d v) (rh : RepH K m H h) (c : ckList d h = true) : tyV K "list" v H := by
  unfold ckList at c
  split at c
  · unfold RepV at r
    obtain ⟨a, ha, rfl⟩ := r
    split at c
    · rename_i e
      obtain ⟨vs, hv, _⟩ := rh.lst ha e
      exact .inl ⟨rfl, vs, SqL.of hv⟩
    · cases c
  · unfold RepV at r
    obtain ⟨a, rfl, ha⟩ := r
    exact .inl ⟨rfl, _, ha.sq⟩
  · cases c
theorem ckDct_ty {K : PySem.W.Frag} {m : List Addr} {H : Hp} {h : Hs} {d : D} {v : V} (r : RepV K m H d v) (rh : RepH K m H h) (c : ckDct d h = true) : tyV K "dict" v H := by
  unfold ckDct at c
  split at c
  · unfold RepV at r
    obtain ⟨a, ha, rfl⟩ := r
    split at c
    · rename_i e
      obtain ⟨ks, hk, _⟩ := rh.at_ _ a _ ha e
      exact .inr (.inr (.inl ⟨rfl, .inl ⟨ks, hk⟩⟩))
    · cases c
  · cases c
/-- a method's rule by values -/
def rMt (K : PySem.W.Frag) (F : D → List D → Hs → Res) : V → List V → Hp → VK → Prop := fun x vs H Q => ∃ m h d ds, RepV K m H d x ∧ RepL K m H ds vs ∧ RepH K m H h ∧ OutV K m H Q (F d ds h)
section
variable {X : Cx} {g : Cfg} {o e : Expr} {es : List Expr} {O : EM} {As : AM} {name : Str} {apos cpos : Pos} {T id : String} {F : D → List D → Hs → Res} {ck : D → Hs → Bool}
theorem em_bm (hK : X.K = g.K) (pa : PlainAttrs T) (slot : Slot T name id) (hty : typeOf (.builtin id) = pure (.type "method_descriptor")) (hm : MtR X id (rMt g.K F))
    (hck : ∀ m H h d v, RepV g.K m H d v → RepH g.K m H h → ck d h = true → tyV g.K T v H) (ho : PE X o (tM g O)) (ha : PA X (e :: es) (tA g As))
    (hbase : attributeBase o name X.env (eval o X.env) = eval o X.env := by rfl)
    (hfew : ((backTo cpos (starEach (e :: es) X.env)).all (fun x => !x.1) && (backToKw cpos (keywordEach [] X.env)).all (fun x => x.1.isSome)
      && decide ((e :: es).length + ([] : List Keyword).length + (if ([] : List Keyword).isEmpty then 0 else 1) < 30)) = true := by rfl)
    (hline : (apos.endLine == cpos.line) = true := by rfl) (hs : starEach (e :: es) X.env = (false, eval e X.env) :: starEach es X.env := by rfl) (hplain : (backTo cpos (starEach es X.env)).any (·.1) = false := by rfl) :
    PE X (.Call (.Attribute o name apos) (e :: es) [] cpos) (tM g (mtMc ck F O As)) := by
  refine PE.weak (pe_bm pa slot hty hm ho ha hbase hfew hline hs hplain) fun σ H Q ⟨m, ds, h, hs, rh, o⟩ => ⟨m, ds, h, hs, rh, OutE.toE o fun d h1 v m1 H1 g1 r1 rh1 o1 => ?_⟩
  by_cases c : ck d h1 = true
  · rw [if_pos c] at o1
    refine ⟨by rw [hK]; exact hck m1 H1 h1 d v r1 rh1 c, m1, ds, h1, hs.mono g1, rh1, OutA.toE o1 fun xs h2 vs m2 H2 g2 rl rh2 o2 => ?_⟩
    exact ⟨m2, h2, d, xs, r1.mono g2, rl, rh2, .of o2⟩
  · rw [if_neg c] at o1; exact o1.elim
theorem em_bm0 (hK : X.K = g.K) (pa : PlainAttrs T) (slot : Slot T name id) (hty : typeOf (.builtin id) = pure (.type "method_descriptor")) (hm : MtR X id (rMt g.K F))
    (hck : ∀ m H h d v, RepV g.K m H d v → RepH g.K m H h → ck d h = true → tyV g.K T v H) (ho : PE X o (tM g O))
    (hbase : attributeBase o name X.env (eval o X.env) = eval o X.env := by rfl) (hline : (apos.endLine == cpos.line) = true := by rfl) :
    PE X (.Call (.Attribute o name apos) [] [] cpos) (tM g (mtMc ck F O nilA)) := by
  refine PE.weak (pe_bm0 pa slot hty hm ho hbase hline) fun σ H Q ⟨m, ds, h, hs, rh, o⟩ => ⟨m, ds, h, hs, rh, OutE.toE o fun d h1 v m1 H1 g1 r1 rh1 o1 => ?_⟩
  by_cases c : ck d h1 = true
  · rw [if_pos c] at o1
    exact ⟨by rw [hK]; exact hck m1 H1 h1 d v r1 rh1 c, m1, h1, d, [], r1, .nil, rh1, .of o1⟩
  · rw [if_neg c] at o1; exact o1.elim
end
def appendF : D → List D → Hs → Res
  | .loc l, [d], h => match h[l]? with
    | some (.lst ds) => if ds.length < LIM then some (.non, h.set l (.lst (ds ++ [d]))) else none
    | _ => none
  | _, _, _ => none
def popF : D → List D → Hs → Res
  | .loc l, [], h => match h[l]? with
    | some (.lst ds) => (ds[ds.length - 1]?).map fun d => (d, h.set l (.lst ds.dropLast))
    | _ => none
  | _, _, _ => none
theorem RepL.dropLast {K : PySem.W.Frag} {m : List Addr} {H : Hp} {ds : List D} {vs : List V} (r : RepL K m H ds vs) : RepL K m H ds.dropLast vs.dropLast := by
  rw [List.dropLast_eq_take, List.dropLast_eq_take, r.length]
  exact r.take _
/-- a list written -/
theorem write_lst {K : PySem.W.Frag} {m : List Addr} {H : Hp} {h : Hs} {l : Nat} {a : Addr} {xs ys : List V} {ds : List D} {Q : VK} {d : D} {v : V} (rh : RepH K m H h) (ha : m[l]? = some a) (hv : H a = some (.lst xs)) (rl : RepL K m H ds ys) (rv : RepV K m H d v)
    (o : OutV K m H Q (some (d, h.set l (.lst ds)))) : Q v (upd H a (.lst ys)) :=
  have w : Grow m H m (upd H a (.lst ys)) := .write hv (fun _ z => nomatch z) (fun _ _ z => nomatch z) (fun _ z => nomatch z)
  o v m _ w (rv.mono w) (rh.write ha hv (fun _ z => nomatch z) (fun _ _ z => nomatch z) (fun _ z => nomatch z) ⟨ys, upd_same, rl.mono w⟩)
section
variable {X : Cx}
theorem k_append : MtR X "list.append" (rMt X.K appendF) := by
  intro pns s σ H x vs v us Q I rx rv h
  obtain ⟨m, hs, d, ds, r1, rl, rh, o⟩ := h
  unfold appendF at o
  split at o
  · unfold RepV at r1
    obtain ⟨a, ha, rfl⟩ := r1
    obtain ⟨y, rfl, r2⟩ := repL1 rl
    split at o
    · rename_i xs e
      obtain ⟨ws, hw, rl2⟩ := rh.lst ha e
      split at o
      · rename_i hz
        exact mt_append pns s σ H _ _ v us Q I rx rv ⟨a, ws, y, rfl, rfl, hw, by rw [LIM_eq, rl2.length]; exact hz, write_lst rh ha hw (rl2.append (.cons r2 .nil)) (by unfold RepV; rfl) o⟩
      · exact o.elim
    · exact o.elim
  · exact o.elim
theorem k_pop : MtR X "list.pop" (rMt X.K popF) := by
  intro pns s σ H x vs v us Q I rx rv h
  obtain ⟨m, hs, d, ds, r1, rl, rh, o⟩ := h
  unfold popF at o
  split at o
  · unfold RepV at r1
    obtain ⟨a, ha, rfl⟩ := r1
    unfold RepL at rl
    subst rl
    split at o
    · rename_i xs e
      obtain ⟨ws, hw, rl2⟩ := rh.lst ha e
      cases q : xs[xs.length - 1]? with
      | none => rw [q] at o; exact o.elim
      | some d =>
        rw [q] at o
        obtain ⟨y, hy, ry⟩ := rl2.get q
        exact mt_pop pns s σ H _ _ v us Q I rx rv ⟨a, ws, y, rfl, rfl, hw, by rw [rl2.length]; exact hy, write_lst rh ha hw rl2.dropLast ry o⟩
    · exact o.elim
  · exact o.elim
end
def setIxM (F : D → D → D → Hs → Option Hs) (V O I : EM) : SM := fun ds h => lift (V ds h) ds fun v h => lift (O ds h) ds fun o h => lift (I ds h) ds fun i h => match F o i v h with
  | some h' => .nx ds h'
  | none => .bad
def setLF : D → D → D → Hs → Option Hs
  | .loc l, .int i, v, h => match h[l]? with
    | some (.lst ds) => (ixN ds.length i).map fun j => h.set l (.lst (ds.set j v))
    | _ => none
  | _, _, _, _ => none
def OutN (K : PySem.W.Frag) (m : List Addr) (H : Hp) (Q : Hp → Prop) : Option Hs → Prop
  | some h' => ∀ m' H', Grow m H m' H' → RepH K m' H' h' → Q H'
  | none => False
def rSt (K : PySem.W.Frag) (F : D → D → D → Hs → Option Hs) : TSet := fun o i v H Q => ∃ m h od id vd, RepV K m H od o ∧ RepV K m H id i ∧ RepV K m H vd v ∧ RepH K m H h ∧ OutN K m H Q (F od id vd h)
section
variable {X : Cx} {g : Cfg} {o i e : Expr} {V O I : EM} {pos tpos : Pos} {F : D → D → D → Hs → Option Hs}
theorem sm_setIx (hset : PSet X (rSt g.K F)) (he : PE X e (tM g V)) (ho : PE X o (tM g O)) (hi : PE X i (tM g I))
    (ha : ∀ v, assign (.Subscript o i tpos) X.env v = (do
      let ov ← holding [v] (eval o X.env)
      let iv ← holding [v, ov] (eval i X.env)
      standAt tpos
      holding [v, ov, iv] (setItem ov iv v)
      release [v, ov, iv] []) := by intro _; rfl)
    (hs : swapsWithSole [.Subscript o i tpos] e pos.line X.env = pure false := by rfl) (hw : swappedStores [.Subscript o i tpos] e X.env = pure none := by rfl)
    (h1 : (assignEach [.Subscript o i tpos] X.env).map (·.2) = [assign (.Subscript o i tpos) X.env] := by rfl) : PS X (.Assign [.Subscript o i tpos] e pos) (tS g (setIxM F V O I)) := by
  refine PS.weak (ps_asg he (pg_sub ho hi hset ha) hs hw h1) fun N σ H ⟨m, ds, h, hs, rh, o⟩ => ⟨m, ds, h, hs, rh, OutE.toS hs o fun d1 h1 v1 m1 H1 g1 r1 rh1 o1 => ?_⟩
  refine ⟨m1, ds, h1, hs.mono g1, rh1, OutE.toS (hs.mono g1) o1 fun d2 h2 v2 m2 H2 g2 r2 rh2 o2 => ?_⟩
  refine ⟨m2, ds, h2, (hs.mono g1).mono g2, rh2, OutE.toS ((hs.mono g1).mono g2) o2 fun d3 h3 v3 m3 H3 g3 r3 rh3 o3 => ?_⟩
  refine ⟨m3, h3, d2, d3, d1, r2.mono g3, r3, (r1.mono g2).mono g3, rh3, ?_⟩
  cases q : F d2 d3 d1 h3 with
  | none => rw [q] at o3; exact o3.elim
  | some h4 => rw [q] at o3; exact fun m4 H4 g4 rh4 => o3 σ m4 H4 g4 (((hs.mono g1).mono g2).mono (g3.trans g4)) rh4
theorem s_list : PSet X (rSt X.K setLF) := by
  intro pns s σ H o i v ov iv u Q I ro ri rv h
  obtain ⟨m, hs, od, id, vd, r1, r2, r3, rh, q⟩ := h
  unfold setLF at q
  split at q
  · unfold RepV at r1 r2
    obtain ⟨a, ha, rfl⟩ := r1
    subst r2
    split at q
    · rename_i xs e
      obtain ⟨ws, hw, rl2⟩ := rh.lst ha e
      cases c : ixN xs.length _ with
      | none => rw [c] at q; exact q.elim
      | some j =>
        rw [c] at q
        refine set_list pns s σ H _ _ _ ov iv u Q I ro ri rv ⟨a, ws, _, j, rfl, rfl, hw, by rw [rl2.length]; exact c, ?_⟩
        have w : Grow m H m (upd H a (.lst (ws.set j v))) := .write hw (fun _ z => nomatch z) (fun _ _ z => nomatch z) (fun _ z => nomatch z)
        exact q m _ w (rh.write ha hw (fun _ z => nomatch z) (fun _ _ z => nomatch z) (fun _ z => nomatch z) ⟨_, upd_same, (rl2.set j r3).mono w⟩)
    · exact q.elim
  · exact q.elim
end
def maxdR (d e : D) (h : Hs) : R D := match d, e with
  | .loc l, .int k => match h[l]? with
    | some (.lst xs) => match intsOf xs with
      | some [] => .ok (.int k) h
      | some (n :: ns) => .ok (.int (maxI n ns)) h
      | none => .bad
    | _ => .bad
  | _, _ => .bad
def maxdF (A B : EM) : EM := fun ds h => (A ds h).bind fun d h => (B ds h).bind fun e h => maxdR d e h
theorem dataLt_int (a b : Int) : PySem.W.dataLt (.int a) (.int b) = decide (a < b) := by
  by_cases e : a = b
  · subst e
    rw [decide_eq_false (Int.lt_irrefl _)]
    simp [PySem.W.dataLt, PySem.W.keyToks, PyProof.Rows.lexLt, itemLt]
  · have hne : (Sum.inl a : Int ⊕ List Nat) ≠ .inl b := fun z => e (Sum.inl.inj z)
    simp [PySem.W.dataLt, PySem.W.keyToks, PyProof.Rows.lexLt, itemLt, e, hne]
theorem maxD_int : ∀ (xs : List Int) (x : Int), PySem.W.maxD (.int x) (xs.map PyData.int) = .int (maxI x xs)
  | [], x => rfl
  | y :: xs, x => by
    show PySem.W.maxD (if PySem.W.dataLt (.int x) (.int y) then .int y else .int x) (xs.map PyData.int) = .int (maxI (if x < y then y else x) xs)
    rw [dataLt_int]
    by_cases c : x < y
    · rw [decide_eq_true c, if_pos rfl, if_pos c, maxD_int xs y]
    · rw [decide_eq_false c, if_neg Bool.false_ne_true, if_neg c, maxD_int xs x]
theorem depthAll_ints : ∀ ns : List Int, PyData.depthAll (ns.map PyData.int) = 0
  | [] => rfl
  | n :: ns => by
    show max 0 (PyData.depthAll (ns.map PyData.int)) = 0
    rw [depthAll_ints ns]; rfl
theorem alike_ints (ns : List Int) : PySem.W.AlikeAll (ns.map PyData.int) := by
  refine ⟨fun x hx y hy => ?_, fun x hx => ?_⟩
  · obtain ⟨a, _, rfl⟩ := List.mem_map.mp hx
    obtain ⟨b, _, rfl⟩ := List.mem_map.mp hy
    rfl
  · obtain ⟨a, _, rfl⟩ := List.mem_map.mp hx
    exact fun z => nomatch z
theorem reads_ints {h : Heap} : ∀ {ns : List Int} {us : List Value}, Vals (ns.map V.int) us → ∃ as, ReadsAll h us (ns.map PyData.int) as
  | [], _, r => by cases r; exact ⟨_, .nil⟩
  | n :: ns, _, r => by
    cases r with
    | cons r1 r2 =>
      obtain ⟨t, rfl⟩ := r1
      obtain ⟨as, q⟩ := reads_ints r2
      exact ⟨_, .cons (.int n t) q⟩
section
variable {X : Cx} {g : Cfg} {e d : Expr} {A B : EM} {p pos kpos : Pos}
/-- max(list of ints, default = d) -/
theorem pe_maxd {te td : TE} (hc : X.calm = true) (hu : X.A.units + 1 < cLine) (hg : Gl X "max") (hm : X.mg "max" = none) (ha : PE X e te) (hb : PE X d td) (hs : starEach [e] X.env = [(false, eval e X.env)] := by rfl) :
    PE X (.Call (.Name "max" p) [e] [⟨some "default", d, kpos⟩] pos) (fun σ H Q => te σ H fun x H1 => td σ H1 fun y H2 => ∃ a ns, x = .ref a ∧ SqL X.K H2 a (ns.map V.int) ∧ Q (match ns with | [] => y | n :: ns => .int (maxI n ns)) H2) := by
  refine ⟨fun pns s σ H Q I h => ?_⟩
  refine wpAny_Call_Name_kw (ld_blt (u := .builtin "max") I hg hm (by decide +kernel) ?_ (by decide) (by decide))
  refine PyProof.Rows.callWith_kw ?_ (by rw [hs] <;> rfl) (by rw [hs] <;> rfl) rfl rfl
  have hpa : PA X [e] (fun σ H Q => te σ H fun x H1 => Q [x] H1) := PA.weak (pa_cons ha pa_nil (by rw [hs] <;> rfl)) fun _ _ _ q => q
  have hpk : PK X [⟨some "default", d, kpos⟩] (fun σ H Q => td σ H fun x H1 => Q [x] H1) := ⟨fun pos pns s σ H Q I h => (pk_cons (kpos := kpos) (nm := some "default") hb pk_nil).run pos pns s σ H Q I h⟩
  refine thn (hpa.run pos pns s σ H (fun vs H1 => match vs with
    | [x] => td σ H1 fun y H2 => ∃ a ns, x = .ref a ∧ SqL X.K H2 a (ns.map V.int) ∧ Q (match ns with | [] => y | n :: ns => .int (maxI n ns)) H2
    | _ => False) I h) fun us s1 ⟨vs, H1, I1, r1, q1⟩ => ?_
  match vs, r1, q1 with
  | [x], r1, q1 =>
  obtain ⟨ux, rfl, rx⟩ := vals1 r1
  refine thn (hpk.run pos pns s1 σ H1 (fun vs H2 => match vs with
    | [y] => ∃ a ns, x = .ref a ∧ SqL X.K H2 a (ns.map V.int) ∧ Q (match ns with | [] => y | n :: ns => .int (maxI n ns)) H2
    | _ => False) I1 q1) fun ws s2 ⟨vs, H2, I2, r2, q2⟩ => ?_
  match vs, r2, q2 with
  | [y], r2, q2 =>
  obtain ⟨a, ns, e3, hq, q2⟩ := q2
  subst e3
  cases rx
  obtain ⟨uy, rfl, ry⟩ := vals1 r2
  obtain ⟨its, rv, pl, hz⟩ := I2.list hq
  obtain ⟨as, hr⟩ := reads_ints (h := s2.heap) rv
  refine PySem.W.max_list_default (I2.ok.hd hc) pl.isList hr (alike_ints ns) (by rw [depthAll_ints]; omega) (fun en h' tk k => ?_) fun z zs i v h' tk bs en hv hrd k => ?_
  · have : ns = [] := List.map_eq_nil_iff.mp en
    subst this
    exact ⟨y, H2, I2.kept k, ry, q2⟩
  · cases ns with
    | nil => cases en
    | cons n ns =>
      rw [List.map_cons] at en
      injection en with e1 e2
      subst e1 e2
      rw [maxD_int] at hrd
      cases hrd
      exact ⟨.int (maxI n ns), H2, I2.kept k, ⟨_, rfl⟩, q2⟩
theorem em_maxd (hK : X.K = g.K) (hc : X.calm = true) (hu : X.A.units + 1 < cLine) (hg : Gl X "max") (hm : X.mg "max" = none) (ha : PE X e (tM g A)) (hb : PE X d (tM g B)) (hs : starEach [e] X.env = [(false, eval e X.env)] := by rfl) :
    PE X (.Call (.Name "max" p) [e] [⟨some "default", d, kpos⟩] pos) (tM g (maxdF A B)) := by
  refine PE.weak (pe_maxd hc hu hg hm ha hb hs) fun σ H Q ⟨m, ds, h, hs, rh, o⟩ => ⟨m, ds, h, hs, rh, OutE.toE o fun d1 h1 v1 m1 H1 g1 r1 rh1 o1 => ⟨m1, ds, h1, hs.mono g1, rh1, OutE.toE o1 fun d2 h2 v2 m2 H2 g2 r2 rh2 o2 => ?_⟩⟩
  have r1 := r1.mono g2
  unfold maxdR at o2
  split at o2
  · rename_i l k
    unfold RepV at r1 r2
    obtain ⟨a, ha, rfl⟩ := r1
    split at o2
    · rename_i xs ex
      obtain ⟨vs, hv, rl⟩ := rh2.lst ha ex
      cases q : intsOf xs with
      | none => rw [q] at o2; exact o2.elim
      | some ns =>
        rw [q] at o2
        rw [intsOf_some q] at rl
        have := repL_map rl
        subst this
        refine ⟨a, ns, rfl, by rw [hK]; exact SqL.of hv, ?_⟩
        cases ns with
        | nil => exact o2 _ m2 H2 (.refl _ _) (by unfold RepV; exact r2) rh2
        | cons n ns => exact o2 _ m2 H2 (.refl _ _) (by unfold RepV; rfl) rh2
    · exact o2.elim
  · exact o2.elim
end
end DV
namespace DV
open PySem PySem.Spec PyProof.Rows L2
structure Blt (mg : Str → Option Value) : Prop where
  z_len : mg "len" = none
  z_range : mg "range" = none
  z_int : mg "int" = none
  z_str : mg "str" = none
  z_sum : mg "sum" = none
  z_max : mg "max" = none
  z_min : mg "min" = none
  z_enumerate : mg "enumerate" = none
  z_isinstance : mg "isinstance" = none
  z_tuple : mg "tuple" = none
  z_list : mg "list" = none
  z_dict : mg "dict" = none
  z_sorted : mg "sorted" = none
  z_abs : mg "abs" = none
  z_all : mg "all" = none
  z_set : mg "set" = none
  z_bool : mg "bool" = none
theorem hu1 {k : Nat} {A : Around} (hr : Room k A) : A.units + 1 < cLine := hu_of hr
theorem hu195 {k : Nat} {A : Around} (hr : Room k A) : A.units + 195 < cLine := by have := hr.un; omega
def flatD : D → Bool
  | .non => true
  | .bl _ => true
  | .int _ => true
  | .str _ => true
  | _ => false
def toV : D → V
  | .non => .non
  | .bl b => .bl b
  | .int i => .int i
  | .str s => .str s
  | _ => .non
theorem flat_toV {K : PySem.W.Frag} {m : List Addr} {H : Hp} {d : D} {v : V} (r : RepV K m H d v) (f : flatD d = true) : v = toV d ∧ flatV v = true := by
  cases d with
  | non => unfold RepV at r; subst r; exact ⟨rfl, rfl⟩
  | bl b => unfold RepV at r; subst r; exact ⟨rfl, rfl⟩
  | int b => unfold RepV at r; subst r; exact ⟨rfl, rfl⟩
  | str b => unfold RepV at r; subst r; exact ⟨rfl, rfl⟩
  | tup _ => cases f
  | loc _ => cases f
  | ro _ => cases f
  | exn _ => cases f
theorem flat_toVL {K : PySem.W.Frag} {m : List Addr} {H : Hp} : ∀ {ds : List D} {vs : List V}, RepL K m H ds vs → ds.all flatD = true → vs = ds.map toV ∧ vs.all flatV = true
  | [], vs, r, _ => by unfold RepL at r; subst r; exact ⟨rfl, rfl⟩
  | d :: ds, vs, r, f => by
    unfold RepL at r
    obtain ⟨x, xs, rfl, h1, h2⟩ := r
    rw [List.all_cons, Bool.and_eq_true] at f
    obtain ⟨e1, e2⟩ := flat_toV h1 f.1
    obtain ⟨e3, e4⟩ := flat_toVL h2 f.2
    exact ⟨by rw [e1, e3]; rfl, by rw [List.all_cons, e2, e4]; rfl⟩
def inFlat (x : D) (ds : List D) : Bool := ds.any fun d => eqV (toV d) (toV x)
theorem inV_map (x : D) (ds : List D) : inV (toV x) (ds.map toV) = inFlat x ds := by
  unfold inV inFlat
  rw [List.any_map]; rfl
/-- x in y -/
def inB : D → D → Hs → Option Bool
  | .str i, .str j, _ => match i.cps.toList with
    | [c] => some (decide (c ∈ j.cps.toList))
    | _ => none
  | x, .loc l, h => match h[l]? with
    | some (.lst ds) => if flatD x && ds.all flatD then some (inFlat x ds) else none
    | some (.dct kvs) => (keyD x).map fun k => (valD kvs k).isSome
    | some (.fdc kvs) => (keyD x).map fun k => (valD kvs k).isSome
    | _ => none
  | x, .tup ds, _ => if flatD x && ds.all flatD then some (inFlat x ds) else none
  | _, _, _ => none
def inF : VF2 := fun x y h => (inB x y h).map fun b => (.bl b, h)
def ninF : VF2 := fun x y h => (inB x y h).map fun b => (.bl (!b), h)
section
variable {X : Cx} {K : PySem.W.Frag}
theorem in_core (hu : X.A.units + 1 < cLine) {pns : List (Addr × Obj)} {s : Shared} {σ : St} {H : Hp} {x y : V} {v u : Value} {m : List Addr} {hs : Hs} {dx dy : D} {b : Bool} (I : Inv X pns σ H s) (rx : RelV x v) (ry : RelV y u) (r1 : RepV X.K m H dx x) (r2 : RepV X.K m H dy y)
    (rh : RepH X.K m H hs) (e : inB dx dy hs = some b) {Q : VK} :
    (Q (.bl b) H → wpAny (model X.prog X.w) X.A (compareOp .In v u) (EP X pns σ Q) X.xe s) ∧ (Q (.bl (!b)) H → wpAny (model X.prog X.w) X.A (compareOp .NotIn v u) (EP X pns σ Q) X.xe s) := by
  unfold inB at e
  split at e
  · rename_i i j
    unfold RepV at r1 r2
    subst r1 r2
    split at e
    · rename_i c hc
      cases e
      have hi : i = ⟨#[c]⟩ := by
        cases i with
        | mk a => congr; exact Array.toList_inj.mp (by simpa using hc)
      subst hi
      exact ⟨fun q => op_in_sign pns s σ H _ _ v u Q I rx ry ⟨c, j, rfl, rfl, q⟩, fun q => op_notIn_sign pns s σ H _ _ v u Q I rx ry ⟨c, j, rfl, rfl, q⟩⟩
    · cases e
  · rename_i l
    unfold RepV at r2
    obtain ⟨a, ha, rfl⟩ := r2
    split at e
    · rename_i ds e1
      obtain ⟨vs, hv, rl⟩ := rh.lst ha e1
      split at e
      · rename_i c
        cases e
        obtain ⟨c1, c2⟩ := Bool.and_eq_true_iff.mp c
        obtain ⟨q1, q2⟩ := flat_toV r1 c1
        obtain ⟨q3, q4⟩ := flat_toVL rl c2
        have ei : inV x vs = inFlat dx ds := by rw [q1, q3, inV_map]
        exact ⟨fun q => op_in_seq pns s σ H _ _ v u Q I rx ry ⟨a, vs, rfl, .inl (SqL.of hv), q2, q4, by rw [if_neg Bool.false_ne_true, ei]; exact q⟩, fun q => op_notIn_seq pns s σ H _ _ v u Q I rx ry ⟨a, vs, rfl, .inl (SqL.of hv), q2, q4, by rw [if_pos rfl, ei]; exact q⟩⟩
      · cases e
    · rename_i kvs e1
      obtain ⟨ks, hk, kk, rk⟩ := rh.at_ _ a _ ha e1
      cases q : keyD dx with
      | none => rw [q] at e; cases e
      | some k =>
        rw [q] at e
        cases e
        have hx := kV_keyD r1 q
        subst hx
        have es : (valV ks k).isSome = (valD kvs k).isSome := by
          rcases valD_rep k kk rk with ⟨a, b⟩ | ⟨d, v, a, b, _⟩ <;> rw [a, b] <;> rfl
        have g : DGet H a (kV k) (valV ks k) := DGet.k hk
        cases ry
        exact ⟨fun q => d_in hu I g rx fun s' I' => ⟨.bl (valV ks k).isSome, H, I', rfl, by rw [es]; exact q⟩, fun q => d_notIn hu I g rx fun s' I' => ⟨.bl (!(valV ks k).isSome), H, I', rfl, by rw [es]; exact q⟩⟩
    · rename_i kvs e1
      obtain ⟨ob, ks, hk, kk, rk⟩ := rh.at_ _ a _ ha e1
      cases q : keyD dx with
      | none => rw [q] at e; cases e
      | some k =>
        rw [q] at e
        cases e
        have hx := kV_keyD r1 q
        subst hx
        have es : (valV ks k).isSome = (valD kvs k).isSome := by
          rcases valD_rep k kk rk with ⟨a, b⟩ | ⟨d, v, a, b, _⟩ <;> rw [a, b] <;> rfl
        have g : DGet H a (kV k) (valV ks k) := .inl ⟨ks, k, .inr ⟨ob, hk⟩, rfl, rfl⟩
        cases ry
        exact ⟨fun q => d_in hu I g rx fun s' I' => ⟨.bl (valV ks k).isSome, H, I', rfl, by rw [es]; exact q⟩, fun q => d_notIn hu I g rx fun s' I' => ⟨.bl (!(valV ks k).isSome), H, I', rfl, by rw [es]; exact q⟩⟩
    · cases e
  · rename_i ds
    unfold RepV at r2
    obtain ⟨a, vs, rfl, ha, rl⟩ := r2
    split at e
    · rename_i c
      cases e
      obtain ⟨c1, c2⟩ := Bool.and_eq_true_iff.mp c
      obtain ⟨q1, q2⟩ := flat_toV r1 c1
      obtain ⟨q3, q4⟩ := flat_toVL rl c2
      have ei : inV x vs = inFlat dx ds := by rw [q1, q3, inV_map]
      exact ⟨fun q => op_in_seq pns s σ H _ _ v u Q I rx ry ⟨a, vs, rfl, .inr (SqT.of ha), q2, q4, by rw [if_neg Bool.false_ne_true, ei]; exact q⟩, fun q => op_notIn_seq pns s σ H _ _ v u Q I rx ry ⟨a, vs, rfl, .inr (SqT.of ha), q2, q4, by rw [if_pos rfl, ei]; exact q⟩⟩
    · cases e
  · cases e
theorem o_in (hu : X.A.units + 195 < cLine) : OpR X (compareOp .In) (rV X.K inF) := by
  intro pns s σ H x y v u Q I rx ry h
  obtain ⟨m, hs, dx, dy, r1, r2, rh, o⟩ := h
  unfold inF at o
  cases e : inB dx dy hs with
  | none => rw [e] at o; exact o.elim
  | some b =>
    rw [e] at o
    exact (in_core (by omega) I rx ry r1 r2 rh e).1 (o _ m H (.refl _ _) (by unfold RepV; rfl) rh)
theorem o_nin (hu : X.A.units + 195 < cLine) : OpR X (compareOp .NotIn) (rV X.K ninF) := by
  intro pns s σ H x y v u Q I rx ry h
  obtain ⟨m, hs, dx, dy, r1, r2, rh, o⟩ := h
  unfold ninF at o
  cases e : inB dx dy hs with
  | none => rw [e] at o; exact o.elim
  | some b =>
    rw [e] at o
    exact (in_core (by omega) I rx ry r1 r2 rh e).2 (o _ m H (.refl _ _) (by unfold RepV; rfl) rh)
end
end DV
namespace DV
open PySem PySem.Spec PyProof.Rows L2
/-- no exception leaves where none is let -/
theorem cx_none {P : Program} {w : World} {H : Hp} {s : Shared} {e : Value} {s' : Shared} (c : L2.CX P w [] H s (fun _ _ _ => False) e s') : False := by
  obtain ⟨_, _, _, _, _, _, _, _, _, _, _, _, z⟩ := c
  exact z
theorem spM_ro {K : PySem.W.Frag} {φ : Fm} {H : Hp} {a : Addr} {ns : List Int} {h' : Hs} (hO : Only H) (hS : SqL K H a (ns.map V.int)) (e : φ [.ro ns] [] = .ok (.bl true) h') : spM K 1 φ [.ref a] H (fun v _ => v = .bl true) (fun _ _ _ => False) := by
  have hq : SqR K H a (ns.map V.int) := by
    rcases hS with h | h
    · rcases h with h | ⟨o, h⟩
      · rcases hO a with z | ⟨o, xs, z⟩
        · rw [z] at h; cases h
        · rw [z] at h; cases h
      · exact .inl ⟨o, h⟩
    · exact .inr h
  refine ⟨rfl, [], [.ro ns], [], .cons (by unfold RepV; exact ⟨a, rfl, hq⟩) .nil, ⟨rfl, List.nodup_nil, fun i b o hi => by simp at hi⟩, ?_⟩
  rw [e]
  intro v m' H' _ rv _
  unfold RepV at rv
  exact rv
theorem law_end {l : PySem.W.OpenLaw} {k : Nat} {q : Program} {loose : List Str} {XP : (Str → Option Value) → Heap → Prop} {YP : World → Heap → Prop} {d : DefRec} {φ : Fm}
    (hn : l.most = some 63) (hdf : d.params.defaults = []) (hr : Room k callerA) (hφ : ∀ ns : List Int, ns.length ≤ 63 → ∃ h', φ [.ro ns] [] = .ok (.bl true) h')
    (G : ∀ (w : World) (mg : Str → Option Value) (fa : Addr) (h : Heap), YP w h → h.Ns mainGlobals mg → mg d.name = some (.ref fa) →
      ∃ (K : PySem.W.Frag) (fd : FuncData), K.In h ∧ (∀ (s : Shared) (u : Value), BindsTo s fd ⟨[u], []⟩ [("script", u)]) ∧
        ∀ base : Heap, K.In base → base.Ns mainGlobals mg → FnOk l.prog w K mg base (L2.CX l.prog w) k fa fd ["script"] (spM K 1 φ)) :
    PySem.W.WalkO q loose XP YP l.row.toRowW d [] (fun f vs => PySem.call f vs) := by
  refine Att.attach_call hn hdf fun w sA sB mg mb fa o pm cd doc a vs ns T Y ho hd hcd hmg hobj hints hlen hg => ?_
  obtain ⟨K, fd, KX, hb, hF⟩ := G w mg fa _ Y T.T.g hmg
  refine law_call KX T.T.g T.T.b T.T.builtins T.T.nolimit hg hobj hints (Nat.le_trans hlen (by rw [sizeLine_eq]; decide)) hr hF hb (fun H hO hS => ?_) fun H e s' => cx_none
  obtain ⟨h', e⟩ := hφ ns hlen
  exact spM_ro hO hS e
def FUEL : Nat := 100000
theorem fnAt_by {P : Program} {w : World} {K : PySem.W.Frag} {mg : Str → Option Value} {base : Heap} {x qual : Str} {params : Arguments} {body : List Stmt} {scope : Scope} {f : Addr} {fd : FuncData} {ps : List Str} {k np nN : Nat} {M : SM} (kd : Nrm) (hp : ps.length = np)
    (F : FunD K x qual params body scope [] [] f fd) (hm : mg x = some (.ref f)) (hb : Binds K fd ps []) (G : FnOk P w K mg base (L2.CX P w) (k + 1) f fd ps (spM K np (kd.f (runM np nN M)))) : FnAt P w K mg base (k + 1) x ps (kd.f (runM np nN M)) := by
  subst hp
  exact ⟨⟨f, fd, hm, F.kp, hb, G⟩, kd.ar _ _ (runM_ar _ _ _)⟩
end DV
namespace DV
open PySem PySem.Spec PyProof.Rows L2
abbrev QX := Str → Hs → Prop
def R.wp {α : Type} (r : R α) (Q : α → Hs → Prop) (X : QX) : Prop := match r with
  | .ok a h => Q a h
  | .exc c h => X c h
  | .bad => False
def RS.wp (r : RS) (N : Sl → Hs → Prop) (Q : D → Hs → Prop) (X : QX) : Prop := match r with
  | .nx ds h => N ds h
  | .rt d h => Q d h
  | .exc c _ h => X c h
  | _ => False
def xF : QX := fun _ _ => False
@[simp] theorem wp_ok {α : Type} (a : α) (h : Hs) (Q : α → Hs → Prop) (X : QX) : (R.ok a h).wp Q X = Q a h := rfl
@[simp] theorem wp_exc {α : Type} (c : Str) (h : Hs) (Q : α → Hs → Prop) (X : QX) : (R.exc c h : R α).wp Q X = X c h := rfl
@[simp] theorem wp_bad {α : Type} (Q : α → Hs → Prop) (X : QX) : (R.bad : R α).wp Q X = False := rfl
@[simp] theorem wp_bind {α β : Type} (r : R α) (k : α → Hs → R β) (Q : β → Hs → Prop) (X : QX) : (r.bind k).wp Q X = r.wp (fun a h => (k a h).wp Q X) X := by cases r <;> rfl
@[simp] theorem ws_lift {α : Type} (r : R α) (ds : Sl) (k : α → Hs → RS) (N : Sl → Hs → Prop) (Q : D → Hs → Prop) (X : QX) : (lift r ds k).wp N Q X = r.wp (fun a h => (k a h).wp N Q X) X := by cases r <;> rfl
theorem R.wp_mono {α : Type} {r : R α} {Q Q' : α → Hs → Prop} {X X' : QX} (w : r.wp Q X) (f : ∀ a h, Q a h → Q' a h) (g : ∀ c h, X c h → X' c h) : r.wp Q' X' := by
  cases r with
  | ok a h => exact f a h w
  | exc c h => exact g c h w
  | bad => exact w
theorem RS.wp_mono {r : RS} {N N' : Sl → Hs → Prop} {Q Q' : D → Hs → Prop} {X X' : QX} (w : r.wp N Q X) (e : ∀ ds h, N ds h → N' ds h) (f : ∀ a h, Q a h → Q' a h) (g : ∀ c h, X c h → X' c h) : r.wp N' Q' X' := by
  cases r with
  | nx ds h => exact e ds h w
  | rt a h => exact f a h w
  | exc c ds h => exact g c h w
  | bk _ _ => exact w
  | ct _ _ => exact w
  | bad => exact w
/-- a told end -/
theorem R.wp_eq {α : Type} {r : R α} {a : α} {h : Hs} : r.wp (fun a' h' => a' = a ∧ h' = h) xF ↔ r = .ok a h := by
  cases r with
  | ok a' h' => exact ⟨fun ⟨e1, e2⟩ => by rw [e1, e2], fun e => by cases e; exact ⟨rfl, rfl⟩⟩
  | exc c h => exact ⟨fun e => e.elim, fun e => nomatch e⟩
  | bad => exact ⟨fun e => e.elim, fun e => nomatch e⟩
theorem R.wp_ex {α : Type} {r : R α} {Q : α → Hs → Prop} (w : r.wp Q xF) : ∃ a h, r = .ok a h ∧ Q a h := by
  cases r with
  | ok a h => exact ⟨a, h, rfl, w⟩
  | exc c h => exact w.elim
  | bad => exact w.elim
section
variable {N : Sl → Hs → Prop} {Q : D → Hs → Prop} {X : QX} {ds : Sl} {h : Hs}
@[simp] theorem wp_c (d : D) : (cM d ds h).wp Q X = Q d h := rfl
theorem wp_v (i : Nat) : (vM i ds h).wp Q X = (match ds[i]? with | some (some d) => Q d h | _ => False) := by
  unfold vM
  rcases ds[i]? with _ | _ | d <;> rfl
@[simp] theorem wp_ofO (o : Res) : (R.ofO o).wp Q X = (match o with | some p => Q p.1 p.2 | none => False) := by cases o <;> rfl
@[simp] theorem wp_bin (F : VF2) (A B : EM) : (binM F A B ds h).wp Q X = (A ds h).wp (fun x h => (B ds h).wp (fun y h => (R.ofO (F x y h)).wp Q X) X) X := by simp only [binM, wp_bind]
@[simp] theorem wp_un (F : D → Hs → Res) (A : EM) : (unM F A ds h).wp Q X = (A ds h).wp (fun x h => (R.ofO (F x h)).wp Q X) X := by simp only [unM, wp_bind]
@[simp] theorem wp_nilA {P : List D → Hs → Prop} : (nilA ds h).wp P X = P [] h := rfl
@[simp] theorem wp_consA {P : List D → Hs → Prop} (A : EM) (B : AM) : (consA A B ds h).wp P X = (A ds h).wp (fun x h => (B ds h).wp (fun xs h => P (x :: xs) h) X) X := by simp only [consA, wp_bind, wp_ok]
@[simp] theorem wp_arg (F : List D → Hs → Res) (A : AM) : (argM F A ds h).wp Q X = (A ds h).wp (fun xs h => (R.ofO (F xs h)).wp Q X) X := by simp only [argM, wp_bind]
@[simp] theorem wp_call (φ : Fm) (A : AM) : (callM φ A ds h).wp Q X = (A ds h).wp (fun xs h => (φ xs h).wp Q X) X := by simp only [callM, wp_bind]
@[simp] theorem wp_mt (ck : D → Hs → Bool) (F : D → List D → Hs → Res) (O : EM) (A : AM) : (mtMc ck F O A ds h).wp Q X = (O ds h).wp (fun d h => ck d h = true ∧ (A ds h).wp (fun xs h => (R.ofO (F d xs h)).wp Q X) X) X := by
  simp only [mtMc, wp_bind]
  congr 1
  funext d h
  by_cases c : ck d h = true
  · simp [c]
  · simp [c]
@[simp] theorem wp_ifE (T : TM) (A B : EM) : (ifE T A B ds h).wp Q X = (T ds h).wp (fun b h => if b = true then (A ds h).wp Q X else (B ds h).wp Q X) X := by
  simp only [ifE, wp_bind]
  congr 1
  funext b h
  split <;> rfl
@[simp] theorem wp_sl (A : EM) (lo hi : OM) : (slM A lo hi ds h).wp Q X = (A ds h).wp (fun d h => (lo ds h).wp (fun l h => (hi ds h).wp (fun u h => (R.ofO (slF d l u h)).wp Q X) X) X) X := by simp only [slM, wp_bind]
@[simp] theorem wp_noP {P : Option Int → Hs → Prop} : (noP ds h).wp P X = P none h := rfl
@[simp] theorem wp_someP {P : Option Int → Hs → Prop} (A : EM) : (someP A ds h).wp P X = (A ds h).wp (fun d h => match d with | .int i => P (some i) h | _ => False) X := by
  simp only [someP, wp_bind]
  congr 1
  funext d h
  cases d <;> rfl
def isBl (d : D) (P : Bool → Prop) : Prop := match d with
  | .bl b => P b
  | _ => False
@[simp] theorem isBl_bl (b : Bool) (P : Bool → Prop) : isBl (.bl b) P = P b := rfl
@[simp] theorem wp_tb {P : Bool → Hs → Prop} (A : EM) : (tbM A ds h).wp P X = (A ds h).wp (fun d h => isBl d fun b => P b h) X := by
  simp only [tbM, wp_bind]
  congr 1
  funext d h
  cases d <;> rfl
@[simp] theorem wp_tru {P : Bool → Hs → Prop} (A : EM) : (truM A ds h).wp P X = (A ds h).wp (fun d h => match truD d h with | some b => P b h | none => False) X := by
  simp only [truM, wp_bind]
  congr 1
  funext d h
  cases truD d h <;> rfl
@[simp] theorem wp_yes {P : Bool → Hs → Prop} : (yesM ds h).wp P X = P true h := rfl
@[simp] theorem wp_and {P : Bool → Hs → Prop} (A B : TM) : (andM A B ds h).wp P X = (A ds h).wp (fun b h => if b = true then (B ds h).wp P X else P false h) X := by
  simp only [andM, wp_bind]
  congr 1
  funext b h
  split <;> rfl
@[simp] theorem wp_or {P : Bool → Hs → Prop} (A B : TM) : (orM A B ds h).wp P X = (A ds h).wp (fun b h => if b = true then P true h else (B ds h).wp P X) X := by
  simp only [orM, wp_bind]
  congr 1
  funext b h
  split <;> rfl
@[simp] theorem wp_not {P : Bool → Hs → Prop} (A : TM) : (notM A ds h).wp P X = (A ds h).wp (fun b h => P (!b) h) X := by simp only [notM, wp_bind, wp_ok]
@[simp] theorem wp_andV (A B : EM) : (andV A B ds h).wp Q X = (A ds h).wp (fun d h => isBl d fun b => if b = true then (B ds h).wp Q X else Q (.bl false) h) X := by
  simp only [andV, wp_bind]
  congr 1
  funext d h
  cases d with
  | bl b => simp only [isBl]; split <;> rfl
  | _ => rfl
@[simp] theorem wp_orV (A B : EM) : (orV A B ds h).wp Q X = (A ds h).wp (fun d h => isBl d fun b => if b = true then Q (.bl true) h else (B ds h).wp Q X) X := by
  simp only [orV, wp_bind]
  congr 1
  funext d h
  cases d with
  | bl b => simp only [isBl]; split <;> rfl
  | _ => rfl
@[simp] theorem wp_notV (A : EM) : (notV A ds h).wp Q X = (A ds h).wp (fun d h => isBl d fun b => Q (.bl (!b)) h) X := by
  simp only [notV, wp_bind]
  congr 1
  funext d h
  cases d <;> rfl
@[simp] theorem wp_chain (F G : VF2) (A B C : EM) : (chainM F G A B C ds h).wp Q X = (A ds h).wp (fun x h => (B ds h).wp (fun y h => (R.ofO (F x y h)).wp (fun z h => isBl z fun b => if b = true then (C ds h).wp (fun w h => (R.ofO (G y w h)).wp Q X) X else Q (.bl false) h) X) X) X := by
  simp only [chainM, wp_bind]
  congr 1
  funext x h
  congr 1
  funext y h
  congr 1
  funext z h
  cases z with
  | bl b => simp only [isBl]; split <;> simp only [wp_bind, wp_ok]
  | _ => rfl
@[simp] theorem ws_pass : (passM ds h).wp N Q X = N ds h := rfl
@[simp] theorem ws_seq (A B : SM) : (seqM A B ds h).wp N Q X = (A ds h).wp (fun ds h => (B ds h).wp N Q X) Q X := by
  unfold seqM
  cases e : A ds h <;> rfl
@[simp] theorem ws_set (i : Nat) (A : EM) : (setM i A ds h).wp N Q X = (A ds h).wp (fun d h => N (ds.set i (some d)) h) X := by simp only [setM, ws_lift]; rfl
@[simp] theorem ws_expr (A : EM) : (exprM A ds h).wp N Q X = (A ds h).wp (fun _ h => N ds h) X := by simp only [exprM, ws_lift]; rfl
@[simp] theorem ws_ret (A : EM) : (retM A ds h).wp N Q X = (A ds h).wp Q X := by simp only [retM, ws_lift]; rfl
@[simp] theorem ws_retN : (retN ds h).wp N Q X = Q .non h := rfl
@[simp] theorem ws_raise (c : Str) : (raiseM c ds h).wp N Q X = X c h := rfl
@[simp] theorem ws_if (T : TM) (A B : SM) : (ifM T A B ds h).wp N Q X = (T ds h).wp (fun b h => if b = true then (A ds h).wp N Q X else (B ds h).wp N Q X) X := by
  simp only [ifM, ws_lift]
  congr 1
  funext b h
  split <;> rfl
@[simp] theorem ws_asg (A : EM) (T : GM) : (asgM A (okG T) ds h).wp N Q X = (A ds h).wp (fun d h => (T d ds h).wp N (fun _ _ => False) xF) X := by
  simp only [asgM, ws_lift]
  congr 1
  funext d h
  unfold okG
  cases T d ds h <;> rfl
@[simp] theorem ws_nameG (i : Nat) (d : D) {Qr : D → Hs → Prop} : (nameG i d ds h).wp N Qr X = N (ds.set i (some d)) h := rfl
@[simp] theorem ws_nilG {Qr : D → Hs → Prop} : (nilG [] ds h).wp N Qr X = N ds h := rfl
@[simp] theorem ws_consG (T : GM) (U : List D → Sl → Hs → RS) (d : D) (xs : List D) : (consG T U (d :: xs) ds h).wp N (fun _ _ => False) xF = (T d ds h).wp (fun ds h => (U xs ds h).wp N (fun _ _ => False) xF) (fun _ _ => False) xF := by
  show (match T d ds h with | .nx ds h => U xs ds h | _ => .bad).wp N (fun _ _ => False) xF = _
  cases T d ds h <;> rfl
@[simp] theorem ws_tupG (n : Nat) (U : List D → Sl → Hs → RS) (xs : List D) {Qr : D → Hs → Prop} : (tupG n U (.tup xs) ds h).wp N Qr X = (xs.length = n ∧ (U xs ds h).wp N Qr X) := by
  unfold tupG
  simp only
  split
  · rename_i c; simp [c]
  · rename_i c; simp only [c, false_and]; rfl
@[simp] theorem ws_setIx (F : D → D → D → Hs → Option Hs) (V O I : EM) : (setIxM F V O I ds h).wp N Q X = (V ds h).wp (fun v h => (O ds h).wp (fun o h => (I ds h).wp (fun i h => match F o i v h with | some h' => N ds h' | none => False) X) X) X := by
  simp only [setIxM, ws_lift]
  congr 1; funext v h
  congr 1; funext o h
  congr 1; funext i h
  cases F o i v h <;> rfl
/-- a loop with what holds ahead of each turn -/
theorem ws_loop {gd : Hs → Prop} {T : GM} {B : SM} (its : List D) (J : Nat → Sl → Hs → Prop) (start : J 0 ds h) (guard : ∀ i ds h, J i ds h → gd h)
    (turn : ∀ i d ds h, its[i]? = some d → J i ds h → (T d ds h).wp (fun ds h => (B ds h).wp (J (i + 1)) Q X) (fun _ _ => False) xF) (done : ∀ ds h, J its.length ds h → N ds h) : (loopM gd T B its ds h).wp N Q X := by
  have gen : ∀ (r : List D) (k : Nat) (ds : Sl) (h : Hs), its.drop k = r → k ≤ its.length → J k ds h → (loopM gd T B r ds h).wp N Q X := by
    intro r
    induction r with
    | nil =>
      intro k ds h e hk j
      have : k = its.length := by have := congrArg List.length e; simp at this; omega
      subst this
      unfold loopM
      rw [if_pos (guard _ _ _ j)]
      exact done ds h j
    | cons d r ih =>
      intro k ds h e hk j
      have hlt : k < its.length := by
        by_cases c : k < its.length
        · exact c
        · rw [List.drop_eq_nil_of_le (by omega)] at e; cases e
      rw [List.drop_eq_getElem_cons hlt] at e
      injection e with e1 e2
      have t := turn k d ds h (by rw [List.getElem?_eq_getElem hlt, e1]) j
      unfold loopM
      rw [if_pos (guard _ _ _ j)]
      cases q : T d ds h with
      | nx ds1 h1 =>
        rw [q] at t
        have t : (B ds1 h1).wp (J (k + 1)) Q X := t
        simp only
        cases q2 : B ds1 h1 with
        | nx ds2 h2 => rw [q2] at t; exact ih (k + 1) ds2 h2 e2 hlt t
        | rt d h2 => rw [q2] at t; exact t
        | exc c ds2 h2 => rw [q2] at t; exact t
        | bk _ _ => rw [q2] at t; exact t.elim
        | ct _ _ => rw [q2] at t; exact t.elim
        | bad => rw [q2] at t; exact t.elim
      | _ => rw [q] at t; exact (show False from t).elim
  exact gen its 0 ds h rfl (Nat.zero_le _) start
@[simp] theorem ws_for (I : IM) (T : GM) (B : SM) : (forM I T B ds h).wp N Q X = (I ds h).wp (fun p h => (loopM p.2 T B p.1 ds h).wp N Q X) X := by simp only [forM, ws_lift]
@[simp] theorem wp_valI {P : List D × (Hs → Prop) → Hs → Prop} (A : EM) : (valI A ds h).wp P X = (A ds h).wp (fun d h => match itsF d h with | some p => P p h | none => False) X := by
  simp only [valI, wp_bind]
  congr 1; funext d h
  cases itsF d h <;> rfl
@[simp] theorem wp_rngI {P : List D × (Hs → Prop) → Hs → Prop} (F : List D → Option (List D)) (A : AM) : (rngI F A ds h).wp P X = (A ds h).wp (fun xs h => match F xs with | some its => P (its, fun _ => True) h | none => False) X := by
  simp only [rngI, wp_bind]
  congr 1; funext d h
  cases F d <;> rfl
/-- a while with what holds and what falls -/
theorem ws_while {T : TM} {B : SM} (J : Nat → Sl → Hs → Prop) (n k : Nat) (hk : k < n) (start : J k ds h)
    (turn : ∀ k ds h, J k ds h → (T ds h).wp (fun b h => if b = true then (B ds h).wp (fun ds h => ∃ j, j < k ∧ J j ds h) Q X else N ds h) X) : (whileM T B n ds h).wp N Q X := by
  induction n generalizing k ds h with
  | zero => omega
  | succ n ih =>
    have t := turn k ds h start
    unfold whileM
    rw [ws_lift]
    refine R.wp_mono t (fun b h1 w => ?_) (fun _ _ x => x)
    cases b with
    | true =>
      rw [if_pos rfl] at w ⊢
      cases q : B ds h1 with
      | nx ds2 h2 => rw [q] at w; obtain ⟨j, hj, w⟩ := w; exact ih j (by omega) w
      | rt d h2 => rw [q] at w; exact w
      | exc c ds2 h2 => rw [q] at w; exact w
      | bk _ _ => rw [q] at w; exact w.elim
      | ct _ _ => rw [q] at w; exact w.elim
      | bad => rw [q] at w; exact w.elim
    | false => rw [if_neg Bool.false_ne_true] at w ⊢; exact w
theorem wp_run (np nN : Nat) (M : SM) (xs : List D) : (runM np nN M xs h).wp Q X = (xs.length = np ∧ (M (startD nN xs) h).wp (fun _ h => Q .non h) Q X) := by
  unfold runM
  by_cases c : xs.length = np
  · rw [if_pos c]
    simp only [c, true_and]
    cases M (startD nN xs) h <;> rfl
  · rw [if_neg c]; simp [c]
theorem wp_pure (φ : Fm) (xs : List D) : (kPure.f φ xs h).wp Q X = (φ xs h).wp (fun d h' => (noloc d = true ∧ h'.take h.length = h) ∧ Q d h) (fun c h' => h'.take h.length = h ∧ X c h) := by
  show (nPure φ xs h).wp Q X = _
  unfold nPure
  cases φ xs h with
  | ok d h' =>
    simp only [wp_ok]
    split
    · rename_i c; simp [c]
    · rename_i c; simp [c]
  | exc c h' =>
    simp only [wp_exc]
    split
    · rename_i c; simp [c]
    · rename_i c; simp [c]
  | bad => rfl
end
end DV
namespace DV
open PySem PySem.Spec PyProof.Rows L2
section
variable {h : Hs} {i j : Int} {a b : Str} {xs ys : List D}
@[simp] theorem add_int : addF (.int i) (.int j) h = some (.int (i + j), h) := rfl
@[simp] theorem add_strs : addF (.str a) (.str b) h = if a.length + b.length ≤ LIM then some (.str (a ++ b), h) else none := rfl
@[simp] theorem add_tup : addF (.tup xs) (.tup ys) h = if xs.length + ys.length ≤ LIM then some (.tup (xs ++ ys), h) else none := rfl
@[simp] theorem sub_int : subF (.int i) (.int j) h = some (.int (i - j), h) := rfl
@[simp] theorem mul_int' : mulF (.int i) (.int j) h = if cMul i j = true then some (.int (i * j), h) else none := rfl
@[simp] theorem mul_strn : mulF (.str a) (.int j) h = if cB (-1000000 ≤ j ∧ j ≤ 1000000 ∧ a.length ≤ 1000000 ∧ a.length * j.toNat ≤ LIM) = true then some (.str (repS a j.toNat), h) else none := rfl
theorem ipF_int {C : Int → Int → Bool} {g : Int → Int → Int} : ipF C g (.int i) (.int j) h = if C i j = true then some (.int (g i j), h) else none := by
  unfold ipF intF
  simp only
  split <;> rfl
@[simp] theorem mod_int' : modF (.int i) (.int j) h = if cMod i j = true then some (.int (i % j), h) else none := ipF_int
@[simp] theorem fdiv_int : fdivF (.int i) (.int j) h = if cDiv i j = true then some (.int (i / j), h) else none := ipF_int
@[simp] theorem pow_int : powF (.int i) (.int j) h = if cPow i j = true then some (.int (i ^ j.toNat), h) else none := ipF_int
theorem cMul_l (h1 : -18446744073709551616 < i) (h2 : i < 18446744073709551616) : cMul i j = true := cB_of (.inl ⟨h1, h2⟩)
theorem cMul_r (h1 : -18446744073709551616 < j) (h2 : j < 18446744073709551616) : cMul i j = true := cB_of (.inr ⟨h1, h2⟩)
theorem cMod_of (h1 : 0 < j) : cMod i j = true := cB_of h1
theorem cDiv_of (h1 : 0 < j) (h2 : j < 1073741824) : cDiv i j = true := cB_of ⟨h1, h2⟩
theorem cPow_of (h1 : 0 ≤ j) (h2 : j ≤ 1000000) (h3 : i.natAbs < 18446744073709551616) : cPow i j = true := cB_of ⟨h1, h2, h3⟩
@[simp] theorem lt_int : ltF (.int i) (.int j) h = some (.bl (decide (i < j)), h) := rfl
@[simp] theorem gt_int : gtF (.int i) (.int j) h = some (.bl (decide (j < i)), h) := rfl
@[simp] theorem neg_int : negF (.int i) h = some (.int (-i), h) := rfl
@[simp] theorem tup_F : tupF xs h = if xs.length ≤ LIM then some (.tup xs, h) else none := rfl
@[simp] theorem lst_F : lstF xs h = if xs.length ≤ LIM then some (.loc h.length, h ++ [.lst xs]) else none := rfl
@[simp] theorem le_LIM {n : Nat} : (n ≤ LIM) = (n ≤ 16777216) := rfl
@[simp] theorem lt_LIM {n : Nat} : (n < LIM) = (n < 16777216) := rfl
theorem eq_of {d e : D} (a : pyOk d = true) (b : pyOk e = true) (z : depD d ≤ 190) [Decidable (d = e)] : eqF d e h = some (.bl (decide (d = e)), h) := by
  unfold eqF; rw [eqB_of a b z, Option.map_some]; congr
theorem ne_of' {d e : D} (a : pyOk d = true) (b : pyOk e = true) (z : depD d ≤ 190) [Decidable (d = e)] : neF d e h = some (.bl (!decide (d = e)), h) := by
  unfold neF; rw [eqB_of a b z, Option.map_some]; congr
open Classical in
@[simp] theorem eq_int : eqF (.int i) (.int j) h = some (.bl (decide (i = j)), h) := by rw [eq_of rfl rfl (Nat.zero_le _)]; simp
open Classical in
@[simp] theorem ne_int' : neF (.int i) (.int j) h = some (.bl (!decide (i = j)), h) := by rw [ne_of' rfl rfl (Nat.zero_le _)]; simp
@[simp] theorem eq_bool' {c d : Bool} : eqF (.bl c) (.bl d) h = some (.bl (c == d), h) := by simp [eqF, eqB, lenNe, pyH, pyW, PyData.canLay0, PyData.depth, PyData.eqv]
@[simp] theorem ne_bool' {c d : Bool} : neF (.bl c) (.bl d) h = some (.bl (!(c == d)), h) := by simp [neF, eqB, lenNe, pyH, pyW, PyData.canLay0, PyData.depth, PyData.eqv]
open Classical in
theorem eq_strs (ha : PyData.strOk a = true) (hb : PyData.strOk b = true) : eqF (.str a) (.str b) h = some (.bl (decide (a = b)), h) := by rw [eq_of (by unfold pyOk; exact ha) (by unfold pyOk; exact hb) (Nat.zero_le _)]; simp
@[simp] theorem ix_tup' : ixF (.tup xs) (.int i) h = (atI xs i).map fun d => (d, h) := rfl
@[simp] theorem ix_str' : ixF (.str a) (.int i) h = if a.length ≤ LIM then (atI a.cps.toList i).map (fun c => (.str ⟨#[c]⟩, h)) else none := rfl
@[simp] theorem len_tup : lenF [.tup xs] h = some (.int xs.length, h) := rfl
@[simp] theorem len_ro {ns : List Int} : lenF [.ro ns] h = some (.int ns.length, h) := rfl
@[simp] theorem len_str' : lenF [.str a] h = if a.length ≤ LIM then some (.int a.length, h) else none := rfl
@[simp] theorem int_int : intT [.int i] h = some (.int i, h) := rfl
@[simp] theorem int_bool {c : Bool} : intT [.bl c] h = some (.int (if c then 1 else 0), h) := rfl
@[simp] theorem max2_int : max2F [.int i, .int j] h = some (.int (if j > i then j else i), h) := rfl
@[simp] theorem min2_int : min2F [.int i, .int j] h = some (.int (if j < i then j else i), h) := rfl
theorem ix_lst {l : Nat} (e : h[l]? = some (.lst xs)) : ixF (.loc l) (.int i) h = (atI xs i).map fun d => (d, h) := by simp [ixF, e]
theorem len_lst {l : Nat} (e : h[l]? = some (.lst xs)) : lenF [.loc l] h = some (.int xs.length, h) := by simp [lenF, e]
theorem its_lst {l : Nat} (e : h[l]? = some (.lst xs)) : itsF (.loc l) h = some (xs, fun h => h[l]? = some (.lst xs)) := by simp [itsF, e]
@[simp] theorem its_tup : itsF (.tup xs) h = some (xs, fun _ => True) := rfl
@[simp] theorem its_str : itsF (.str a) h = some (a.cps.toList.map fun c => .str ⟨#[c]⟩, fun _ => True) := rfl
@[simp] theorem its_ro {ns : List Int} : itsF (.ro ns) h = some (ns.map D.int, fun _ => True) := rfl
@[simp] theorem in_sign {c : Nat} : inF (.str ⟨#[c]⟩) (.str b) h = some (.bl (decide (c ∈ b.cps.toList)), h) := rfl
@[simp] theorem nin_sign {c : Nat} : ninF (.str ⟨#[c]⟩) (.str b) h = some (.bl (!decide (c ∈ b.cps.toList)), h) := rfl
theorem atI_nat {α : Type} {zs : List α} {k : Nat} (hk : k < zs.length) : atI zs (k : Int) = zs[k]? := by
  unfold atI ixN
  simp [hk]
theorem atI_of {α : Type} {zs : List α} {i : Int} (h0 : 0 ≤ i) (h1 : i < zs.length) : ∃ z, atI zs i = some z ∧ zs[i.toNat]? = some z := by
  obtain ⟨k, rfl⟩ := Int.eq_ofNat_of_zero_le h0
  have hk : k < zs.length := by omega
  refine ⟨zs[k], ?_, by simp⟩
  rw [atI_nat hk]
  simp
theorem pw62 : (2 : Int) ^ 62 = 4611686018427387904 := by decide +kernel
theorem inR_of (h1 : -1000000000000 ≤ j) (h2 : j ≤ 1000000000000) : inR j = true := by
  unfold inR
  rw [pw62]
  exact cB_of ⟨by omega, by omega⟩
@[simp] theorem rng1_int : rng1 [.int j] = if inR j = true then some ((List.range j.toNat).map fun (i : Nat) => .int (i : Int)) else none := rfl
@[simp] theorem rng2_int : rng2 [.int i, .int j] = if inR i = true ∧ inR j = true then some ((List.range (j - i).toNat).map fun (k : Nat) => .int (i + (k : Int))) else none := rfl
end
section
variable {h r : Hs} {o : AO} {l k : Nat}
theorem get_app (e : h[l]? = some o) : (h ++ r)[l]? = some o := by
  obtain ⟨q, _⟩ := List.getElem?_eq_some_iff.mp e
  rw [List.getElem?_append_left q]; exact e
@[simp] theorem get_new : (h ++ r)[h.length + k]? = r[k]? := by rw [List.getElem?_append_right (by omega)]; congr 1; omega
@[simp] theorem get_new0 : (h ++ r)[h.length]? = r[0]? := by rw [List.getElem?_append_right (by omega)]; congr 1; omega
@[simp] theorem set_new : (h ++ r).set (h.length + k) o = h ++ r.set k o := (List.set_append_right _ _ (by omega)).trans (by rw [Nat.add_sub_cancel_left])
@[simp] theorem set_new0 : (h ++ r).set h.length o = h ++ r.set 0 o := (List.set_append_right _ _ (Nat.le_refl _)).trans (by rw [Nat.sub_self])
theorem set_app (q : l < h.length) : (h ++ r).set l o = h.set l o ++ r := List.set_append_left _ _ q
end
end DV
namespace DV
open PySem PySem.Spec PyProof.Rows L2
structure ExcF (K : PySem.W.Frag) (mg : Str → Option Value) (c : Str) : Prop where
  q : PySem.W.excIn K (He.ga K c) He.veBase "ValueError.__new__" = true
  g : mg c = some (.ref (He.ga K c))
  k : PySem.W.keepIn K (.ref (He.ga K c)) = true
  b : PySem.W.subIn K (.ref (He.ga K c)) (.type "BaseException") = some true
  t : PySem.W.typeIn K (.ref (He.ga K c)) = some (.type "type")
section
variable {X : Cx} {g : Cfg} {c m : Str} {j : Option Str} {p p2 pos pos' : Pos}
theorem sm_raise {jj} (E : ExcF X.K X.mg c) (hK : X.K = g.K) (hc : X.calm = true) (tk : Takes X g.W) (hg : Gl X c) (hdb : (c == ("__debug__" : Str)) = false := by decide) : PS X (.Raise (some (.Call (.Name c p) [.Constant (.str m) jj p2] [] pos)) none pos') (tS g (raiseM c)) := by
  refine PS.weak (ps_raise hc tk (pmk_own PySem.F.excBase_ValueError E.q E.g E.k (raises_own E.b E.t) hg hdb)) fun N σ H ⟨m, ds, h, hs, rh, o⟩ => ?_
  rw [hK]
  exact o σ m H (.refl _ _) hs rh
end
end DV
namespace DV
open PySem PySem.Spec PyProof.Rows L2
def numD (xs : List D) : List D := xs.zipIdx.map fun p => .tup [.int (p.2 : Nat), p.1]
def enumF (d : D) (h : Hs) : Option (List D × (Hs → Prop)) := match d with
  | .tup ds => some (numD ds, fun _ => True)
  | .loc l => match h[l]? with
    | some (.lst ds) => some (numD ds, fun h => h[l]? = some (.lst ds))
    | _ => none
  | _ => none
def enumI (A : EM) : IM := fun ds h => (A ds h).bind fun d h => match enumF d h with
  | some p => .ok p h
  | none => .bad
@[simp] theorem wp_enumI {ds : Sl} {h : Hs} {X : QX} {P : List D × (Hs → Prop) → Hs → Prop} (A : EM) : (enumI A ds h).wp P X = (A ds h).wp (fun d h => match enumF d h with | some p => P p h | none => False) X := by
  simp only [enumI, wp_bind]
  congr 1; funext d h
  cases enumF d h <;> rfl
end DV
namespace DV
open PySem PySem.Spec PyProof.Rows L2
section
variable {X : QX} {ds : Sl} {h h0 : Hs} {Q : D → Hs → Prop} {own : List Nat} {I : IM} {T : GM} {C : TM} {A : EM} {gd : Hs → Prop}
@[simp] theorem wp_lc : (lcM own I T C A ds h).wp Q X = (I ds h).wp (fun p h => (lcLoop p.2 h.length T C A (wipeD ds own) p.1 (h ++ [.lst []])).wp Q X) X := by simp only [lcM, wp_bind]
@[simp] theorem wipe_nil : wipeD ds [] = ds := rfl
@[simp] theorem wipe_cons {v : Nat} {vs : List Nat} : wipeD ds (v :: vs) = (wipeD ds vs).set v none := rfl
/-- one turn: what it gives (none: left out), the heap as it is -/
def LcTurn (T : GM) (C : TM) (A : EM) (ds : Sl) (d : D) (o : Option D) (h : Hs) : Prop :=
  (T d ds h).wp (fun ds1 h1 => h1 = h ∧ (C ds1 h).wp (fun b h2 => h2 = h ∧ match o with
    | some y => b = true ∧ (A ds1 h).wp (fun y' h3 => y' = y ∧ h3 = h) xF
    | none => b = false) xF) (fun _ _ => False) xF
theorem lc_loop (its : List D) (fs : List (Option D)) (hl : its.length = fs.length) (acc : List D) (hz : acc.length + its.length ≤ 16777216)
    (g : ∀ acc : List D, gd (h0 ++ [.lst acc])) (turn : ∀ (i : Nat) (d : D) (o : Option D) (acc : List D), its[i]? = some d → fs[i]? = some o → LcTurn T C A ds d o (h0 ++ [.lst acc])) :
    lcLoop gd h0.length T C A ds its (h0 ++ [.lst acc]) = .ok (.loc h0.length) (h0 ++ [.lst (acc ++ fs.filterMap id)]) := by
  induction its generalizing fs acc with
  | nil =>
    have : fs = [] := List.eq_nil_of_length_eq_zero hl.symm
    subst this
    unfold lcLoop
    rw [if_pos (g acc)]
    simp
  | cons d its ih =>
    cases fs with
    | nil => cases hl
    | cons o fs =>
      simp only [List.length_cons] at hl hz
      have t := turn 0 d o acc rfl rfl
      have rest := fun acc' (hz' : acc'.length + its.length ≤ 16777216) => ih fs (by omega) acc' hz' fun i d' o' a e1 e2 => turn (i + 1) d' o' a e1 e2
      unfold lcLoop
      rw [if_pos (g acc)]
      unfold LcTurn at t
      cases q : T d ds (h0 ++ [.lst acc]) with
      | nx ds1 h1 =>
        rw [q] at t
        obtain ⟨rfl, t⟩ := t
        simp only
        cases q2 : C ds1 (h0 ++ [.lst acc]) with
        | ok b h2 =>
          rw [q2] at t
          obtain ⟨rfl, t⟩ := t
          rw [R.noX_ok, R.bind_ok]
          cases o with
          | none =>
            have t : b = false := t
            subst t
            rw [if_neg Bool.false_ne_true, rest acc (by omega)]
            rfl
          | some y =>
            obtain ⟨rfl, t⟩ := t
            rw [if_pos rfl]
            obtain ⟨y', h3, e, rfl, rfl⟩ := R.wp_ex t
            rw [e, R.noX_ok, R.bind_ok]
            have e1 : (h0 ++ [AO.lst acc])[h0.length]? = some (.lst acc) := by simp
            have e2 : (h0 ++ [AO.lst acc]).set h0.length (.lst (acc ++ [y'])) = h0 ++ [.lst (acc ++ [y'])] := by simp
            rw [e1]
            simp only
            rw [if_pos (by show acc.length < 16777216; omega), e2, rest (acc ++ [y']) (by rw [List.length_append]; simp; omega)]
            simp
        | exc c h2 => rw [q2] at t; exact t.elim
        | bad => rw [q2] at t; exact t.elim
      | _ => rw [q] at t; exact (show False from t).elim
theorem lc_map (its ys : List D) (hl : its.length = ys.length) (hz : its.length ≤ 16777216)
    (g : ∀ acc : List D, gd (h0 ++ [.lst acc])) (turn : ∀ (i : Nat) (d y : D) (acc : List D), its[i]? = some d → ys[i]? = some y → LcTurn T C A ds d (some y) (h0 ++ [.lst acc])) :
    lcLoop gd h0.length T C A ds its (h0 ++ [.lst []]) = .ok (.loc h0.length) (h0 ++ [.lst ys]) := by
  have := lc_loop (h0 := h0) (gd := gd) (T := T) (C := C) (A := A) (ds := ds) its (ys.map some) (by simpa using hl) [] (by simpa using hz) g fun i d o acc e1 e2 => by
    rw [List.getElem?_map] at e2
    cases q : ys[i]? with
    | none => rw [q] at e2; cases e2
    | some y => rw [q] at e2; cases e2; exact turn i d y acc e1 q
  rw [this, List.nil_append, List.filterMap_map]
  simp
/-- the test is none: every item gives its image -/
theorem lc_map1 {i : Nat} (its ys : List D) (hl : its.length = ys.length) (hz : its.length ≤ 16777216)
    (g : ∀ acc : List D, gd (h0 ++ [.lst acc])) (turn : ∀ (k : Nat) (d y : D) (acc : List D), its[k]? = some d → ys[k]? = some y → A (ds.set i (some d)) (h0 ++ [.lst acc]) = .ok y (h0 ++ [.lst acc])) :
    lcLoop gd h0.length (nameG i) yesM A ds its (h0 ++ [.lst []]) = .ok (.loc h0.length) (h0 ++ [.lst ys]) :=
  lc_map its ys hl hz g fun k d y acc e1 e2 => ⟨rfl, rfl, rfl, R.wp_eq.mpr (turn k d y acc e1 e2)⟩
end
@[simp] theorem wp_maxd {ds : Sl} {h : Hs} {Q : D → Hs → Prop} {X : QX} (A B : EM) : (maxdF A B ds h).wp Q X = (A ds h).wp (fun d h => (B ds h).wp (fun e h => (maxdR d e h).wp Q X) X) X := by simp only [maxdF, wp_bind]
def maxOr (k : Int) : List Int → Int
  | [] => k
  | n :: ns => maxI n ns
theorem maxd_lst {h : Hs} {l : Nat} {xs : List D} {ns : List Int} {k : Int} (e : h[l]? = some (.lst xs)) (q : intsOf xs = some ns) : maxdR (.loc l) (.int k) h = .ok (.int (maxOr k ns)) h := by
  unfold maxdR
  simp only [e, q]
  cases ns <;> rfl
theorem wp_new {φ : Fm} {xs : List D} {h : Hs} {Q : D → Hs → Prop} {X : QX} (w : (φ xs h).wp (fun d h' => ∃ l o, d = .loc l ∧ h'[l]? = some o ∧ h.length ≤ l ∧ h'.take h.length = h ∧ nolocO o = true ∧ Q (.loc h.length) (h ++ [o])) (fun c h' => h'.take h.length = h ∧ X c h)) : (kNew.f φ xs h).wp Q X := by
  show (nNew φ xs h).wp Q X
  unfold nNew
  cases e : φ xs h with
  | ok d h' =>
    rw [e] at w
    obtain ⟨l, o, rfl, e1, c1, c2, c3, q⟩ := w
    simp only [e1]
    rw [if_pos ⟨c1, c2, c3⟩]
    exact q
  | exc c h' =>
    rw [e] at w
    simp only
    rw [if_pos w.1]
    exact w.2
  | bad => rw [e] at w; exact w
theorem append_lst {h : Hs} {l : Nat} {xs : List D} {v : D} (e : h[l]? = some (.lst xs)) (hz : xs.length < 16777216) : appendF (.loc l) [v] h = some (.non, h.set l (.lst (xs ++ [v]))) := by
  simp [appendF, e, hz]
theorem pop_lst {h : Hs} {l : Nat} {xs : List D} {v : D} (e : h[l]? = some (.lst (xs ++ [v]))) : popF (.loc l) [] h = some (v, h.set l (.lst xs)) := by
  simp [popF, e]
theorem ck_lst {h : Hs} {l : Nat} {xs : List D} (e : h[l]? = some (.lst xs)) : ckList (.loc l) h = true := by simp [ckList, e]
theorem at_last {α : Type} {xs : List α} {a : α} : atI (xs ++ [a]) (-1) = some a := by
  have e : ixN (xs ++ [a]).length (-1) = some xs.length := by
    unfold ixN
    have e1 : ((-1 : Int) + ((xs ++ [a]).length : Int)).toNat = xs.length := by rw [List.length_append, List.length_singleton]; omega
    rw [if_neg (by decide), if_pos (by rw [List.length_append, List.length_singleton]; omega), e1]
  unfold atI
  rw [e]
  simp
section
variable {N : Sl → Hs → Prop} {Q : D → Hs → Prop} {X : QX} {ds : Sl} {h h1 : Hs} {d : D}
theorem st_set {i : Nat} {A : EM} {B : SM} (d : D) (h1 : Hs) (e : (A ds h).wp (fun a' h' => a' = d ∧ h' = h1) xF) (w : (B (ds.set i (some d)) h1).wp N Q X) : (seqM (setM i A) B ds h).wp N Q X := by
  rw [ws_seq, ws_set, R.wp_eq.mp e]
  exact w
theorem RS.wp_eq {r : RS} {ds : Sl} {h : Hs} (w : r.wp (fun a b => a = ds ∧ b = h) (fun _ _ => False) xF) : r = .nx ds h := by
  cases r with
  | nx a b => obtain ⟨rfl, rfl⟩ := w; rfl
  | rt _ _ => exact w.elim
  | exc _ _ _ => exact w.elim
  | bk _ _ => exact w.elim
  | ct _ _ => exact w.elim
  | bad => exact w.elim
theorem st_seq {A B : SM} (ds1 : Sl) (h1 : Hs) (e : (A ds h).wp (fun a b => a = ds1 ∧ b = h1) (fun _ _ => False) xF) (w : (B ds1 h1).wp N Q X) : (seqM A B ds h).wp N Q X := by
  rw [ws_seq, RS.wp_eq e]
  exact w
theorem st_if {T : TM} {A B : SM} (b : Bool) (h1 : Hs) (e : (T ds h).wp (fun a' h' => a' = b ∧ h' = h1) xF) (w : if b = true then (A ds h1).wp N Q X else (B ds h1).wp N Q X) : (ifM T A B ds h).wp N Q X := by
  rw [ws_if, R.wp_eq.mp e]
  exact w
end
theorem st_guard {N : Sl → Hs → Prop} {Q : D → Hs → Prop} {X : QX} {ds : Sl} {h : Hs} {T : TM} {A C : SM} (h1 : Hs) (e : (T ds h).wp (fun a' h' => a' = false ∧ h' = h1) xF) (w : (C ds h1).wp N Q X) : (seqM (ifM T A passM) C ds h).wp N Q X := by
  rw [ws_seq, ws_if, R.wp_eq.mp e]
  exact w
theorem filterMap_if {α : Type} {p : α → Bool} {f : α → D} : ∀ l : List α, (l.map fun q => if p q then some (f q) else none).filterMap id = (l.filter p).map f
  | [] => rfl
  | q :: l => by
    rw [List.map_cons, List.filterMap_cons, List.filter_cons, filterMap_if l]
    cases p q <;> rfl
end DV
namespace DV
open PySem PySem.Spec PyProof.Rows L2
def dctO : AO → Option (List (Key × D))
  | .dct kvs => some kvs
  | .fdc kvs => some kvs
  | _ => none
def dK : Key → D
  | .inl i => .int i
  | .inr s => .str s
def newDM : EM := fun _ h => .ok (.loc h.length) (h ++ [.dct []])
def newTM : EM := fun _ h => .ok (.loc h.length) (h ++ [.dcT []])
/-- a list, a dict written -/
def setAF : D → D → D → Hs → Option Hs
  | .loc l, i, v, h => match h[l]? with
    | some (.lst ds) => (match i with
      | .int i => (ixN ds.length i).map fun j => h.set l (.lst (ds.set j v))
      | _ => none)
    | some (.dct kvs) => if kvs.length < LIM then (keyD i).map fun k => h.set l (.dct (putD kvs k v)) else none
    | some (.dcT kvs) => (match i with
      | .tup ks => if kvs.length < LIM then (keysD ks).map fun k => h.set l (.dcT (putD kvs k v)) else none
      | _ => none)
    | _ => none
  | _, _, _, _ => none
def getDF : D → List D → Hs → Res
  | .loc l, [i, x], h => match h[l]? with
    | some (.dct kvs) => (keyD i).map fun k => ((valD kvs k).getD x, h)
    | some (.fdc kvs) => (keyD i).map fun k => ((valD kvs k).getD x, h)
    | _ => none
  | _, _, _ => none
def clearF : D → List D → Hs → Res
  | .loc l, [], h => match h[l]? with
    | some (.dct _) => some (.non, h.set l (.dct []))
    | _ => none
  | _, _, _ => none
def dictT : List D → Hs → Res
  | [.loc l], h => match h[l]? with
    | some (.dct kvs) => some (.loc h.length, h ++ [.dct kvs])
    | some (.fdc kvs) => some (.loc h.length, h ++ [.dct kvs])
    | _ => none
  | _, _ => none
section
variable {K : PySem.W.Frag} {m : List Addr} {H : Hp} {h : Hs} {l : Nat} {a : Addr}
theorem dK_rep (k : Key) : RepV K m H (dK k) (kV k) := by cases k <;> (unfold dK kV RepV; rfl)
theorem RepH.rdD {o : AO} {kvs : List (Key × D)} (rh : RepH K m H h) (ha : m[l]? = some a) (e : h[l]? = some o) (q : dctO o = some kvs) : ∃ ks : List (Key × V), Rd H a (.dK ks) ∧ kvs.map (·.1) = ks.map (·.1) ∧ RepL K m H (kvs.map (·.2)) (ks.map (·.2)) := by
  cases o with
  | dct x =>
    cases q
    obtain ⟨ks, hk, kk, rk⟩ := rh.at_ _ a _ ha e
    exact ⟨ks, .inl hk, kk, rk⟩
  | fdc x =>
    cases q
    obtain ⟨ob, ks, hk, kk, rk⟩ := rh.at_ _ a _ ha e
    exact ⟨ks, .inr ⟨ob, hk⟩, kk, rk⟩
  | lst _ => cases q
  | dcT _ => cases q
  | ins _ _ => cases q
theorem new_dct {Q : VK} {kvs : List (Key × D)} {ks : List (Key × V)} {p : Addr} (rh : RepH K m H h) (kk : kvs.map (·.1) = ks.map (·.1)) (rk : RepL K m H (kvs.map (·.2)) (ks.map (·.2))) (hp : H p = none)
    (o : OutV K m H Q (some (.loc h.length, h ++ [.dct kvs]))) : Q (.ref p) (upd H p (.dK ks)) :=
  o (.ref p) (m ++ [p]) _ (.app hp) (by unfold RepV; exact ⟨p, by rw [← rh.len]; simp, rfl⟩) (rh.new hp ⟨ks, upd_same, kk, rk.mono (.app hp)⟩)
theorem put_dct {kvs kvs0 : List (Key × D)} {ks ks0 : List (Key × V)} (rh : RepH K m H h) (ha : m[l]? = some a) (hv : H a = some (.dK ks0)) (kk : kvs.map (·.1) = ks.map (·.1)) (rk : RepL K m H (kvs.map (·.2)) (ks.map (·.2))) :
    Grow m H m (upd H a (.dK ks)) ∧ RepH K m (upd H a (.dK ks)) (h.set l (.dct kvs)) := by
  have w : Grow m H m (upd H a (.dK ks)) := .write hv (fun _ z => nomatch z) (fun _ _ z => nomatch z) (fun _ z => nomatch z)
  exact ⟨w, rh.write ha hv (fun _ z => nomatch z) (fun _ _ z => nomatch z) (fun _ z => nomatch z) ⟨ks, upd_same, kk, rk.mono w⟩⟩
end
section
variable {X : Cx} {g : Cfg} {pos : Pos}
theorem em_newD : PE X (.Dict [] [] pos) (tM g newDM) := PE.weak pe_dnewK fun σ H Q ⟨m, ds, h, hs, rh, o⟩ p hp =>
  o (.ref p) (m ++ [p]) _ (.app hp) (by unfold RepV; exact ⟨p, by rw [← rh.len]; simp, rfl⟩) (rh.new hp ⟨[], upd_same, rfl, by show RepL g.K _ _ [] []; exact .nil⟩)
theorem s_any (hu : X.A.units + 1 < cLine) : PSet X (rSt X.K setAF) := by
  intro pns s σ H o i v ov iv u Q I ro ri rv h
  obtain ⟨m, hs, od, id, vd, r1, r2, r3, rh, q⟩ := h
  unfold setAF at q
  split at q
  · rename_i l
    unfold RepV at r1
    obtain ⟨a, ha, rfl⟩ := r1
    split at q
    · rename_i xs e
      split at q
      · refine s_list pns s σ H _ _ _ ov iv u Q I ro ri rv ⟨m, hs, .loc l, .int _, vd, by unfold RepV; exact ⟨a, ha, rfl⟩, r2, r3, rh, ?_⟩
        unfold setLF
        simp only [e]
        exact q
      · exact q.elim
    · rename_i kvs e
      obtain ⟨ks, hk, kk, rk⟩ := rh.at_ _ a _ ha e
      split at q
      · rename_i hz
        cases c : keyD id with
        | none => rw [c] at q; exact q.elim
        | some k =>
          rw [c] at q
          have := kV_keyD r2 c
          subst this
          obtain ⟨kk2, rk2⟩ := put_rep k r3 kk rk
          obtain ⟨w, rh2⟩ := put_dct (kvs0 := kvs) rh ha hk kk2 rk2
          cases ro
          have hl : ks.length < sizeLine := by rw [LIM_eq]; have := congrArg List.length kk; simp at this; omega
          exact d_setItem hu I (DPut.k hk hl) ri rv fun s' I' => ⟨_, I', q m _ w rh2⟩
      · exact q.elim
    · rename_i kvs e
      obtain ⟨ks, hk, kk, rk⟩ := rh.at_ _ a _ ha e
      split at q
      · rename_i kd
        split at q
        · rename_i hz
          cases c : keysD kd with
          | none => rw [c] at q; exact q.elim
          | some k =>
            rw [c] at q
            unfold RepV at r2
            obtain ⟨b, xs, rfl, hb, rl⟩ := r2
            have := kV_keysD rl c
            subst this
            obtain ⟨kk2, rk2⟩ := put_rep k r3 kk rk
            have w : Grow m H m (upd H a (.dT (putK ks k v))) := .write hk (fun _ z => nomatch z) (fun _ _ z => nomatch z) (fun _ z => nomatch z)
            have rh2 : RepH X.K m (upd H a (.dT (putK ks k v))) (hs.set l (.dcT (putD kvs k vd))) := rh.write ha hk (fun _ z => nomatch z) (fun _ _ z => nomatch z) (fun _ z => nomatch z) ⟨_, upd_same, kk2, rk2.mono w⟩
            cases ro
            have hl : ks.length < sizeLine := by rw [LIM_eq]; have := congrArg List.length kk; simp at this; omega
            exact d_setItem hu I (DPut.t hk hb hl) ri rv fun s' I' => ⟨_, I', q m _ w rh2⟩
        · exact q.elim
      · exact q.elim
    · exact q.elim
  · exact q.elim
theorem get_core (hu : X.A.units + 1 < cLine) {pns : List (Addr × Obj)} {s : Shared} {σ : St} {H : Hp} {v : Value} {us : List Value} {Q : VK} {m : List Addr} {hs : Hs} {l : Nat} {a : Addr} {o : AO} {kvs : List (Key × D)} {i x : D} {y z : V} {k : Key}
    (I : Inv X pns σ H s) (ha : m[l]? = some a) (rx : RelV (.ref a) v) (rv : Vals [y, z] us) (ry : RepV X.K m H i y) (rz : RepV X.K m H x z) (rh : RepH X.K m H hs) (e : hs[l]? = some o) (q : dctO o = some kvs) (c : keyD i = some k)
    (w : OutV X.K m H Q (some ((valD kvs k).getD x, hs))) : wpAny (model X.prog X.w) X.A (call (.builtin "dict.get") (v :: us)) (EP X pns σ Q) X.xe s := by
  obtain ⟨ks, hk, kk, rk⟩ := rh.rdD ha e q
  obtain ⟨u1, u2, rfl, r1, r2⟩ := vals2 rv
  have := kV_keyD ry c
  subst this
  cases rx
  refine d_get2 hu I (.inl ⟨ks, k, hk, rfl, rfl⟩) r1 r2 fun w' s' I' rw' => ⟨_, H, I', rw', ?_⟩
  refine OutV.keep w ?_ rh
  rcases valD_rep k kk rk with ⟨p, p2⟩ | ⟨d, v', p, p2, r⟩
  · rw [p, p2]; exact rz
  · rw [p, p2]; exact r
theorem k_get (hu : X.A.units + 1 < cLine) : MtR X "dict.get" (rMt X.K getDF) := by
  intro pns s σ H x vs v us Q I rx rv h
  obtain ⟨m, hs, d, ds, r1, rl, rh, o⟩ := h
  unfold getDF at o
  split at o
  · rename_i l i y
    unfold RepV at r1
    obtain ⟨a, ha, rfl⟩ := r1
    obtain ⟨v1, v2, rfl, q1, q2⟩ := repL2 rl
    split at o
    · rename_i kvs e
      cases c : keyD i with
      | none => rw [c] at o; exact o.elim
      | some k => rw [c] at o; exact get_core hu I ha rx rv q1 q2 rh e rfl c o
    · rename_i kvs e
      cases c : keyD i with
      | none => rw [c] at o; exact o.elim
      | some k => rw [c] at o; exact get_core hu I ha rx rv q1 q2 rh e rfl c o
    · exact o.elim
  · exact o.elim
theorem k_clear : MtR X "dict.clear" (rMt X.K clearF) := by
  intro pns s σ H x vs v us Q I rx rv h
  obtain ⟨m, hs, d, ds, r1, rl, rh, o⟩ := h
  unfold clearF at o
  split at o
  · unfold RepV at r1
    obtain ⟨a, ha, rfl⟩ := r1
    unfold RepL at rl
    subst rl
    split at o
    · rename_i e
      obtain ⟨ks, hk, kk, rk⟩ := rh.at_ _ a _ ha e
      obtain ⟨w, rh2⟩ := put_dct (kvs := []) (ks := []) (kvs0 := []) rh ha hk rfl (by show RepL X.K m H [] []; exact .nil)
      exact mtd_clear pns s σ H _ _ v us Q I rx rv ⟨a, ks, rfl, rfl, hk, o .non m _ w (by unfold RepV; rfl) rh2⟩
    · exact o.elim
  · exact o.elim
theorem c_dict : CallR X (.type "dict") (rC X.K dictT) := by
  intro pns s σ H vs us Q I rl h
  obtain ⟨m, hs, ds, r, rh, o⟩ := h
  unfold dictT at o
  split at o
  · obtain ⟨x, rfl, r1⟩ := repL1 r
    unfold RepV at r1
    obtain ⟨a, ha, rfl⟩ := r1
    split at o
    · rename_i kvs e
      obtain ⟨ks, hk, kk, rk⟩ := rh.rdD ha e rfl
      exact call_dictD pns s σ H _ us Q I rl ⟨a, ks, rfl, hk, fun p hp => new_dct rh kk rk hp o⟩
    · rename_i kvs e
      obtain ⟨ks, hk, kk, rk⟩ := rh.rdD ha e rfl
      exact call_dictD pns s σ H _ us Q I rl ⟨a, ks, rfl, hk, fun p hp => new_dct rh kk rk hp o⟩
    · exact o.elim
  · exact o.elim
end
end DV
namespace DV
open PySem PySem.Spec PyProof.Rows L2
noncomputable def thawS (l : Nat) (kvs : List (Key × D)) : RS → RS
  | .nx ds h => if cB (h[l]? = some (.fdc kvs)) = true then .nx ds (h.set l (.dct kvs)) else .bad
  | .rt d h => if cB (h[l]? = some (.fdc kvs)) = true then .rt d (h.set l (.dct kvs)) else .bad
  | .exc c ds h => .exc c ds h
  | _ => .bad
noncomputable def thawE (l : Nat) (kvs : List (Key × D)) : R D → R D
  | .ok d h => if cB (h[l]? = some (.fdc kvs)) = true then .ok d (h.set l (.dct kvs)) else .bad
  | .exc c h => .exc c h
  | .bad => .bad
theorem thawS_nx {l : Nat} {kvs : List (Key × D)} {ds : Sl} {h : Hs} : thawS l kvs (.nx ds h) = if cB (h[l]? = some (.fdc kvs)) = true then .nx ds (h.set l (.dct kvs)) else .bad := rfl
theorem thawS_rt {l : Nat} {kvs : List (Key × D)} {d : D} {h : Hs} : thawS l kvs (.rt d h) = if cB (h[l]? = some (.fdc kvs)) = true then .rt d (h.set l (.dct kvs)) else .bad := rfl
theorem thawE_ok {l : Nat} {kvs : List (Key × D)} {d : D} {h : Hs} : thawE l kvs (.ok d h) = if cB (h[l]? = some (.fdc kvs)) = true then .ok d (h.set l (.dct kvs)) else .bad := rfl
def fdI (i : Nat) : IM := fun ds h => match ds[i]? with
  | some (some (.loc l)) => (match h[l]? with
    | some (.fdc kvs) => .ok (kvs.map fun p => dK p.1, fun _ => True) h
    | _ => .bad)
  | _ => .bad
noncomputable def lockS (i : Nat) (S : SM) : SM := fun ds h => match ds[i]? with
  | some (some (.loc l)) => (match h[l]? with
    | some (.dct kvs) => thawS l kvs (S ds (h.set l (.fdc kvs)))
    | _ => .bad)
  | _ => .bad
noncomputable def lockE (i : Nat) (A : EM) : EM := fun ds h => match ds[i]? with
  | some (some (.loc l)) => (match h[l]? with
    | some (.dct kvs) => thawE l kvs (A ds (h.set l (.fdc kvs)))
    | _ => .bad)
  | _ => .bad
section
variable {K : PySem.W.Frag} {m m' : List Addr} {H H' : Hp} {h h' : Hs} {l : Nat} {a : Addr} {kvs : List (Key × D)} {ks : List (Key × V)} {od : Obj}
/-- written, in the weaker sense -/
theorem RepH.write0 {u o : HO} {ao : AO} (r : RepH K m H h) (hl : m[l]? = some a) (w : Grw m H m (upd H a o)) (new : RepO K m (L2.upd H a o) a ao) : RepH K m (L2.upd H a o) (h.set l ao) := by
  refine ⟨by simp [r.len], r.nd, fun i b ob hi hb => ?_⟩
  by_cases z : i = l
  · subst z
    rw [hl] at hi; cases hi
    obtain ⟨q, hq⟩ := List.getElem?_eq_some_iff.mp hb
    simp at q hq
    subst hq
    exact new
  · rw [List.getElem?_set_ne (Ne.symm z)] at hb
    refine (r.at_ i b ob hi hb).keep0 w (upd_ne fun w => z ?_)
    subst w
    obtain ⟨q1, e1⟩ := List.getElem?_eq_some_iff.mp hi
    obtain ⟨q2, e2⟩ := List.getElem?_eq_some_iff.mp hl
    exact (List.getElem_inj r.nd).mp (e1.trans e2.symm)
theorem grw_lock (e : H a = some (.dK ks)) : Grw m H m (upd H a (.frz od (.dK ks))) :=
  ⟨⟨[], by simp⟩, fun b xs q => by rw [upd_ne (fun z => by rw [z, e] at q; cases q)]; exact q, fun b o xs q => by rw [upd_ne (fun z => by rw [z, e] at q; cases q)]; exact q, fun b φ q => by rw [upd_ne (fun z => by rw [z, e] at q; cases q)]; exact q⟩
theorem grw_thaw (e : H a = some (.frz od (.dK ks))) : Grw m H m (upd H a (.dK ks)) :=
  ⟨⟨[], by simp⟩, fun b xs q => by rw [upd_ne (fun z => by rw [z, e] at q; cases q)]; exact q, fun b o xs q => by rw [upd_ne (fun z => by rw [z, e] at q; cases q)]; exact q, fun b φ q => by rw [upd_ne (fun z => by rw [z, e] at q; cases q)]; exact q⟩
theorem RepH.lock (r : RepH K m H h) (ha : m[l]? = some a) (e : h[l]? = some (.dct kvs)) (hk : H a = some (.dK ks)) (kk : kvs.map (·.1) = ks.map (·.1)) (rk : RepL K m H (kvs.map (·.2)) (ks.map (·.2))) :
    RepH K m (upd H a (.frz od (.dK ks))) (h.set l (.fdc kvs)) :=
  RepH.write0 (u := .dK ks) r ha (grw_lock hk) ⟨od, ks, upd_same, kk, rk.mono0 (grw_lock hk)⟩
theorem RepH.thaw (r : RepH K m' H' h') (ha : m'[l]? = some a) (e : h'[l]? = some (.fdc kvs)) (hk : H' a = some (.frz od (.dK ks))) : RepH K m' (upd H' a (.dK ks)) (h'.set l (.dct kvs)) := by
  obtain ⟨o2, ks2, hk2, kk, rk⟩ := r.at_ l a _ ha e
  rw [hk] at hk2
  cases hk2
  exact RepH.write0 (u := .dK ks) r ha (grw_thaw hk) ⟨ks, upd_same, kk, rk.mono0 (grw_thaw hk)⟩
/-- from before the lock to behind it -/
theorem grow_out (e : H a = some (.dK ks)) (g : Grow m (upd H a (.frz od (.dK ks))) m' H') : Grow m H m' (upd H' a (.dK ks)) := by
  have ha : H' a = some (.frz od (.dK ks)) := g.frz _ _ _ upd_same
  refine ⟨g.pre, fun b xs q => ?_, fun b o u q => ?_, fun b φ q => ?_⟩
  · have n : b ≠ a := fun z => by rw [z, e] at q; cases q
    rw [upd_ne n]; exact g.tup _ _ (by rw [upd_ne n]; exact q)
  · have n : b ≠ a := fun z => by rw [z, e] at q; cases q
    rw [upd_ne n]; exact g.frz _ _ _ (by rw [upd_ne n]; exact q)
  · have n : b ≠ a := fun z => by rw [z, e] at q; cases q
    rw [upd_ne n]; exact g.ext _ _ (by rw [upd_ne n]; exact q)
theorem grow_exc (e : H a = some (.dK ks)) (g : Grow m (upd H a (.frz od (.dK ks))) m' H') : Grow m H m' H' := by
  refine ⟨g.pre, fun b xs q => ?_, fun b o u q => ?_, fun b φ q => ?_⟩
  · exact g.tup _ _ (by rw [upd_ne fun z => by rw [z, e] at q; cases q]; exact q)
  · exact g.frz _ _ _ (by rw [upd_ne fun z => by rw [z, e] at q; cases q]; exact q)
  · exact g.ext _ _ (by rw [upd_ne fun z => by rw [z, e] at q; cases q]; exact q)
theorem pre_get {l : Nat} (p : ∃ r, m' = m ++ r) (ha : m[l]? = some a) : m'[l]? = some a := by
  obtain ⟨r, rfl⟩ := p
  rw [List.getElem?_append_left (List.getElem?_eq_some_iff.mp ha).1]; exact ha
end
section
variable {X : Cx} {g : Cfg} {tg e : Expr} {body : List Stmt} {pos : Pos} {S : SM} {T : GM} {i : Nat} {st : Stmt} {A : EM}
theorem sm_lock (h : PS X st (tS g S)) : PS X st (tS g (lockS i S)) := by
  refine PS.weak (ps_lock h) fun N σ H ⟨m, ds, h, hs, rh, o⟩ => ?_
  unfold lockS at o
  split at o
  · rename_i l e1
    split at o
    · rename_i kvs e2
      obtain ⟨v, _, rv⟩ := hs.get e1
      unfold RepV at rv
      obtain ⟨a, ha, rfl⟩ := rv
      obtain ⟨ks, hk, kk, rk⟩ := rh.at_ l a _ ha e2
      refine ⟨a, .dK ks, hk, True.intro, fun od => ⟨m, ds, h.set l (.fdc kvs), hs.mono0 (grw_lock hk), rh.lock ha e2 hk kk rk, ?_⟩⟩
      cases q : S ds (h.set l (.fdc kvs)) with
      | nx ds' h' =>
        rw [q, thawS_nx] at o
        split at o
        · rename_i c
          intro σ' m' H' gg ss rr
          have fr := gg.frz _ _ _ upd_same
          exact ⟨fr, o σ' m' _ (grow_out hk gg) (ss.mono0 (grw_thaw fr)) (rr.thaw (pre_get gg.pre ha) (cB_iff.mp c) fr)⟩
        · exact o.elim
      | rt d h' =>
        rw [q, thawS_rt] at o
        split at o
        · rename_i c
          intro v m' H' gg ss rr
          have fr := gg.frz _ _ _ upd_same
          exact ⟨fr, o v m' _ (grow_out hk gg) (ss.mono0 (grw_thaw fr)) (rr.thaw (pre_get gg.pre ha) (cB_iff.mp c) fr)⟩
        · exact o.elim
      | exc c ds' h' =>
        rw [q] at o
        intro σ' m' H' gg ss rr
        exact o σ' m' H' (grow_exc hk gg) ss rr
      | bk _ _ => rw [q] at o; exact o.elim
      | ct _ _ => rw [q] at o; exact o.elim
      | bad => rw [q] at o; exact o.elim
    · exact o.elim
  · exact o.elim
theorem em_lock (h : PE X e (tM g A)) : PE X e (tM g (lockE i A)) := by
  refine PE.weak (pe_lock h) fun σ H Q ⟨m, ds, h, hs, rh, o⟩ => ?_
  unfold lockE at o
  split at o
  · rename_i l e1
    split at o
    · rename_i kvs e2
      obtain ⟨v, _, rv⟩ := hs.get e1
      unfold RepV at rv
      obtain ⟨a, ha, rfl⟩ := rv
      obtain ⟨ks, hk, kk, rk⟩ := rh.at_ l a _ ha e2
      refine ⟨a, .dK ks, hk, True.intro, fun od => ⟨m, ds, h.set l (.fdc kvs), hs.mono0 (grw_lock hk), rh.lock ha e2 hk kk rk, ?_⟩⟩
      cases q : A ds (h.set l (.fdc kvs)) with
      | ok d h' =>
        rw [q, thawE_ok] at o
        split at o
        · rename_i c
          intro v m' H' gg ss rr
          have fr := gg.frz _ _ _ upd_same
          exact ⟨fr, o v m' _ (grow_out hk gg) (ss.mono0 (grw_thaw fr)) (rr.thaw (pre_get gg.pre ha) (cB_iff.mp c) fr)⟩
        · exact o.elim
      | exc c h' =>
        rw [q] at o
        intro m' H' gg rr
        exact o m' H' (grow_exc hk gg) rr
      | bad => rw [q] at o; exact o.elim
    · exact o.elim
  · exact o.elim
theorem im_fd (hK : X.K = g.K) (he : PE X e (tVar i)) : PI X tg e (tI g (fdI i)) := by
  refine PI.weak (pi_keys he) fun σ H Q ⟨m, ds, h, hs, rh, o⟩ => ?_
  unfold fdI at o
  split at o
  · rename_i l e1
    split at o
    · rename_i kvs e2
      obtain ⟨v, hv, rv⟩ := hs.get e1
      unfold RepV at rv
      obtain ⟨a, ha, rfl⟩ := rv
      obtain ⟨od, ks, hk, kk, rk⟩ := rh.at_ l a _ ha e2
      refine ⟨.ref a, hv, a, od, rfl, .inl ⟨ks, hk, o _ m H (.refl _ _) rh fun j m2 H2 h2 g2 rh2 _ => ⟨fun d hd => ?_, fun hl => ⟨g2.frz _ _ _ hk, ?_⟩⟩⟩⟩
      · rw [List.getElem?_map] at hd
        cases q : kvs[j]? with
        | none => rw [q] at hd; cases hd
        | some p =>
          rw [q] at hd
          cases hd
          have lt := (List.getElem?_eq_some_iff.mp q).1
          have ll : kvs.length = ks.length := map_len (δ := Unit) kk
          refine ⟨⟨g2.frz _ _ _ hk, by rw [← ll]; exact lt⟩, fun x H3 ⟨e3, k, v, ek, ex⟩ => ?_⟩
          subst e3 ex
          have ke : p.1 = k := by
            have q1 : (kvs.map (·.1))[j]? = some p.1 := by rw [List.getElem?_map, q]; rfl
            rw [kk, List.getElem?_map, ek] at q1
            exact (Option.some.inj q1).symm
          subst ke
          exact ⟨.refl _ _, dK_rep _, rh2⟩
      · have ll : kvs.length = ks.length := map_len (δ := Unit) kk
        rw [List.length_map] at hl
        show ks.length ≤ j
        omega
    · exact o.elim
  · exact o.elim
end
end DV
namespace DV
open PySem PySem.Spec PyProof.Rows L2
theorem tuple_mul1 (l : Addr) (items : Array Value) (n : Nat) (dd : Option Addr) (sl : Array (Option Value)) (x : Int) (u : Tok) (c0 : (decide (x < -(2 ^ 63)) || decide (x ≥ 2 ^ 63)) = false) (c1 : (items.isEmpty || x == 1) = true) :
    Meets (Builtin.«tuple.__mul__» ⟨[.ref l, .int x u], []⟩) (fun _ R s => s.heap.get? l = some { cls := .type "tuple", dict := dd, data := .seq items n, slots := sl } ∧ R (.ok (.ret (Value.ref l))) s) :=
  .of_wp fun prog w A R s h => by
    obtain ⟨hp, g, d, tk, os⟩ := s
    obtain ⟨hl, h⟩ := h
    have f1 := AutoSeq1.idx_int
    wp_walk using wpAny_loadPart' hl
    repeat (first
      | (refine wpAny_ite_false (decide_eq_false (by rw [c0]; exact Bool.false_ne_true)) ?_; wp_walk using wpAny_loadPart' hl)
      | (refine wpAny_ite_true (decide_eq_true c1) ?_; wp_walk using wpAny_loadPart' hl))
    exact ⟨_, rfl, h⟩
theorem tuple_mul0 (l : Addr) (items : Array Value) (n : Nat) (dd : Option Addr) (sl : Array (Option Value)) (x : Int) (u : Tok) (c0 : (decide (x < -(2 ^ 63)) || decide (x ≥ 2 ^ 63)) = false) (c1 : (items.isEmpty || x == 1) = false) (c2 : (decide (x ≤ 0) || items.isEmpty) = true) :
    Meets (Builtin.«tuple.__mul__» ⟨[.ref l, .int x u], []⟩) (fun _ R s => s.heap.get? l = some { cls := .type "tuple", dict := dd, data := .seq items n, slots := sl } ∧
      R (.ok (.ret (Value.ref s.heap.objs.size))) { s with heap := s.heap.push { cls := Value.type "tuple", data := Data.seq #[] }, toks := s.toks }) :=
  .of_wp fun prog w A R s h => by
    obtain ⟨hp, g, d, tk, os⟩ := s
    obtain ⟨hl, h⟩ := h
    have f1 := AutoSeq1.idx_int
    have hsz : (#[] : Array Value).size ≤ sizeLine := by rw [sizeLine_eq]; decide
    wp_walk using wpAny_loadPart' hl
    repeat (first
      | (refine wpAny_ite_false (decide_eq_false (by rw [c0]; exact Bool.false_ne_true)) ?_; wp_walk using wpAny_loadPart' hl)
      | (refine wpAny_ite_false (decide_eq_false (by rw [c1]; exact Bool.false_ne_true)) ?_; wp_walk using wpAny_loadPart' hl)
      | (refine wpAny_ite_true (decide_eq_true c2) ?_; wp_walk using wpAny_loadPart' hl))
    exact ⟨_, rfl, h⟩
def rRepX (K : PySem.W.Frag) : R2 := fun x y H Q => ∃ l k xs, x = .ref l ∧ y = .int k ∧ SqT K H l xs ∧ -1000 ≤ k ∧ k ≤ 1000 ∧ xs.length ≤ 1000 ∧ ((xs = [] ∨ k = 1) → Q (.ref l) H) ∧ ∀ p, H p = none → Q (.ref p) (upd H p (.tup (List.replicate k.toNat xs).flatten))
section
variable {X : Cx}
theorem op_repX : OpR X (binaryOp .Mult) (rRepX X.K) := by
  intro pns s σ H x y v u Q I rx ry h
  obtain ⟨l, k, xs, rfl, rfl, hT, h1, h2, hz, q1, q⟩ := h
  by_cases big : xs ≠ [] ∧ 2 ≤ k
  · exact op_repT pns s σ H _ _ v u Q I rx ry ⟨l, k, xs, rfl, rfl, hT, big.1, big.2, h2, hz, q⟩
  cases rx
  obtain ⟨t, rfl⟩ := ry
  obtain ⟨jts, r, ⟨⟨cls, dd, data, sl⟩, ho, hc, n, hd⟩, hs⟩ := I.tuple hT
  simp only at hc hd
  subst hc hd
  have hle : jts.length = xs.length := r.length.symm
  have c0 : (decide (k < -(2 ^ 63)) || decide (k ≥ 2 ^ 63)) = false := by
    rw [decide_eq_false (by omega), decide_eq_false (by omega)] <;> rfl
  refine wpAny_binaryOp_repeat_ref (T := "tuple") (U := "int") (by decide) ⟨_, ho, rfl⟩ (fun s' => typeIs_int s' k t) noFill_tuple_mul F.fills_int_mul F.slot_int_rmul repeat_tuple F.slot_int_index.lookup
    (call_meets F.slot_int_rmul (typeIs_int s k t) F.entry_int_rmul (F.args_int_rmul_2 _ _) (int_rmul_tuple k t l jts.toArray n dd sl) ⟨ho, rfl, ⟨_, ho, rfl⟩, ?_⟩)
  by_cases z : xs = [] ∨ k = 1
  · have c1 : (jts.toArray.isEmpty || k == 1) = true := by
      rcases z with z | z
      · have : jts = [] := List.eq_nil_of_length_eq_zero (by rw [hle, z]; rfl)
        subst this; rfl
      · subst z; simp
    exact call_meets F.slot_tuple_mul ⟨_, ho, rfl⟩ F.entry_tuple_mul (F.args_tuple_mul_2 _ _) (tuple_mul1 l jts.toArray n dd sl k t c0 c1) ⟨ho, ⟨.ref l, H, I, rfl, q1 z⟩⟩
  · have hn : jts ≠ [] := fun e => z (.inl (List.eq_nil_of_length_eq_zero (by rw [← hle, e]; rfl)))
    have hx : xs ≠ [] := fun e => z (.inl e)
    have hi : jts.toArray.isEmpty = false := by
      cases jts with
      | nil => exact absurd rfl hn
      | cons a b => rfl
    have hk : k ≤ 0 := by
      have : ¬ 2 ≤ k := fun c => big ⟨hx, c⟩
      have : k ≠ 1 := fun c => z (.inr c)
      omega
    have c1 : (jts.toArray.isEmpty || k == 1) = false := by
      rw [hi, Bool.false_or]; exact beq_eq_false_iff_ne.mpr (by omega)
    have c2 : (decide (k ≤ 0) || jts.toArray.isEmpty) = true := by rw [decide_eq_true hk]; rfl
    have e0 : (List.replicate k.toNat xs).flatten = [] := by
      have : k.toNat = 0 := by omega
      rw [this]; rfl
    have q2 := q s.heap.objs.size (I.hok.fresh (Nat.le_refl _))
    rw [e0] at q2
    refine call_meets F.slot_tuple_mul ⟨_, ho, rfl⟩ F.entry_tuple_mul (F.args_tuple_mul_2 _ _) (tuple_mul0 l jts.toArray n dd sl k t c0 c1 c2) ⟨ho, ?_⟩
    refine ⟨.ref s.heap.objs.size, _, I.laid (t' := s.toks) (o := .tup []) (fun b ob q => Heap.get?_push_of_some _ q) (Nat.le_refl _) ?_, rfl, q2⟩
    exact ⟨by rw [sizeLine_eq]; decide, [], .nil, IsTup.new _ _⟩
end
theorem RepL.rep {K : PySem.W.Frag} {m : List Addr} {H : Hp} {ds : List D} {vs : List V} (r : RepL K m H ds vs) : ∀ k : Nat, RepL K m H (List.replicate k ds).flatten (List.replicate k vs).flatten
  | 0 => .nil
  | k + 1 => by
    rw [List.replicate_succ, List.replicate_succ, List.flatten_cons, List.flatten_cons]
    exact r.append (RepL.rep r k)
noncomputable def mulXF : VF2
  | .tup xs, .int k, h => if -1000 ≤ k ∧ k ≤ 1000 ∧ xs.length ≤ 1000 then some (.tup (List.replicate k.toNat xs).flatten, h) else none
  | d, e, h => mulF d e h
theorem o_mulX {X : Cx} : OpR X (binaryOp .Mult) (rV X.K mulXF) := by
  intro pns s σ H x y v u Q I rx ry h
  obtain ⟨m, hs, dx, dy, r1, r2, rh, o⟩ := h
  unfold mulXF at o
  split at o
  · rename_i xs k
    split at o
    · rename_i c
      have r1' := r1
      unfold RepV at r1 r2
      obtain ⟨a, vs, rfl, ha, rl⟩ := r1
      subst r2
      have ne : vs = [] ↔ xs = [] := rl.nil_iff
      refine op_repX pns s σ H _ _ v u Q I rx ry ⟨a, k, vs, rfl, rfl, SqT.of ha, c.1, c.2.1, by rw [rl.length]; exact c.2.2, fun z => ?_, fun p hp => ?_⟩
      · have e : (List.replicate k.toNat xs).flatten = xs := by
          rcases z with z | z
          · rw [ne.mp z]; simp
          · subst z; simp
        rw [e] at o
        exact OutV.keep o r1' rh
      · exact o (.ref p) m _ (.put hp) (by unfold RepV; exact ⟨p, _, rfl, upd_same, (rl.rep _).mono (.put hp)⟩) (rh.put hp)
    · exact o.elim
  · exact o_mul pns s σ H x y v u Q I rx ry ⟨m, hs, dx, dy, r1, r2, rh, o⟩
theorem fm_congr {α β : Type} {f g : α → Option β} : ∀ {l : List α}, (∀ a ∈ l, f a = g a) → l.filterMap f = l.filterMap g
  | [], _ => rfl
  | a :: l, h => by rw [List.filterMap_cons, List.filterMap_cons, h a List.mem_cons_self, fm_congr fun b hb => h b (List.mem_cons_of_mem _ hb)]
/-- which items -/
def stepIx (n : Nat) (lo st : Option Int) : List Nat := sliceRange (sliceBounds lo none st n).1 (sliceBounds lo none st n).2.1 (sliceBounds lo none st n).2.2
def pickL {α : Type} (xs : List α) (lo st : Option Int) : List α := (stepIx xs.length lo st).filterMap fun i => xs[i]?
theorem slicePick_eq (jts : List Value) (lo st : Option Int) : slicePick jts.toArray lo none st = (pickL jts lo st).toArray := by
  unfold slicePick pickL stepIx
  rw [List.size_toArray]
  congr 1
  apply fm_congr
  intro i _
  simp
theorem Vals.pick {vs : List V} {us : List Value} (r : Vals vs us) : ∀ is : List Nat, Vals (is.filterMap fun i => vs[i]?) (is.filterMap fun i => us[i]?)
  | [] => .nil
  | i :: is => by
    rw [List.filterMap_cons, List.filterMap_cons]
    cases q : vs[i]? with
    | none =>
      have : us[i]? = none := by
        rw [List.getElem?_eq_none_iff] at q ⊢
        rw [← r.length]; exact q
      rw [this]; exact Vals.pick r is
    | some v =>
      obtain ⟨u, hu, ru⟩ := r.get q
      rw [hu]; exact .cons ru (Vals.pick r is)
theorem RepL.pick {K : PySem.W.Frag} {m : List Addr} {H : Hp} {ds : List D} {vs : List V} (r : RepL K m H ds vs) : ∀ is : List Nat, RepL K m H (is.filterMap fun i => ds[i]?) (is.filterMap fun i => vs[i]?)
  | [] => .nil
  | i :: is => by
    rw [List.filterMap_cons, List.filterMap_cons]
    cases q : ds[i]? with
    | none =>
      have : vs[i]? = none := by
        rw [List.getElem?_eq_none_iff] at q ⊢
        rw [r.length]; exact q
      rw [this]; exact RepL.pick r is
    | some v =>
      obtain ⟨u, hu, ru⟩ := r.get q
      rw [hu]; exact .cons ru (RepL.pick r is)
/-- with a step k, 2 to 9 -/
def stepF (d : D) (lo : Option Int) (k : Int) (h : Hs) : Res := match d with
  | .loc l => match h[l]? with
    | some (.lst ds) => if (pickL ds lo (some k)).length ≤ LIM then some (.loc h.length, h ++ [.lst (pickL ds lo (some k))]) else none
    | _ => none
  | .ro ns => if (pickL ns lo (some k)).length ≤ LIM then some (.loc h.length, h ++ [.lst ((pickL ns lo (some k)).map D.int)]) else none
  | _ => none
def stepM (A : EM) (lo : OM) (k : Int) : EM := fun ds h => (A ds h).bind fun d h => (lo ds h).bind fun l h => .ofO (stepF d l k h)
theorem pickL_map {α β : Type} (f : α → β) (xs : List α) (lo st : Option Int) : pickL (xs.map f) lo st = (pickL xs lo st).map f := by
  unfold pickL
  rw [List.length_map, List.map_filterMap]
  apply fm_congr
  intro i _
  simp
theorem em_step {X : Cx} {g : Cfg} {e : Expr} {lo : Option Expr} {A : EM} {L : OM} {k : Nat} {j p1 p2 pos} (hK : X.K = g.K) (hk : ((k : Int)) ≠ 0) (ha : PE X e (tM g A)) (hl : PO X lo (tP g L)) :
    PE X (.Subscript e (.Slice lo none (some (.Constant (.int (k : Int)) j p1)) p2) pos) (tM g (stepM A L (k : Int))) := by
  refine ⟨fun pns s σ H Q I ⟨m, ds, h, hs, rh, o⟩ => ?_⟩
  refine Subscript_ (thn (ha.run pns s σ H (fun x H1 => ∃ m1 h1 d, RepS g.K m1 H1 ds σ ∧ RepH g.K m1 H1 h1 ∧ RepV g.K m1 H1 d x ∧ OutE g m1 H1 σ Q ((L ds h1).bind fun l h => .ofO (stepF d l (k : Int) h))) I ⟨m, ds, h, hs, rh, OutE.toE o fun d h1 v m1 H1 g1 r1 rh1 o1 => ⟨m1, h1, d, hs.mono g1, rh1, r1, o1⟩⟩) fun v s1 ⟨x, H1, I1, r1, m1, h1, d, hs1, rh1, rd, o1⟩ => ?_)
  refine wpAny_Slice (thn (hl.run pns s1 σ H1 (fun l H2 => ∃ m2 h2, RepS g.K m2 H2 ds σ ∧ RepH g.K m2 H2 h2 ∧ RepV g.K m2 H2 d x ∧ OutE g m2 H2 σ Q (.ofO (stepF d l (k : Int) h2))) I1 ⟨m1, ds, h1, hs1, rh1, ?_⟩) fun vl s2 ⟨l, H2, I2, pl, m2, h2, hs2, rh2, rd2, o2⟩ => ?_)
  · cases q : L ds h1 with
    | ok l h2 => rw [q] at o1; exact fun m2 H2 g2 rh2 => ⟨m2, h2, hs1.mono g2, rh2, rd.mono g2, OutE.mono o1 g2⟩
    | exc c h2 => rw [q] at o1; exact o1
    | bad => rw [q] at o1; exact o1
  have hst : PO X (some (.Constant (.int (k : Int)) j p1)) (tPart (tC (.int (k : Int)))) := po_some pe_int
  refine thn (po_none.run pns s2 σ H2 (fun o H3 => o = none ∧ H3 = H2) I2 ⟨rfl, rfl⟩) fun vu s3 ⟨u, H3, I3, pu, eu, e3⟩ => ?_
  subst eu e3
  refine thn (hst.run pns s3 σ H3 (fun o H4 => o = some (k : Int) ∧ H4 = H3) I3 ⟨(k : Int), rfl, rfl, rfl⟩) fun vs s4 ⟨o', H4, I4, ps, eo, e4⟩ => ?_
  subst eo e4
  have I5 : Inv X pns σ H4 { s4 with heap := s4.heap.push { cls := .type "slice", data := .fields #[vl, vu, vs] } } := I4.kept (t' := s4.toks) fun b ob q => Heap.get?_push_of_some _ q
  have fin : ∀ {a : Addr} {xs : List V} {ds' : List D}, x = .ref a → SqL X.K H4 a xs → RepL g.K m2 H4 ds' xs → (pickL ds' l (some (k : Int))).length ≤ LIM → OutE g m2 H4 σ Q (.ok (.loc h2.length) (h2 ++ [.lst (pickL ds' l (some (k : Int)))])) →
      wpAny (model X.prog X.w) X.A (subscriptTail e (.Slice lo none (some (.Constant (.int (k : Int)) j p1)) p2) v (.ref s4.heap.objs.size)) (EP X pns σ Q) X.xe { s4 with heap := s4.heap.push { cls := .type "slice", data := .fields #[vl, vu, vs] } } := by
    intro a xs ds' ex hx rl hz o3
    subst ex
    cases r1
    obtain ⟨jts, r, ht, hzz⟩ := I5.list hx
    refine tail_any (ops := [.ref a, .ref s4.heap.objs.size]) ht.isList.typeIs (PySem.slot_list_getitem.lookup) ?_ (by with_unfolding_all rfl)
    refine wpAny_getItem_list_slice ht.isList (Heap.IsSliceOf.new _ vl vu vs) pl pu ps (by intro z; exact hk (Option.some.inj z)) ?_ (by rw [List.size_toArray, ← r.length]; exact hzz)
    rw [slicePick_eq]
    have ln1 : xs.length = jts.length := r.length
    have ln2 : xs.length = ds'.length := rl.length
    have rp : RepL g.K m2 H4 (pickL ds' l (some (k : Int))) (pickL xs l (some (k : Int))) := by unfold pickL; rw [ln2]; exact rl.pick _
    have vp : Vals (pickL xs l (some (k : Int))) (pickL jts l (some (k : Int))) := by unfold pickL; rw [ln1]; exact Vals.pick r _
    have fr := I5.hok.fresh (Nat.le_refl _)
    refine ⟨.ref _, _, I5.laid (t' := s4.toks) (o := .lst (pickL xs l (some (k : Int)))) (fun b ob q => Heap.get?_push_of_some _ q) (Nat.le_refl _) ?_, rfl, ?_⟩
    · exact ⟨by rw [rp.length, LIM_eq]; exact hz, _, 0, vp, Heap.get?_push_size _ rfl⟩
    · exact new_lst' (Q := Q) rp rh2 fr o3
  show wpAny (model X.prog X.w) X.A (subscriptTail e (.Slice lo none (some (.Constant (.int (k : Int)) j p1)) p2) v (.ref s4.heap.objs.size)) (EP X pns σ Q) X.xe { s4 with heap := s4.heap.push { cls := .type "slice", data := .fields #[vl, vu, vs] } }
  unfold stepF at o2
  split at o2
  · rename_i l2
    have rd' := rd2
    unfold RepV at rd2
    obtain ⟨a, ha, ex⟩ := rd2
    split at o2
    · rename_i ds' e1
      split at o2
      · rename_i hz
        obtain ⟨xs, hv, rl⟩ := rh2.lst ha e1
        exact fin ex (SqL.of hv) rl hz o2
      · exact o2.elim
    · exact o2.elim
  · rename_i ns _
    unfold RepV at rd2
    obtain ⟨a, ex, ha⟩ := rd2
    split at o2
    · rename_i hz
      refine fin (ds' := ns.map D.int) ex (by rw [hK]; exact ha.sq) (repL_ints ns) (by rw [pickL_map, List.length_map]; exact hz) ?_
      rw [pickL_map]
      exact o2
    · exact o2.elim
  · exact o2.elim
end DV
namespace DV
open PySem PySem.Spec PyProof.Rows L2
def strsOf : List D → Option (List Str)
  | [] => some []
  | .str s :: r => (strsOf r).map fun ss => s :: ss
  | _ => none
@[simp] theorem strsOf_map (ns : List Str) : strsOf (ns.map D.str) = some ns := by
  induction ns with
  | nil => rfl
  | cons n ns ih => rw [List.map_cons]; unfold strsOf; rw [ih]; rfl
def disp1M (A B : EM) : EM := fun ds h => (A ds (h ++ [.dct []])).bind fun k h1 => (B ds h1).bind fun v h2 => match keyD k, h2[h.length]? with
  | some k, some (.dct []) => .ok (.loc h.length) (h2.set h.length (.dct [(k, v)]))
  | _, _ => .bad
section
variable {N : Sl → Hs → Prop} {Q : D → Hs → Prop} {X : QX} {ds : Sl} {h : Hs}
@[simp] theorem wp_newD : (newDM ds h).wp Q X = Q (.loc h.length) (h ++ [.dct []]) := rfl
@[simp] theorem wp_newT : (newTM ds h).wp Q X = Q (.loc h.length) (h ++ [.dcT []]) := rfl
@[simp] theorem wp_step (A : EM) (lo : OM) (k : Int) : (stepM A lo k ds h).wp Q X = (A ds h).wp (fun d h => (lo ds h).wp (fun l h => (R.ofO (stepF d l k h)).wp Q X) X) X := by simp only [stepM, wp_bind]
@[simp] theorem wp_disp1 (A B : EM) : (disp1M A B ds h).wp Q X = (A ds (h ++ [.dct []])).wp (fun k h1 => (B ds h1).wp (fun v h2 => match keyD k, h2[h.length]? with
  | some k, some (.dct []) => Q (.loc h.length) (h2.set h.length (.dct [(k, v)]))
  | _, _ => False) X) X := by
  simp only [disp1M, wp_bind]
  congr 1; funext k h1
  congr 1; funext v h2
  split <;> rfl
end
end DV
namespace DV
open PySem PySem.Spec PyProof.Rows L2
def kxB (K : PySem.W.Frag) (C : Addr) : Bool :=
  (PySem.W.clsIn K C).isSome && (decide (PySem.W.findIn K (.ref C) "__getattribute__" = some (some (.builtin "BaseException.__getattribute__"))) && ((PySem.W.findIn K (.ref C) "__getattr__").isSome &&
  (decide (PySem.W.subIn K (.ref C) (.type "BaseException") = some true) && (decide (PySem.W.findIn K (.ref C) "__class__" = some (some (.builtin "object.__class__"))) &&
  (decide (PySem.W.specialIn K (.builtin "object.__class__") "__get__" = some (some (.builtin "getset_descriptor.__get__"))) && (decide (PySem.W.takesIn K (.builtin "object.__class__") = some true) && decide (PySem.W.mroIn K C (.type "object") = some true)))))))
inductive Fx where
  | he (f : He.Fa)
  | kx (x : Str)
  | ix (x y : Str) (b : Bool)
  | ib (x : Str) (T : String) (b : Bool)
def Fx.ok (K : PySem.W.Frag) : Fx → Bool
  | .he f => f.ok K
  | .kx x => kxB K (He.ga K x)
  | .ix x y b => decide (PySem.W.kitOne K (.ref (He.ga K x)) (.ref (He.ga K y)) = some b)
  | .ib x T b => decide (PySem.W.kitOne K (.ref (He.ga K x)) (.type T) = some b)
def obsX (fa : List Fx) (fn : List He.DefD) (K : PySem.W.Frag) : He.AlD := ((fa.all fun f => f.ok K) && fn.all fun d => d.ok K, fn.map fun d => He.fnW K d.at_)
def SaysX (fa : List Fx) (fn : List He.DefD) (K : PySem.W.Frag) : Prop := obsX fa fn K = He.valD fn
def obsXG (n : Nat) (fa : List Fx) (fn : List He.DefD) (g : Addr → Option Obj) : He.AlD := obsX fa fn (He.frG g (He.asD g n))
def hookX (n : Nat) (fa : List Fx) (fn : List He.DefD) : PySem.W.Hook where
  α := He.AlD
  obs := fun s => obsXG n fa fn s.heap.get?
  val := fun _ => He.valD fn
  says := fun _ h => ∃ K : PySem.W.Frag, K.In h ∧ SaysX fa fn K
  of := fun _ _ e => ⟨_, He.frG_in, e⟩
  keeps := fun _ _ _ ⟨K, hK, c⟩ k => ⟨K, PySem.W.Frag.In.keeps hK k, c⟩
theorem obsXG_eq {n : Nat} {fa : List Fx} {fn : List He.DefD} {g : Addr → Option Obj} {s : Shared} (h : ∀ a, g a = s.heap.get? a) : obsXG n fa fn g = (hookX n fa fn).obs s := by
  have e : g = s.heap.get? := funext h
  rw [e] <;> rfl
section
variable {fa : List Fx} {fn : List He.DefD} {K : PySem.W.Frag}
theorem SaysX.fact0 (c : SaysX fa fn K) (i : Nat) {f : Fx} (h : fa[i]? = some f := by rfl) : f.ok K = true := by
  have c1 := (He.ba (show ((fa.all fun f => f.ok K) && fn.all fun d => d.ok K) = true from congrArg (fun z : He.AlD => z.1) c)).1
  exact List.all_eq_true.mp c1 f (List.mem_of_getElem? h)
theorem SaysX.fact (c : SaysX fa fn K) (i : Nat) {f : He.Fa} (h : fa[i]? = some (.he f) := by rfl) : f.ok K = true := c.fact0 i h
theorem SaysX.def_ (c : SaysX fa fn K) (i : Nat) {d : He.DefD} (h : fn[i]? = some d := by rfl) : ∃ fd, FunD K d.name d.qual d.params d.body d.scope (d.dvs K) (d.kws K) (He.fAd K d.at_) fd := by
  have c2 := (He.ba (show ((fa.all fun f => f.ok K) && fn.all fun d => d.ok K) = true from congrArg (fun z : He.AlD => z.1) c)).2
  have e : fn.map (fun d => He.fnW K d.at_) = fn.map He.DefD.val := congrArg (fun z : He.AlD => z.2) c
  have e2 : (fn.map fun d => He.fnW K d.at_)[i]? = (fn.map He.DefD.val)[i]? := by rw [e]
  rw [List.getElem?_map, List.getElem?_map, h] at e2
  exact He.DefD.funD (Option.some.inj e2) (List.all_eq_true.mp c2 d (List.mem_of_getElem? h))
end
def tabF (tb : List (Str × Bool)) (c : Str) : Option Bool := (tb.find? fun p => decide (p.1 = c)).map (·.2)
def isXF (tb : List (Str × Bool)) (d : D) (h : Hs) : Res := match d with
  | .exn c => (tabF tb c).map fun b => (.bl b, h)
  | _ => none
theorem tabF_mem {tb : List (Str × Bool)} {c : Str} {b : Bool} (e : tabF tb c = some b) : (c, b) ∈ tb := by
  unfold tabF at e
  cases q : tb.find? fun p => decide (p.1 = c) with
  | none => rw [q] at e; cases e
  | some p =>
    rw [q] at e
    have m := List.mem_of_find?_eq_some q
    have k := List.find?_some q
    simp only [decide_eq_true_eq] at k
    obtain ⟨p1, p2⟩ := p
    simp only [Option.map_some, Option.some.injEq] at e
    simp only at k
    subst k e
    exact m
end DV
namespace DV
open PySem PySem.Spec PyProof.Rows L2
/-- an except suite's context, the exception's object kept as a thing of the heap -/
abbrev suiteX (X : Cx) (a : Addr) (pn : List (Addr × Obj)) : Cx := { X with A := X.A.mark (some (.ref a)), calm := false, pn := pn, xe := fun _ _ => False }
section
variable {X : Cx} {pns : List (Addr × Obj)} {σ : St} {H : Hp} {s : Shared}
/-- a thing that came into the heap is taken up -/
theorem Un.took {fs ex : List Addr} {H0 H1 : Hp} {h0 h1 : Heap} {a : Addr} {o : HO} (u : Un fs ex H0 H1 h0 h1) (n0 : h0.get? a = none) (n1 : H1 a = none) : Un fs ex H0 (upd H1 a o) h0 h1 := by
  have ne : ∀ b v, H1 b = some v → b ≠ a := fun b v e z => by rw [z, n1] at e; cases e
  refine ⟨u.keep, u.slot, fun b v e n hx => ?_, u.there, fun b xs e => ?_, fun b v w e => ?_, fun b ps e => ?_⟩
  · rw [upd_ne fun z => by rw [z, n0] at e; cases e]; exact u.free b v e n hx
  · have := u.tups b xs e; rw [upd_ne (ne _ _ this)]; exact this
  · have := u.frzs b v w e; rw [upd_ne (ne _ _ this)]; exact this
  · obtain ⟨mo, q⟩ := u.tbls b ps e; exact ⟨mo, by rw [upd_ne (ne _ _ q)]; exact q⟩
theorem exO_ok {P : Program} {w : World} {H : Hp} {h : Heap} {K : PySem.W.Frag} {c : Str} {a : Addr} {oe : Obj} {vs : Array Value} (e : h.get? a = some oe) (ec : oe.cls = .ref (He.ga K c)) (ed : oe.dict = none) (ef : oe.data = .fields vs) : ObjOk P w H h a (exO K c a) :=
  ⟨⟨oe, vs, e, ec, ed, ef⟩, ⟨oe, e⟩, fun _ _ ⟨o1, v1, p1, p2⟩ k => ⟨o1, v1, k _ p1, p2⟩⟩
/-- into the suite -/
theorem Inv.caught {a : Addr} {c : Str} {oe : Obj} {vs : Array Value} (I : Inv X pns σ H s) (e : s.heap.get? a = some oe) (ec : oe.cls = .ref (He.ga X.K c)) (ed : oe.dict = none) (ef : oe.data = .fields vs) (na : H a = none) (nL : a ≠ X.env.locals)
    (n0 : X.s_0.heap.get? a = none) (np : ∀ p ∈ X.pn ++ pns, p.1 ≠ a) : Inv (suiteX X a (X.pn ++ pns)) [] σ (upd H a (exO X.K c a)) s := by
  have ncell : ∀ x k, X.env.cells.lookup x = some k → k ≠ a := fun x k q z => by
    obtain ⟨v, hv⟩ := I.cell x k q
    obtain ⟨o, ho, hd⟩ := hv
    rw [z, e] at ho
    cases ho
    rw [ef] at hd
    cases hd
  have neH : ∀ b v, H b = some v → b ≠ a := fun b v q z => by rw [z, na] at q; cases q
  refine ⟨?_, I.os, I.bare, Un.took I.base n0 na, I.loc, I.cell, ?_, fun x k q => ?_, fun p hp => ?_, fun b v q => ?_, I.len⟩
  · have ok := I.ok
    exact ⟨ok.mod, ok.kind, ok.glob, ok.blt, ok.above, ok.inj, ok.has, ok.cab, (fun z => absurd (show false = true from z) Bool.false_ne_true), ok.frames, ok.stk, ok.exf, ok.bs, ok.bsz, ok.noex, ok.exfs, ok.funs, ok.frf⟩
  · show upd H a _ X.env.locals = none
    rw [upd_ne (Ne.symm nL)]; exact I.free
  · show upd H a _ k = none
    rw [upd_ne (ncell x k q)]; exact I.freeC x k q
  · have hp' : p ∈ X.pn ++ pns := by simpa using hp
    obtain ⟨p1, p2, p3⟩ := I.pin p hp'
    exact ⟨p1, by rw [upd_ne (np p hp')]; exact p2, p3⟩
  · by_cases z : b = a
    · subst z
      rw [upd_same] at q
      cases q
      exact exO_ok e ec ed ef
    · rw [upd_ne z] at q
      exact (I.hok b v q).stay (fun _ _ _ r => r) (fun d r => by rw [upd_ne (neH d _ r)]; exact r) fun d xs r => by rw [upd_ne (neH d _ r)]; exact r
/-- out of it -/
theorem Inv.leftX {a : Addr} {pn : List (Addr × Obj)} {H' : Hp} (I : Inv (suiteX X a (X.pn ++ pns)) pn σ H' s) (ok : X.Ok) : Inv X pns σ H' s :=
  ⟨ok, I.os, I.bare, I.base, I.loc, I.cell, I.free, I.freeC, fun p hp => I.pin p (List.mem_append_left _ hp), I.hok, I.len⟩
end
/-- the slot of the clause's name, forgotten -/
def dropE (oi : Option Nat) (N : Ends) : Ends := match oi with
  | some i => { nx := fun σ H => N.nx (σ.set i none) H, rt := N.rt, bk := fun σ H => N.bk (σ.set i none) H, ct := fun σ H => N.ct (σ.set i none) H }
  | none => N
def putE (oi : Option Nat) (σ : St) (a : Addr) : St := match oi with
  | some i => σ.set i (some (.ref a))
  | none => σ
/-- what is wished of an exception of the body -/
def wExc (K : PySem.W.Frag) (C : Value) (oi : Option Nat) (ts : TS) (Wout : WX) (N : Ends) : WX := fun cls d σ H =>
  d = none ∧ ∃ c b, cls = .ref (He.ga K c) ∧ PySem.W.exmOne K cls C = some b ∧ (b = true → ∀ a, H a = none → ts (dropE oi N) (putE oi σ a) (upd H a (exO K c a))) ∧ (b = false → Wout cls d σ H)
section
variable {X : Cx} {C : Value} {cn : Str} {tb : WX → TS} {ts : TS} {Wout : WX} {body suite : List Stmt} {b₀ : Stmt} {np pos pos' : Pos}
/-- what a clause's derivation gives for the exception in the air: the test, the suite or the way on -/
theorem catch_ok {oi : Option Nat} {on : Option Str} (hs : X.stack = X.env :: X.outer) (hf : X.env.frame = some X.env.locals) (hex : X.ex = []) (hN : X.N.Nodup) (hon : match oi, on with
      | some i, some n => X.N[i]? = some n ∧ X.env.kindOf n = some .local
      | none, none => True
      | _, _ => False) (hc : Names X cn C) (tk : Takes X Wout)
    (hsu : ∀ (a : Addr) (pn : List (Addr × Obj)), PSs (suiteX X a pn) (b₀ :: suite) ts) {pns : List (Addr × Obj)} {N : Ends} (ok : X.Ok) {u : Value} {s' : Shared} {xe : Value → Shared → Prop} (xx : XE (X.tr (X.pn ++ pns) xe) (wExc X.K C oi ts Wout N) u s') :
    wpAny (model X.prog X.w) X.A (noteFrame u X.env) (fun _ s₂ => wpAny (model X.prog X.w) X.A (setFlight u none) (fun _ s₃ =>
      wpAny (model X.prog X.w) X.A (handleBy u X.env [.ExceptHandler (some (.Name cn np)) on (b₀ :: suite) pos']) (SP X pns N) X.xe s₃) X.xe s₂) X.xe s' := by
  obtain ⟨a, B, sI, pz, τ, G, cls, d, rfl, J0, nb, up, sky, na, os, ag, dn, c, b, rfl, hb1, hyes, hno⟩ := xx
  have J : Inv X pns τ G sI := Inv.ofTry J0 ok
  have frE : X.A.frames = some (X.env :: X.outer) := by rw [ok.frames, hs]
  have sk : Sky B (X.env :: X.outer) a (Zc (.ref (He.ga X.K c)) d) X.env.locals s'.heap := by rw [← hs]; exact sky
  refine Sky.land Zc.steady frE hf sk fun h3 fl3 up3 => ?_
  have J3 : Inv X pns τ G { s' with heap := h3 } := J.landed nb fl3.1 (up.trans up3) os ag
  obtain ⟨o3, v3, e3, z3, d3⟩ := fl3.there
  have far : a ∉ frs (X.env :: X.outer) := fun hm => by
    obtain ⟨_, o4, e4, no⟩ := fl3.2.2.1.mem hm
    rw [e3] at e4; cases e4
    exact no _ d3
  have nL : a ≠ X.env.locals := fun z => far (List.mem_filterMap.mpr ⟨X.env, by simp, by rw [hf, z]⟩)
  have nF : a ∉ X.fs := fun hm => by
    obtain ⟨v, hv, q⟩ := List.mem_filterMap.mp hm
    exact far (List.mem_filterMap.mpr ⟨v, by simp [hv], q⟩)
  have nI : sI.heap.get? a = none := by
    cases q : sI.heap.get? a with
    | none => rfl
    | some o =>
      have r1 := nb a o q (by rw [hs]; exact far)
      rw [fl3.2.1] at r1; cases r1
  have n0 : X.s_0.heap.get? a = none := by
    cases q : X.s_0.heap.get? a with
    | none => rfl
    | some o =>
      obtain ⟨o', r1⟩ := J.base.there a o q (by rw [hex]; simp)
      rw [nI] at r1; cases r1
  have np' : ∀ p ∈ X.pn ++ pns, p.1 ≠ a := fun p hp z => by
    have := (J.pin p hp).1
    rw [z, nI] at this; cases this
  have S3 := Inv.suite J3 e3 d3 na nL nF
  refine wpAny_handleBy_cons (codeAny_handlers_test ?_) (by intro q; cases q)
  have LT : PySem.W.Looks (model X.prog X.w) h3 (typeOf (.ref a)) (.ref (He.ga X.K c)) := fun _ _ _ _ k q => wpAny_typeOf_ref (k _ _ e3) (by rw [z3.1]; exact q)
  have LM := PySem.W.exm_one (M := model X.prog X.w) J3.kIn LT hb1
  have named : ∀ {Q : Value → Shared → Prop} {E : Value → Shared → Prop}, Q C { s' with heap := h3 } → wpAny (model X.prog X.w) (X.A.mark (some (.ref a))) (eval (.Name cn np) X.env) Q E { s' with heap := h3 } := fun {Q E} q => by
    obtain ⟨g1, g2, g3 | ⟨g3, g4, g5⟩⟩ := hc
    · exact ld_glob (X := X.suite a ((a, o3) :: (X.pn ++ pns))) S3 g1 g3 q g2
    · exact ld_blt (X := X.suite a ((a, o3) :: (X.pn ++ pns))) S3 g1 g3 g4 q g5 g2
  refine named (LM.here ?_)
  cases b with
  | true =>
    have land : ∀ {h4 : Heap}, HandSPX.FlyingZ B (X.env :: X.outer) a (Zc (.ref (He.ga X.K c)) d) h4 → sI.heap.UpToSlots h4 → Inv (suiteX X a (X.pn ++ pns)) [] τ (upd G a (exO X.K c a)) { s' with heap := h4 } := fun {h4} fl4 up4 => by
      have J4 : Inv X pns τ G { s' with heap := h4 } := J.landed nb fl4.1 up4 os ag
      obtain ⟨o4, v4, e4, z4, d4⟩ := fl4.there
      exact Inv.caught J4 e4 z4.1 (by rw [z4.2, dn]) d4 na nL n0 np'
    have wish := hyes rfl a na
    match oi, on, hon with
    | some i, some n, hon =>
      refine codeAny_handlers_suite_as ?_
      refine HandSPX.lands_againZ fl3 fun h4 fl4 up4 => ?_
      refine store_ok (X := suiteX X a (X.pn ++ pns)) (v := .ref a) (land fl4 ((up.trans up3).trans up4)) hN hon.1 (.inl hon.2) rfl (fun s5 S5 => ?_) (.inr hon.2)
      refine wpAny_mono ((hsu a (X.pn ++ pns)).run [] s5 _ _ _ S5 wish) (fun f s6 sp => ?_) (fun _ _ z => z.elim)
      have gone : ∀ {τ6 : St} {G6 : Hp} {Q : Shared → Prop}, Inv (suiteX X a (X.pn ++ pns)) [] τ6 G6 s6 → (∀ s7, Inv X pns (τ6.set i none) G6 s7 → Q s7) →
          wpAny (model X.prog X.w) X.A (do bindName X.env n .none; unbindBehindTheSuite X.env n pos') (fun _ s7 => Q s7) X.xe s6 := fun {τ6 G6 Q} S6 hq => gone_ok (Inv.leftX S6 ok) hN hon.1 hon.2 hq
      cases f with
      | next => obtain ⟨τ6, G6, S6, q6⟩ := sp; exact gone S6 fun s7 J7 => ⟨_, _, J7, q6⟩
      | brk => obtain ⟨τ6, G6, S6, q6⟩ := sp; exact gone S6 fun s7 J7 => ⟨_, _, J7, q6⟩
      | cont => obtain ⟨τ6, G6, S6, q6⟩ := sp; exact gone S6 fun s7 J7 => ⟨_, _, J7, q6⟩
      | ret u => obtain ⟨v6, τ6, G6, S6, r6, q6⟩ := sp; exact gone S6 fun s7 J7 => ⟨_, _, _, J7, r6, q6⟩
    | none, none, _ =>
      refine codeAny_handlers_suite ?_
      refine HandSPX.lands_againZ fl3 fun h4 fl4 up4 => ?_
      refine wpAny_mono ((hsu a (X.pn ++ pns)).run [] _ _ _ _ (land fl4 ((up.trans up3).trans up4)) wish) (fun f s6 sp => ?_) (fun _ _ z => z.elim)
      cases f with
      | next => obtain ⟨τ6, G6, S6, q6⟩ := sp; exact ⟨_, _, Inv.leftX S6 ok, q6⟩
      | brk => obtain ⟨τ6, G6, S6, q6⟩ := sp; exact ⟨_, _, Inv.leftX S6 ok, q6⟩
      | cont => obtain ⟨τ6, G6, S6, q6⟩ := sp; exact ⟨_, _, Inv.leftX S6 ok, q6⟩
      | ret u => obtain ⟨v6, τ6, G6, S6, r6, q6⟩ := sp; exact ⟨_, _, _, Inv.leftX S6 ok, r6, q6⟩
  | false =>
    show wpAny _ X.A (handleBy (.ref a) X.env []) _ _ _
    refine wpAny_handleBy_nil ?_
    obtain ⟨_, _, _, oe, vs, T, _, _, he, _, hd, h1, _⟩ := id fl3
    unfold PySem.passOn
    refine wpAny_bind (wpAny_field he hd h1 ?_)
    rw [if_neg (show ¬ ((Value.ref T == Value.none) = true) from by simp)]
    have on_ : wpAny (model X.prog X.w) X.A (setFlight (.ref a) X.env.frame) (fun _ s4 => wpAny (model X.prog X.w) X.A (throw (.ref a) : Sem Flow) (SP X pns N) X.xe s4) X.xe { s' with heap := h3 } := by
      rw [hf]
      exact HandSPX.setFlight_upZ fl3 fun h4 hh4 up4 => wpAny_throw (tk _ _ ⟨a, B, sI, pns, τ, G, _, d, rfl, J, nb, (up.trans up3).trans up4, .inr (.inr (by rw [hs]; exact hh4)), na, os, ag, hno rfl⟩)
    first
      | exact wpAny_bind (wpAny_pure (wpAny_bind on_))
      | exact wpAny_bind on_
/-- try: body / except C [as n]: suite -/
theorem ps_tryX {oi : Option Nat} {on : Option Str} (hs : X.stack = X.env :: X.outer) (hf : X.env.frame = some X.env.locals) (hex : X.ex = []) (hN : X.N.Nodup) (hon : match oi, on with
      | some i, some n => X.N[i]? = some n ∧ X.env.kindOf n = some .local
      | none, none => True
      | _, _ => False) (hc : Names X cn C) (tk : Takes X Wout)
    (hb : ∀ (W : WX) (pn : List (Addr × Obj)) (xe : Value → Shared → Prop), Takes (X.tr pn xe) W → PassesOwn (model X.prog X.w) X.A X.env xe → PSs (X.tr pn xe) body (tb W))
    (hsu : ∀ (a : Addr) (pn : List (Addr × Obj)), PSs (suiteX X a pn) (b₀ :: suite) ts) :
    PS X (.Try body [.ExceptHandler (some (.Name cn np)) on (b₀ :: suite) pos'] [] [] pos) (fun D σ H => tb (wExc X.K C oi ts Wout D) D σ H) := by
  constructor
  intro pns s σ H D I wish
  have ok := I.ok
  refine wpAny_Try_except ?_
  have bodyOk := hb (wExc X.K C oi ts Wout D) (X.pn ++ pns) (fun e s₁ => wpAny (model X.prog X.w) X.A (noteFrame e X.env) (fun _ s₂ => wpAny (model X.prog X.w) X.A (setFlight e none) (fun _ s₃ =>
    wpAny (model X.prog X.w) X.A (handleBy e X.env [.ExceptHandler (some (.Name cn np)) on (b₀ :: suite) pos']) (SP X pns D) X.xe s₃) X.xe s₂) X.xe s₁) (fun u s' xx => catch_ok hs hf hex hN hon hc tk hsu ok xx) PassesOwn.looking
  refine wpAny_mono (bodyOk.run [] s σ H D (Inv.toTry I _) wish) (fun f s1 r => ?_) (fun e s1 r => r)
  cases f with
  | next => obtain ⟨τ, G, J, q⟩ := r; exact wpAny_execs_nil ⟨τ, G, Inv.ofTry J ok, q⟩
  | brk => obtain ⟨τ, G, J, q⟩ := r; exact ⟨τ, G, Inv.ofTry J ok, q⟩
  | cont => obtain ⟨τ, G, J, q⟩ := r; exact ⟨τ, G, Inv.ofTry J ok, q⟩
  | ret u => obtain ⟨v, τ, G, J, r, q⟩ := r; exact ⟨v, τ, G, Inv.ofTry J ok, r, q⟩
end
def dropS (oi : Option Nat) (ds : Sl) : Sl := match oi with
  | some i => ds.set i none
  | none => ds
/-- the clause's suite: its name goes, no exception leaves it -/
def suiteM (oi : Option Nat) (Hd : SM) : SM := fun ds h => match Hd ds h with
  | .nx ds h => .nx (dropS oi ds) h
  | .rt d h => .rt d h
  | .bk ds h => .bk (dropS oi ds) h
  | .ct ds h => .ct (dropS oi ds) h
  | _ => .bad
def nameM (oi : Option Nat) (c : Str) (ds : Sl) : Sl := match oi with
  | some i => ds.set i (some (.exn c))
  | none => ds
def tryM (oi : Option Nat) (tb : List (Str × Bool)) (B Hd : SM) : SM := fun ds h => match B ds h with
  | .exc c ds h => (match tabF tb c with
    | some true => suiteM oi Hd (nameM oi c ds) h
    | some false => .exc c ds h
    | none => .bad)
  | r => r
/-- the clause's class takes these -/
def ExmOk (K : PySem.W.Frag) (C : Value) (tb : List (Str × Bool)) : Prop := ∀ c b, (c, b) ∈ tb → PySem.W.exmOne K (.ref (He.ga K c)) C = some b
theorem sm_try {X : Cx} {g : Cfg} {C : Value} {cn : Str} {body suite : List Stmt} {b₀ : Stmt} {np pos pos' : Pos} {oi : Option Nat} {on : Option Str} {tbl : List (Str × Bool)} {B Hd : SM} (hs : X.stack = X.env :: X.outer) (hf : X.env.frame = some X.env.locals) (hex : X.ex = []) (hN : X.N.Nodup)
    (hon : match oi, on with
      | some i, some n => X.N[i]? = some n ∧ X.env.kindOf n = some .local
      | none, none => True
      | _, _ => False) (hc : Names X cn C) (tk : Takes X g.W) (hK : X.K = g.K) (T : ExmOk X.K C tbl)
    (hb : ∀ (W : WX) (pn : List (Addr × Obj)) (xe : Value → Shared → Prop), Takes (X.tr pn xe) W → PassesOwn (model X.prog X.w) X.A X.env xe → PSs (X.tr pn xe) body (tS ⟨g.K, W⟩ B))
    (hsu : ∀ (a : Addr) (pn : List (Addr × Obj)), PSs (suiteX X a pn) (b₀ :: suite) (tS ⟨g.K, fun _ _ _ _ => False⟩ Hd)) :
    PS X (.Try body [.ExceptHandler (some (.Name cn np)) on (b₀ :: suite) pos'] [] [] pos) (tS g (tryM oi tbl B Hd)) := by
  refine PS.weak (ps_tryX (tb := fun W => tS ⟨g.K, W⟩ B) (oi := oi) hs hf hex hN hon hc tk hb hsu) fun N σ H ⟨m, ds, h, hs', rh, o⟩ => ⟨m, ds, h, hs', rh, ?_⟩
  unfold tryM at o
  cases q : B ds h with
  | nx ds1 h1 => rw [q] at o; exact o
  | rt d h1 => rw [q] at o; exact o
  | bk ds1 h1 => rw [q] at o; exact o
  | ct ds1 h1 => rw [q] at o; exact o
  | bad => rw [q] at o; exact o
  | exc c ds1 h1 =>
    rw [q] at o
    simp only at o
    intro σ' m' H' gg ss rr
    cases q2 : tabF tbl c with
    | none => rw [q2] at o; exact o.elim
    | some b =>
      rw [q2] at o
      refine ⟨rfl, c, b, by rw [hK], by rw [← hK]; exact T c b (tabF_mem q2), fun eb a na => ?_, fun eb => ?_⟩
      · subst eb
        simp only at o
        have w1 : Grow m' H' m' (upd H' a (exO X.K c a)) := .put na
        refine ⟨m', nameM oi c ds1, h1, ?_, rr.put na, ?_⟩
        · cases oi with
          | none => exact ss.mono w1
          | some i => exact (ss.mono w1).put i (by unfold RepV; exact ⟨a, rfl, by rw [upd_same, hK]⟩)
        · have o' := OutS.mono o (gg.trans w1)
          unfold suiteM at o'
          cases q3 : Hd (nameM oi c ds1) h1 with
          | nx ds2 h2 =>
            rw [q3] at o'
            intro σ2 m2 H2 g2 s2 r2
            cases oi with
            | none => exact o' σ2 m2 H2 g2 s2 r2
            | some i => exact o' _ m2 H2 g2 (s2.forget i none) r2
          | bk ds2 h2 =>
            rw [q3] at o'
            intro σ2 m2 H2 g2 s2 r2
            cases oi with
            | none => exact o' σ2 m2 H2 g2 s2 r2
            | some i => exact o' _ m2 H2 g2 (s2.forget i none) r2
          | ct ds2 h2 =>
            rw [q3] at o'
            intro σ2 m2 H2 g2 s2 r2
            cases oi with
            | none => exact o' σ2 m2 H2 g2 s2 r2
            | some i => exact o' _ m2 H2 g2 (s2.forget i none) r2
          | rt d h2 =>
            rw [q3] at o'
            intro v m2 H2 g2 s2 r2
            cases oi with
            | none => exact o' v m2 H2 g2 s2 r2
            | some i => exact o' v m2 H2 g2 s2 r2
          | exc _ _ _ => rw [q3] at o'; exact o'.elim
          | bad => rw [q3] at o'; exact o'.elim
      · subst eb
        exact o σ' m' H' gg ss rr
end DV
namespace DV
open PySem PySem.Spec PyProof.Rows L2
def putFD (f : Str) (v : D) : List (Str × D) → List (Str × D)
  | [] => [(f, v)]
  | (g, x) :: r => if g = f then (g, v) :: r else (g, x) :: putFD f v r
def fldF (C f : Str) (d : D) (h : Hs) : Res := match d with
  | .loc l => match h[l]? with
    | some (.ins C' fs) => if C' = C then (fs.lookup f).map fun v => (v, h) else none
    | _ => none
  | _ => none
def fldM (C f : Str) (O : EM) : EM := unM (fldF C f) O
def setFldF (C f : Str) (d v : D) (h : Hs) : Option Hs := match d with
  | .loc l => match h[l]? with
    | some (.ins C' fs) => if C' = C ∧ fs.length < 1000 then some (h.set l (.ins C (putFD f v fs))) else none
    | _ => none
  | _ => none
def setFldM (C f : Str) (V O : EM) : SM := fun ds h => lift (V ds h) ds fun v h => lift (O ds h) ds fun o h => match setFldF C f o v h with
  | some h => .nx ds h
  | none => .bad
def methM (C m : Str) (φ : Fm) (O : EM) (As : AM) : EM := fun ds h => (O ds h).bind fun d h => match d with
  | .loc l => (match h[l]? with
    | some (.ins C' fs) => if C' = C ∧ fs.lookup m = none then (As ds h).bind fun xs h => φ (d :: xs) h else .bad
    | _ => .bad)
  | _ => .bad
def newM (C : Str) (φ : Fm) (As : AM) : EM := fun ds h => (As ds h).bind fun xs h => match φ (.loc h.length :: xs) (h ++ [.ins C []]) with
  | .ok .non h' => .ok (.loc h.length) h'
  | _ => .bad
end DV
namespace DV
open PySem PySem.Spec PyProof.Rows L2
section
variable {N : Sl → Hs → Prop} {Q : D → Hs → Prop} {X : QX} {ds : Sl} {h : Hs}
@[simp] theorem wp_fld (C f : Str) (O : EM) : (fldM C f O ds h).wp Q X = (O ds h).wp (fun d h => match fldF C f d h with | some p => Q p.1 p.2 | none => False) X := by
  unfold fldM
  rw [wp_un]
  congr 1; funext d h
  cases fldF C f d h <;> rfl
@[simp] theorem ws_setFld (C f : Str) (V O : EM) : (setFldM C f V O ds h).wp N Q X = (V ds h).wp (fun v h => (O ds h).wp (fun o h => match setFldF C f o v h with | some h => N ds h | none => False) X) X := by
  simp only [setFldM, ws_lift]
  congr 1; funext v h
  congr 1; funext o h
  cases setFldF C f o v h <;> rfl
@[simp] theorem wp_meth (C m : Str) (φ : Fm) (O : EM) (As : AM) : (methM C m φ O As ds h).wp Q X = (O ds h).wp (fun d h => match d with
    | .loc l => (match h[l]? with
      | some (.ins C' fs) => (C' = C ∧ fs.lookup m = none) ∧ (As ds h).wp (fun xs h => (φ (d :: xs) h).wp Q X) X
      | _ => False)
    | _ => False) X := by
  simp only [methM, wp_bind]
  congr 1; funext d h
  cases d with
  | loc l =>
    simp only
    cases h[l]? with
    | none => rfl
    | some o =>
      cases o with
      | ins C' fs =>
        simp only
        by_cases c : C' = C ∧ fs.lookup m = none
        · rw [if_pos c]; simp [c]
        · rw [if_neg c]; simp only [c, false_and]; rfl
      | _ => rfl
  | _ => rfl
@[simp] theorem wp_new_ (C : Str) (φ : Fm) (As : AM) : (newM C φ As ds h).wp Q X = (As ds h).wp (fun xs h => match φ (.loc h.length :: xs) (h ++ [.ins C []]) with
    | .ok .non h' => Q (.loc h.length) h'
    | _ => False) X := by
  simp only [newM, wp_bind]
  congr 1; funext xs h
  cases φ (.loc h.length :: xs) (h ++ [.ins C []]) with
  | ok d h' => cases d <;> rfl
  | exc _ _ => rfl
  | bad => rfl
theorem ws_try (oi : Option Nat) (tb : List (Str × Bool)) (B Hd : SM) : (tryM oi tb B Hd ds h).wp N Q X = (match B ds h with
    | .exc c ds h => (match tabF tb c with
      | some true => (suiteM oi Hd (nameM oi c ds) h).wp N Q X
      | some false => X c h
      | none => False)
    | r => r.wp N Q X) := by
  unfold tryM
  cases B ds h with
  | exc c ds h => simp only; cases tabF tb c with
    | none => rfl
    | some b => cases b <;> rfl
  | _ => rfl
theorem ws_suite (oi : Option Nat) (Hd : SM) (w : (Hd ds h).wp (fun ds h => N (dropS oi ds) h) Q xF) : (suiteM oi Hd ds h).wp N Q X := by
  unfold suiteM
  cases q : Hd ds h with
  | nx a b => rw [q] at w; exact w
  | rt a b => rw [q] at w; exact w
  | exc _ _ _ => rw [q] at w; exact w.elim
  | bk _ _ => rw [q] at w; exact w.elim
  | ct _ _ => rw [q] at w; exact w.elim
  | bad => rw [q] at w; exact w.elim
/-- a dict locked around a statement -/
theorem ws_lock {i l : Nat} {kvs : List (Key × D)} {S : SM} (e1 : ds[i]? = some (some (.loc l))) (e2 : h[l]? = some (.dct kvs))
    (w : (S ds (h.set l (.fdc kvs))).wp (fun ds h' => h'[l]? = some (.fdc kvs) ∧ N ds (h'.set l (.dct kvs))) (fun d h' => h'[l]? = some (.fdc kvs) ∧ Q d (h'.set l (.dct kvs))) X) : (lockS i S ds h).wp N Q X := by
  unfold lockS
  simp only [e1, e2]
  cases q : S ds (h.set l (.fdc kvs)) with
  | nx a b => rw [q] at w; rw [thawS_nx, if_pos (cB_of w.1)]; exact w.2
  | rt a b => rw [q] at w; rw [thawS_rt, if_pos (cB_of w.1)]; exact w.2
  | exc _ _ _ => rw [q] at w; exact w
  | bk _ _ => rw [q] at w; exact w.elim
  | ct _ _ => rw [q] at w; exact w.elim
  | bad => rw [q] at w; exact w.elim
theorem wp_lock {i l : Nat} {kvs : List (Key × D)} {A : EM} (e1 : ds[i]? = some (some (.loc l))) (e2 : h[l]? = some (.dct kvs))
    (w : (A ds (h.set l (.fdc kvs))).wp (fun d h' => h'[l]? = some (.fdc kvs) ∧ Q d (h'.set l (.dct kvs))) X) : (lockE i A ds h).wp Q X := by
  unfold lockE
  simp only [e1, e2]
  cases q : A ds (h.set l (.fdc kvs)) with
  | ok a b => rw [q] at w; rw [thawE_ok, if_pos (cB_of w.1)]; exact w.2
  | exc _ _ => rw [q] at w; exact w
  | bad => rw [q] at w; exact w.elim
theorem wp_fdI {i l : Nat} {kvs : List (Key × D)} {P : List D × (Hs → Prop) → Hs → Prop} (e1 : ds[i]? = some (some (.loc l))) (e2 : h[l]? = some (.fdc kvs)) : (fdI i ds h).wp P X = P (kvs.map fun p => dK p.1, fun _ => True) h := by
  unfold fdI
  simp only [e1, e2]
  rfl
end
end DV
namespace DV
open PySem PySem.Spec PyProof.Rows L2
section
variable {h : Hs} {i j : Int} {a b : Str} {xs ys : List D} {l : Nat} {v x : D}
@[simp] theorem mulX_int : mulXF (.int i) (.int j) h = if cMul i j = true then some (.int (i * j), h) else none := rfl
@[simp] theorem mulX_str : mulXF (.str a) (.int j) h = if cB (-1000000 ≤ j ∧ j ≤ 1000000 ∧ a.length ≤ 1000000 ∧ a.length * j.toNat ≤ LIM) = true then some (.str (repS a j.toNat), h) else none := rfl
@[simp] theorem mulX_tup : mulXF (.tup xs) (.int i) h = if -1000 ≤ i ∧ i ≤ 1000 ∧ xs.length ≤ 1000 then some (.tup (List.replicate i.toNat xs).flatten, h) else none := rfl
theorem set_lst {k : Nat} (e : h[l]? = some (.lst xs)) (hk : k < xs.length) : setAF (.loc l) (.int (k : Int)) v h = some (h.set l (.lst (xs.set k v))) := by
  simp [setAF, e, ixN, hk]
theorem set_dct {kvs : List (Key × D)} {k : D} {kk : Key} (e : h[l]? = some (.dct kvs)) (ek : keyD k = some kk) (hz : kvs.length < 16777216) : setAF (.loc l) k v h = some (h.set l (.dct (putD kvs kk v))) := by
  simp [setAF, e, hz, ek]
theorem get_dct {kvs : List (Key × D)} {k : D} {kk : Key} (e : h[l]? = some (.dct kvs)) (ek : keyD k = some kk) : getDF (.loc l) [k, x] h = some ((valD kvs kk).getD x, h) := by
  simp [getDF, e, ek]
theorem ck_dct {kvs : List (Key × D)} (e : h[l]? = some (.dct kvs)) : ckDct (.loc l) h = true := by simp [ckDct, e]
theorem in_dct {kvs : List (Key × D)} {k : D} {kk : Key} (e : h[l]? = some (.dct kvs)) (ek : keyD k = some kk) : inF k (.loc l) h = some (.bl (valD kvs kk).isSome, h) := by
  cases k <;> simp_all [inF, inB]
theorem nin_dct {kvs : List (Key × D)} {k : D} {kk : Key} (e : h[l]? = some (.dct kvs)) (ek : keyD k = some kk) : ninF k (.loc l) h = some (.bl (!(valD kvs kk).isSome), h) := by
  cases k <;> simp_all [ninF, inB]
theorem ix_dct {kvs : List (Key × D)} {k : D} {kk : Key} (e : h[l]? = some (.dct kvs)) (ek : keyD k = some kk) : ixF (.loc l) k h = (valD kvs kk).map fun d => (d, h) := by
  simp [ixF, e, ek]
theorem ix_fdc {kvs : List (Key × D)} {k : D} {kk : Key} (e : h[l]? = some (.fdc kvs)) (ek : keyD k = some kk) : ixF (.loc l) k h = (valD kvs kk).map fun d => (d, h) := by
  simp [ixF, e, ek]
theorem len_dct {kvs : List (Key × D)} (e : h[l]? = some (.dct kvs)) : lenF [.loc l] h = some (.int kvs.length, h) := by simp [lenF, e]
@[simp] theorem key_int : keyD (.int i) = some (.inl i) := rfl
@[simp] theorem key_str : keyD (.str a) = some (.inr a) := rfl
end
end DV
namespace DV
open PySem PySem.Spec PyProof.Rows L2
def min2I (i j : Int) : Int := if j < i then j else i
def min3F : List D → Hs → Res
  | [.int i, .int j, .int k], h => some (.int (min2I (min2I i j) k), h)
  | _, _ => none
def blsOf : List D → Option (List Bool)
  | [] => some []
  | .bl s :: r => (blsOf r).map fun ss => s :: ss
  | _ => none
@[simp] theorem blsOf_map (ns : List Bool) : blsOf (ns.map D.bl) = some ns := by
  induction ns with
  | nil => rfl
  | cons n ns ih => rw [List.map_cons]; unfold blsOf; rw [ih]; rfl
def isTF : VF2
  | .bl a, .bl b, h => some (.bl (a == b), h)
  | _, _, _ => none
def isnTF : VF2
  | .bl a, .bl b, h => some (.bl (a != b), h)
  | _, _, _ => none
noncomputable def hitsD (h : Hs) (kb : List (Key × D)) : List (Key × D) → Option Bool
  | [] => some true
  | (k, v) :: r => match valD kb k with
    | none => some false
    | some y => match pyH h v, pyH h y with
      | some p, some q => if p.canLay0 = true ∧ q.canLay0 = true ∧ p.depth ≤ 189 then (hitsD h kb r).map fun b => PyData.eqv p q && b else none
      | _, _ => none
def dctA (h : Hs) : D → Option (List (Key × D))
  | .loc l => (h[l]?).bind dctO
  | _ => none
noncomputable def eqDB (d e : D) (h : Hs) : Option Bool := match dctA h d, dctA h e with
  | some ka, some kb => (hitsD h kb ka).map fun b => ka.length == kb.length && b
  | _, _ => none
section
variable {X : Cx}
theorem dctA_rd {m : List Addr} {H : Hp} {hs : Hs} {K : PySem.W.Frag} {d : D} {x : V} {kvs : List (Key × D)} (rh : RepH K m H hs) (r : RepV K m H d x) (e : dctA hs d = some kvs) : ∃ a ks, x = .ref a ∧ Rd H a (.dK ks) ∧ kvs.map (·.1) = ks.map (·.1) ∧ RepL K m H (kvs.map (·.2)) (ks.map (·.2)) := by
  unfold dctA at e
  split at e
  · rename_i l
    unfold RepV at r
    obtain ⟨a, ha, rfl⟩ := r
    cases q : hs[l]? with
    | none => rw [q] at e; cases e
    | some o =>
      rw [q] at e
      obtain ⟨ks, hk, kk, rk⟩ := rh.rdD ha q e
      exact ⟨a, ks, rfl, hk, kk, rk⟩
  · cases e
end
@[simp] theorem min3_int {h : Hs} {i j k : Int} : min3F [.int i, .int j, .int k] h = some (.int (min2I (min2I i j) k), h) := rfl
@[simp] theorem isT_bl {h : Hs} {a b : Bool} : isTF (.bl a) (.bl b) h = some (.bl (a == b), h) := rfl
@[simp] theorem isnT_bl {h : Hs} {a b : Bool} : isnTF (.bl a) (.bl b) h = some (.bl (a != b), h) := rfl
end DV
namespace DV
open PySem PySem.Spec PyProof.Rows L2
end DV
namespace DV
open PySem PySem.Spec PyProof.Rows L2
noncomputable def m__law_draw : SM :=
  seqM (setM 3 (binM modF (binM mulXF (binM addF (vM 0) (cM (.int 1))) (binM addF (cM (.int 48271)) (binM mulXF (binM mulXF (cM (.int 7919)) (vM 1)) (vM 1)))) (cM (.int 2147483647)))) (retM (binM modF (binM fdivF (binM modF (binM mulXF (vM 3) (vM 3)) (cM (.int 2147483629))) (cM (.int 7))) (vM 2)))
noncomputable def F__law_draw : Nat → Fm
  | 0 => fun _ _ => .bad
  | n + 1 => kPure.f (runM 3 4 (m__law_draw))
noncomputable def m_parts_of : SM :=
  seqM (ifM (tbM (binM eqF (binM ixF (vM 0) (cM (.int 0))) (cM (.str "blank")))) (retM (argM tupF (nilA))) (passM)) (retM (binM ixF (vM 0) (cM (.int 2))))
noncomputable def F_parts_of : Nat → Fm
  | 0 => fun _ _ => .bad
  | n + 1 => kPure.f (runM 1 1 (m_parts_of))
noncomputable def m_knots_of (f_parts_of f_knots_of : Fm) : SM :=
  retM (binM addF (cM (.int 1)) (argM sumF (consA (lcM [1] (valI (callM f_parts_of (consA (vM 0) nilA))) (nameG 1) (yesM) (callM f_knots_of (consA (vM 1) nilA))) nilA)))
noncomputable def F_knots_of : Nat → Fm
  | 0 => fun _ _ => .bad
  | n + 1 => kPure.f (runM 1 2 (m_knots_of (F_parts_of n) (F_knots_of n)))
theorem S_knots_of (n : Nat) : F_knots_of (n + 1) = kPure.f (runM 1 2 (m_knots_of (F_parts_of n) (F_knots_of n))) := rfl
noncomputable def m_depth_of (f_parts_of f_depth_of : Fm) : SM :=
  retM (binM addF (cM (.int 1)) (maxdF (lcM [1] (valI (callM f_parts_of (consA (vM 0) nilA))) (nameG 1) (yesM) (callM f_depth_of (consA (vM 1) nilA))) (cM (.int 0))))
noncomputable def F_depth_of : Nat → Fm
  | 0 => fun _ _ => .bad
  | n + 1 => kPure.f (runM 1 2 (m_depth_of (F_parts_of n) (F_depth_of n)))
theorem S_depth_of (n : Nat) : F_depth_of (n + 1) = kPure.f (runM 1 2 (m_depth_of (F_parts_of n) (F_depth_of n))) := rfl
noncomputable def m__law_cell_at : SM :=
  seqM (ifM (tbM (binM ltF (vM 1) (argM lenF (consA (vM 0) nilA)))) (retM (binM ixF (vM 0) (vM 1))) (passM)) (retM (cM (.int 0)))
noncomputable def F__law_cell_at : Nat → Fm
  | 0 => fun _ _ => .bad
  | n + 1 => kPure.f (runM 2 2 (m__law_cell_at))
theorem S__law_cell_at (n : Nat) : F__law_cell_at (n + 1) = kPure.f (runM 2 2 (m__law_cell_at)) := rfl
noncomputable def m__law_alike (f__law_alike : Fm) : SM :=
  seqM (ifM (truM (unM (isF "bool") (vM 1))) (retM (andV (unM (isF "bool") (vM 0)) (binM eqF (vM 0) (vM 1)))) (passM)) (seqM (ifM (truM (unM (isF "int") (vM 1))) (retM (andV (unM (isF "int") (vM 0)) (andV (notV (unM (isF "bool") (vM 0))) (binM eqF (vM 0) (vM 1))))) (passM)) (seqM (ifM (truM (unM (isF "str") (vM 1))) (retM (andV (unM (isF "str") (vM 0)) (binM eqF (vM 0) (vM 1)))) (passM)) (seqM (ifM (truM (unM (isF "tuple") (vM 1))) (ifM (notM (truM (unM (isF "tuple") (vM 0)))) (retM (cM (.bl false))) (passM)) (ifM (notM (truM (unM (isF "list") (vM 0)))) (retM (cM (.bl false))) (passM))) (seqM (ifM (tbM (binM neF (argM lenF (consA (vM 0) nilA)) (argM lenF (consA (vM 1) nilA)))) (retM (cM (.bl false))) (passM)) (seqM (forM (rngI rng1 (consA (argM lenF (consA (vM 1) nilA)) nilA)) (nameG 2) (ifM (notM (truM (callM f__law_alike (consA (binM ixF (vM 0) (vM 2)) (consA (binM ixF (vM 1) (vM 2)) nilA))))) (retM (cM (.bl false))) (passM))) (retM (cM (.bl true))))))))
noncomputable def F__law_alike : Nat → Fm
  | 0 => fun _ _ => .bad
  | n + 1 => kPure.f (runM 2 3 (m__law_alike (F__law_alike n)))
theorem S__law_alike (n : Nat) : F__law_alike (n + 1) = kPure.f (runM 2 3 (m__law_alike (F__law_alike n))) := rfl
noncomputable def m__law_names (f__law_draw : Fm) : SM :=
  seqM (setM 1 (cM (.str "abcdefghijklmnopqrstuvwxyz0123456789"))) (seqM (setM 2 (binM addF (cM (.int 1)) (callM f__law_draw (consA (vM 0) (consA (cM (.int 57)) (consA (cM (.int 12)) nilA)))))) (seqM (setM 3 (callM f__law_draw (consA (vM 0) (consA (cM (.int 58)) (consA (vM 2) nilA))))) (seqM (setM 4 (argM lstF (consA (cM (.str "")) (consA (cM (.str "")) (consA (cM (.str "")) (consA (cM (.str "")) nilA)))))) (seqM (forM (rngI rng1 (consA (vM 2) nilA)) (nameG 5) (seqM (setM 6 (binM addF (cM (.int 26)) (binM mulXF (cM (.int 10)) (argM intT (consA (binM gtF (vM 5) (cM (.int 0))) nilA))))) (seqM (setM 7 (callM f__law_draw (consA (vM 0) (consA (binM addF (cM (.int 60)) (vM 5)) (consA (vM 6) nilA))))) (seqM (setM 8 (argM intT (consA (binM eqF (vM 5) (vM 3)) nilA))) (forM (rngI rng1 (consA (cM (.int 4)) nilA)) (nameG 9) (seqM (setM 10 (binM ixF (vM 1) (binM modF (binM addF (vM 7) (binM mulXF (vM 9) (vM 8))) (vM 6)))) (setIxM setAF (binM addF (binM ixF (vM 4) (vM 9)) (vM 10)) (vM 4) (vM 9)))))))) (retM (vM 4))))))
noncomputable def F__law_names : Nat → Fm
  | 0 => fun _ _ => .bad
  | n + 1 => kNew.f (runM 1 11 (m__law_names (F__law_draw n)))
theorem S__law_names (n : Nat) : F__law_names (n + 1) = kNew.f (runM 1 11 (m__law_names (F__law_draw n))) := rfl
noncomputable def m__law_leaf (f__law_draw : Fm) : SM :=
  seqM (ifM (tbM (binM ltF (callM f__law_draw (consA (vM 0) (consA (cM (.int 3)) (consA (cM (.int 4)) nilA)))) (vM 3))) (seqM (setM 4 (argM lstF (consA (cM (.int 1)) (consA (cM (.int 2)) (consA (cM (.int 7)) (consA (binM powF (cM (.int 10)) (cM (.int 9))) (consA (binM addF (cM (.int 1)) (binM modF (vM 1) (binM powF (cM (.int 10)) (cM (.int 9))))) nilA))))))) (retM (argM tupF (consA (cM (.str "blank")) (consA (binM ixF (vM 4) (callM f__law_draw (consA (vM 0) (consA (cM (.int 4)) (consA (cM (.int 5)) nilA))))) nilA))))) (passM)) (retM (argM tupF (consA (cM (.str "block")) (consA (binM ixF (vM 2) (callM f__law_draw (consA (vM 0) (consA (cM (.int 2)) (consA (cM (.int 4)) nilA))))) (consA (argM tupF (nilA)) nilA)))))
noncomputable def F__law_leaf : Nat → Fm
  | 0 => fun _ _ => .bad
  | n + 1 => kPure.f (runM 4 5 (m__law_leaf (F__law_draw n)))
theorem S__law_leaf (n : Nat) : F__law_leaf (n + 1) = kPure.f (runM 4 5 (m__law_leaf (F__law_draw n))) := rfl
noncomputable def m__law_tree (f__law_draw f__law_leaf f__law_names : Fm) : SM :=
  seqM (setM 3 (callM f__law_names (consA (vM 1) nilA))) (seqM (setM 4 (argM lstF (consA (argM tupF (consA (binM ixF (vM 3) (cM (.int 0))) (consA (argM lstF (nilA)) nilA))) nilA))) (seqM (forM (valI (slM (vM 0) (noP) (someP (cM (.int 62))))) (nameG 5) (seqM (setM 6 (callM f__law_draw (consA (vM 5) (consA (cM (.int 1)) (consA (cM (.int 8)) nilA))))) (ifM (orM (tbM (binM eqF (argM lenF (consA (binM ixF (binM ixF (vM 4) (unM negF (cM (.int 1)))) (cM (.int 1))) nilA)) (cM (.int 9)))) (andM (tbM (binM eqF (vM 6) (cM (.int 0)))) (tbM (binM gtF (argM lenF (consA (vM 4) nilA)) (cM (.int 1)))))) (seqM (asgM (mtMc ckList popF (vM 4) nilA) (okG (tupG 2 (consG (nameG 7) (consG (nameG 8) (nilG)))))) (seqM (setM 9 (argM tupF (consA (cM (.str "block")) (consA (vM 7) (consA (argM tupT (consA (vM 8) nilA)) nilA))))) (ifM (tbM (binM eqF (vM 4) (argM lstF (nilA)))) (exprM (mtMc ckList appendF (vM 4) (consA (argM tupF (consA (binM ixF (vM 3) (callM f__law_draw (consA (vM 5) (consA (cM (.int 2)) (consA (cM (.int 4)) nilA))))) (consA (argM lstF (consA (vM 9) nilA)) nilA))) nilA))) (exprM (mtMc ckList appendF (binM ixF (binM ixF (vM 4) (unM negF (cM (.int 1)))) (cM (.int 1))) (consA (vM 9) nilA)))))) (ifM (andM (tbM (binM ltF (vM 6) (cM (.int 4)))) (tbM (binM ltF (argM lenF (consA (vM 4) nilA)) (cM (.int 10))))) (exprM (mtMc ckList appendF (vM 4) (consA (argM tupF (consA (binM ixF (vM 3) (callM f__law_draw (consA (vM 5) (consA (cM (.int 2)) (consA (cM (.int 4)) nilA))))) (consA (argM lstF (nilA)) nilA))) nilA))) (forM (rngI rng1 (consA (argM min2F (consA (binM addF (cM (.int 1)) (callM f__law_draw (consA (vM 5) (consA (cM (.int 5)) (consA (cM (.int 3)) nilA))))) (consA (binM subF (cM (.int 9)) (argM lenF (consA (binM ixF (binM ixF (vM 4) (unM negF (cM (.int 1)))) (cM (.int 1))) nilA))) nilA))) nilA)) (nameG 10) (exprM (mtMc ckList appendF (binM ixF (binM ixF (vM 4) (unM negF (cM (.int 1)))) (cM (.int 1))) (consA (callM f__law_leaf (consA (binM addF (vM 5) (vM 10)) (consA (vM 1) (consA (vM 3) (consA (vM 2) nilA))))) nilA)))))))) (seqM (whileM (tbM (binM gtF (argM lenF (consA (vM 4) nilA)) (cM (.int 1)))) (seqM (asgM (mtMc ckList popF (vM 4) nilA) (okG (tupG 2 (consG (nameG 7) (consG (nameG 8) (nilG)))))) (exprM (mtMc ckList appendF (binM ixF (binM ixF (vM 4) (unM negF (cM (.int 1)))) (cM (.int 1))) (consA (argM tupF (consA (cM (.str "block")) (consA (vM 7) (consA (argM tupT (consA (vM 8) nilA)) nilA)))) nilA)))) FUEL) (retM (argM tupF (consA (cM (.str "block")) (consA (binM ixF (binM ixF (vM 4) (cM (.int 0))) (cM (.int 0))) (consA (argM tupT (consA (binM ixF (binM ixF (vM 4) (cM (.int 0))) (cM (.int 1))) nilA)) nilA))))))))
noncomputable def F__law_tree : Nat → Fm
  | 0 => fun _ _ => .bad
  | n + 1 => kPure.f (runM 3 11 (m__law_tree (F__law_draw n) (F__law_leaf n) (F__law_names n)))
theorem S__law_tree (n : Nat) : F__law_tree (n + 1) = kPure.f (runM 3 11 (m__law_tree (F__law_draw n) (F__law_leaf n) (F__law_names n))) := rfl
noncomputable def m__law_places : SM :=
  seqM (setM 1 (argM lstF (nilA))) (seqM (setM 2 (argM lstF (consA (argM tupF (consA (argM tupF (nilA)) (consA (vM 0) nilA))) nilA))) (seqM (whileM (tbM (binM neF (vM 2) (argM lstF (nilA)))) (seqM (asgM (mtMc ckList popF (vM 2) nilA) (okG (tupG 2 (consG (nameG 3) (consG (nameG 4) (nilG)))))) (seqM (exprM (mtMc ckList appendF (vM 1) (consA (argM tupF (consA (vM 3) (consA (vM 4) nilA))) nilA))) (ifM (tbM (binM eqF (binM ixF (vM 4) (cM (.int 0))) (cM (.str "block")))) (forM (rngI rng3 (consA (binM subF (argM lenF (consA (binM ixF (vM 4) (cM (.int 2))) nilA)) (cM (.int 1))) (consA (unM negF (cM (.int 1))) (consA (unM negF (cM (.int 1))) nilA)))) (nameG 5) (exprM (mtMc ckList appendF (vM 2) (consA (argM tupF (consA (binM addF (vM 3) (argM tupF (consA (vM 5) nilA))) (consA (binM ixF (binM ixF (vM 4) (cM (.int 2))) (vM 5)) nilA))) nilA)))) (passM)))) FUEL) (retM (vM 1))))
noncomputable def F__law_places : Nat → Fm
  | 0 => fun _ _ => .bad
  | n + 1 => kNew.f (runM 1 6 (m__law_places))
theorem S__law_places (n : Nat) : F__law_places (n + 1) = kNew.f (runM 1 6 (m__law_places)) := rfl
noncomputable def m_blanks_of (f_blanks_of : Fm) : SM :=
  seqM (ifM (tbM (binM eqF (binM ixF (vM 0) (cM (.int 0))) (cM (.str "blank")))) (retM (argM lstF (consA (binM ixF (vM 0) (cM (.int 1))) nilA))) (passM)) (seqM (setM 1 (argM lstF (nilA))) (seqM (forM (valI (binM ixF (vM 0) (cM (.int 2)))) (nameG 2) (forM (valI (callM f_blanks_of (consA (vM 2) nilA))) (nameG 3) (ifM (tbM (binM ninF (vM 3) (vM 1))) (exprM (mtMc ckList appendF (vM 1) (consA (vM 3) nilA))) (passM)))) (retM (vM 1))))
noncomputable def F_blanks_of : Nat → Fm
  | 0 => fun _ _ => .bad
  | n + 1 => kNew.f (runM 1 4 (m_blanks_of (F_blanks_of n)))
theorem S_blanks_of (n : Nat) : F_blanks_of (n + 1) = kNew.f (runM 1 4 (m_blanks_of (F_blanks_of n))) := rfl
noncomputable def m_size_filled (f_size_filled : Fm) : SM :=
  seqM (ifM (tbM (binM eqF (binM ixF (vM 0) (cM (.int 0))) (cM (.str "blank")))) (retM (mtMc ckDct getDF (vM 1) (consA (binM ixF (vM 0) (cM (.int 1))) (consA (argM tupF (consA (cM (.int 1)) (consA (cM (.int 1)) nilA))) nilA)))) (passM)) (seqM (setM 2 (cM (.int 1))) (seqM (setM 3 (cM (.int 0))) (seqM (forM (valI (binM ixF (vM 0) (cM (.int 2)))) (nameG 4) (seqM (setM 5 (callM f_size_filled (consA (vM 4) (consA (vM 1) nilA)))) (seqM (setM 2 (binM addF (vM 2) (binM ixF (vM 5) (cM (.int 0))))) (setM 3 (argM max2F (consA (vM 3) (consA (binM ixF (vM 5) (cM (.int 1))) nilA))))))) (retM (argM tupF (consA (vM 2) (consA (binM addF (vM 3) (cM (.int 1))) nilA)))))))
noncomputable def F_size_filled : Nat → Fm
  | 0 => fun _ _ => .bad
  | n + 1 => kPure.f (runM 2 6 (m_size_filled (F_size_filled n)))
theorem S_size_filled (n : Nat) : F_size_filled (n + 1) = kPure.f (runM 2 6 (m_size_filled (F_size_filled n))) := rfl
noncomputable def m_exchanged (f_exchanged : Fm) : SM :=
  seqM (ifM (tbM (binM eqF (binM ixF (vM 0) (cM (.int 0))) (cM (.str "blank")))) (retM (mtMc ckDct getDF (vM 1) (consA (binM ixF (vM 0) (cM (.int 1))) (consA (vM 0) nilA)))) (passM)) (retM (argM tupF (consA (cM (.str "block")) (consA (binM ixF (vM 0) (cM (.int 1))) (consA (argM tupT (consA (lcM [2] (valI (binM ixF (vM 0) (cM (.int 2)))) (nameG 2) (yesM) (callM f_exchanged (consA (vM 2) (consA (vM 1) nilA)))) nilA)) nilA)))))
noncomputable def F_exchanged : Nat → Fm
  | 0 => fun _ _ => .bad
  | n + 1 => kPure.f (runM 2 3 (m_exchanged (F_exchanged n)))
theorem S_exchanged (n : Nat) : F_exchanged (n + 1) = kPure.f (runM 2 3 (m_exchanged (F_exchanged n))) := rfl
noncomputable def m_filled (f_exchanged f_size_filled f_blanks_of f_depth_of f_knots_of : Fm) : SM :=
  seqM (setM 2 (newDM)) (seqM (forM (valI (callM f_blanks_of (consA (vM 0) nilA))) (nameG 3) (ifM (tbM (binM inF (vM 3) (vM 1))) (setIxM setAF (argM tupF (consA (callM f_knots_of (consA (binM ixF (vM 1) (vM 3)) nilA)) (consA (callM f_depth_of (consA (binM ixF (vM 1) (vM 3)) nilA)) nilA))) (vM 2) (vM 3)) (passM))) (seqM (asgM (callM f_size_filled (consA (vM 0) (consA (vM 2) nilA))) (okG (tupG 2 (consG (nameG 4) (consG (nameG 5) (nilG)))))) (seqM (ifM (orM (tbM (binM gtF (vM 4) (cM (.int 400)))) (tbM (binM gtF (vM 5) (cM (.int 60))))) (raiseM "TooLong") (passM)) (retM (callM f_exchanged (consA (vM 0) (consA (vM 1) nilA)))))))
noncomputable def F_filled : Nat → Fm
  | 0 => fun _ _ => .bad
  | n + 1 => kPure.f (runM 2 6 (m_filled (F_exchanged n) (F_size_filled n) (F_blanks_of n) (F_depth_of n) (F_knots_of n)))
theorem S_filled (n : Nat) : F_filled (n + 1) = kPure.f (runM 2 6 (m_filled (F_exchanged n) (F_size_filled n) (F_blanks_of n) (F_depth_of n) (F_knots_of n))) := rfl
noncomputable def m__law_small (f__law_tree f__law_draw : Fm) : SM :=
  seqM (setM 3 (callM f__law_draw (consA (vM 1) (consA (binM addF (vM 2) (cM (.int 7))) (consA (cM (.int 4)) nilA))))) (seqM (ifM (tbM (binM eqF (vM 3) (cM (.int 0)))) (retM (argM tupF (consA (cM (.str "blank")) (consA (binM ixF (argM lstF (consA (cM (.int 1)) (consA (cM (.int 2)) (consA (cM (.int 7)) (consA (binM powF (cM (.int 10)) (cM (.int 9))) (consA (cM (.int 5)) (consA (binM addF (cM (.int 1)) (binM modF (vM 1) (binM powF (cM (.int 10)) (cM (.int 9))))) nilA))))))) (callM f__law_draw (consA (vM 1) (consA (binM addF (vM 2) (cM (.int 8))) (consA (cM (.int 6)) nilA))))) nilA)))) (passM)) (seqM (ifM (tbM (binM eqF (vM 3) (cM (.int 1)))) (retM (callM f__law_tree (consA (slM (vM 0) (noP) (someP (cM (.int 3)))) (consA (vM 1) (consA (cM (.int 2)) nilA))))) (passM)) (retM (callM f__law_tree (consA (vM 0) (consA (vM 1) (consA (cM (.int 3)) nilA)))))))
noncomputable def F__law_small : Nat → Fm
  | 0 => fun _ _ => .bad
  | n + 1 => kPure.f (runM 3 4 (m__law_small (F__law_tree n) (F__law_draw n)))
theorem S__law_small (n : Nat) : F__law_small (n + 1) = kPure.f (runM 3 4 (m__law_small (F__law_tree n) (F__law_draw n))) := rfl
noncomputable def m__law_filling (f__law_draw f__law_small : Fm) : SM :=
  seqM (setM 3 (argM lstF (consA (cM (.int 1)) (consA (cM (.int 2)) (consA (cM (.int 7)) (consA (binM powF (cM (.int 10)) (cM (.int 9))) (consA (binM addF (cM (.int 1)) (binM modF (vM 1) (binM powF (cM (.int 10)) (cM (.int 9))))) (consA (cM (.int 3)) nilA)))))))) (seqM (setM 4 (newDM)) (seqM (forM (rngI rng1 (consA (cM (.int 6)) nilA)) (nameG 5) (ifM (tbM (binM gtF (callM f__law_draw (consA (vM 1) (consA (binM addF (vM 2) (vM 5)) (consA (cM (.int 3)) nilA)))) (cM (.int 0)))) (setIxM setAF (callM f__law_small (consA (stepM (vM 0) (someP (vM 5)) 6) (consA (vM 1) (consA (binM addF (vM 2) (vM 5)) nilA)))) (vM 4) (binM ixF (vM 3) (vM 5))) (passM))) (retM (vM 4))))
noncomputable def F__law_filling : Nat → Fm
  | 0 => fun _ _ => .bad
  | n + 1 => kNew.f (runM 3 6 (m__law_filling (F__law_draw n) (F__law_small n)))
theorem S__law_filling (n : Nat) : F__law_filling (n + 1) = kNew.f (runM 3 6 (m__law_filling (F__law_draw n) (F__law_small n))) := rfl
noncomputable def m__law_exchanged (f__law_exchanged : Fm) : SM :=
  seqM (ifM (tbM (binM eqF (binM ixF (vM 0) (cM (.int 0))) (cM (.str "blank")))) (retM (mtMc ckDct getDF (vM 1) (consA (binM ixF (vM 0) (cM (.int 1))) (consA (vM 0) nilA)))) (passM)) (retM (argM tupF (consA (cM (.str "block")) (consA (binM ixF (vM 0) (cM (.int 1))) (consA (argM tupT (consA (lcM [2] (valI (binM ixF (vM 0) (cM (.int 2)))) (nameG 2) (yesM) (callM f__law_exchanged (consA (vM 2) (consA (vM 1) nilA)))) nilA)) nilA)))))
noncomputable def F__law_exchanged : Nat → Fm
  | 0 => fun _ _ => .bad
  | n + 1 => kPure.f (runM 2 3 (m__law_exchanged (F__law_exchanged n)))
theorem S__law_exchanged (n : Nat) : F__law_exchanged (n + 1) = kPure.f (runM 2 3 (m__law_exchanged (F__law_exchanged n))) := rfl
noncomputable def m__law_too_great (f__law_places : Fm) : SM :=
  seqM (setM 2 (newDM)) (seqM (lockS 1 (forM (fdI 1) (nameG 3) (seqM (setM 4 (callM f__law_places (consA (binM ixF (vM 1) (vM 3)) nilA))) (setIxM setAF (argM tupF (consA (argM lenF (consA (vM 4) nilA)) (consA (binM addF (cM (.int 1)) (argM max1F (consA (lcM [5, 6] (valI (vM 4)) (tupG 2 (consG (nameG 5) (consG (nameG 6) nilG))) (yesM) (argM lenF (consA (vM 5) nilA))) nilA))) nilA))) (vM 2) (vM 3))))) (seqM (setM 7 (cM (.int 0))) (seqM (setM 8 (cM (.int 0))) (seqM (forM (valI (callM f__law_places (consA (vM 0) nilA))) (tupG 2 (consG (nameG 5) (consG (nameG 6) (nilG)))) (seqM (setM 9 (argM tupF (consA (cM (.int 1)) (consA (cM (.int 1)) nilA)))) (seqM (ifM (tbM (binM eqF (binM ixF (vM 6) (cM (.int 0))) (cM (.str "blank")))) (setM 9 (mtMc ckDct getDF (vM 2) (consA (binM ixF (vM 6) (cM (.int 1))) (consA (argM tupF (consA (cM (.int 1)) (consA (cM (.int 1)) nilA))) nilA)))) (passM)) (seqM (setM 7 (binM addF (vM 7) (binM ixF (vM 9) (cM (.int 0))))) (setM 8 (argM max2F (consA (vM 8) (consA (binM addF (argM lenF (consA (vM 5) nilA)) (binM ixF (vM 9) (cM (.int 1)))) nilA)))))))) (retM (orV (binM gtF (vM 7) (cM (.int 400))) (binM gtF (vM 8) (cM (.int 60)))))))))
noncomputable def F__law_too_great : Nat → Fm
  | 0 => fun _ _ => .bad
  | n + 1 => kPure.f (runM 2 10 (m__law_too_great (F__law_places n)))
theorem S__law_too_great (n : Nat) : F__law_too_great (n + 1) = kPure.f (runM 2 10 (m__law_too_great (F__law_places n))) := rfl
noncomputable def m_one_behind (f_filled : Fm) : SM :=
  seqM (setM 2 (newDM)) (seqM (lockS 0 (forM (fdI 0) (nameG 3) (setIxM setAF (callM f_filled (consA (binM ixF (vM 0) (vM 3)) (consA (vM 1) nilA))) (vM 2) (vM 3)))) (seqM (lockS 1 (forM (fdI 1) (nameG 3) (ifM (tbM (binM ninF (vM 3) (vM 2))) (setIxM setAF (binM ixF (vM 1) (vM 3)) (vM 2) (vM 3)) (passM)))) (retM (vM 2))))
noncomputable def F_one_behind : Nat → Fm
  | 0 => fun _ _ => .bad
  | n + 1 => kRaw.f (runM 2 4 (m_one_behind (F_filled n)))
theorem S_one_behind (n : Nat) : F_one_behind (n + 1) = kRaw.f (runM 2 4 (m_one_behind (F_filled n))) := rfl
noncomputable def m__law_is_due (f__law_alike : Fm) : SM :=
  seqM (ifM (orM (notM (truM (unM (isF "dict") (vM 0)))) (tbM (binM neF (argM lenF (consA (vM 0) nilA)) (argM lenF (consA (vM 1) nilA))))) (retM (cM (.bl false))) (passM)) (retM (binM eqF (lockE 1 (lcM [2] (fdI 1) (nameG 2) (orM (tbM (binM ninF (vM 2) (vM 0))) (notM (truM (callM f__law_alike (consA (binM ixF (vM 0) (vM 2)) (consA (binM ixF (vM 1) (vM 2)) nilA)))))) (vM 2))) (argM lstF (nilA))))
noncomputable def F__law_is_due : Nat → Fm
  | 0 => fun _ _ => .bad
  | n + 1 => kPure.f (runM 2 3 (m__law_is_due (F__law_alike n)))
theorem S__law_is_due (n : Nat) : F__law_is_due (n + 1) = kPure.f (runM 2 3 (m__law_is_due (F__law_alike n))) := rfl
end DV
namespace DV
open PySem PySem.Spec PyProof.Rows L2
section
open PySem.SeqAt AutoSeq1 MeetsSeq MeetsSeq2 MeetsSeq3 SeqRoads2
variable {P0 : Program} {w0 : World}
abbrev lstO (v : Array Value) (n : Nat) (d : Option Addr) (sl : Array (Option Value)) : Obj := { cls := .type "list", dict := d, data := .seq v n, slots := sl }
theorem neWalk (p q : Addr) (xs ys : Array Value) (n1 n2 : Nat) (d1 d2 : Option Addr) (s1 s2 : Array (Option Value)) (same : xs.size = ys.size) (left : Nat) :
    ∀ at_ : Nat, xs.size - at_ = left → MeetsIn P0 w0 (Builtin.«list.__eq__.loop» ⟨[.ref p, .ref q, rawInt at_, rawInt 3], []⟩)
      (fun A R z => (z.heap.get? p = some (lstO xs n1 d1 s1) ∧ z.heap.get? q = some (lstO ys n2 d2 s2)) ∧
        (∀ j (u1 : j < xs.size) (u2 : j < ys.size), SeqAt.EqP P0 w0 A.in1 z xs[j] ys[j] true) ∧ R (.ok (.ret (.bool false))) z) := by
  induction left with
  | zero =>
    intro at_ hz A R z hyp
    obtain ⟨zh, zg, zd, zt, zo⟩ := z
    obtain ⟨⟨gp, gq⟩, eqs, goal⟩ := hyp
    have gp' : zh.get? p = some { cls := .type "list", dict := d1, data := .seq xs n1, slots := s1 } := gp
    have gq' : zh.get? q = some { cls := .type "list", dict := d2, data := .seq ys n2, slots := s2 } := gq
    wp_walk using wpAny_loadPart' gp', wpAny_loadPart' gq'
    have out1 : xs[((at_ : Nat) : Int).toNat]? = none := by rw [Int.toNat_natCast]; exact Array.getElem?_eq_none (by omega)
    have out2 : ys[((at_ : Nat) : Int).toNat]? = none := by rw [Int.toNat_natCast]; exact Array.getElem?_eq_none (by omega)
    rw [out1, out2]
    wp_walk using wpAny_loadPart' gp', wpAny_loadPart' gq'
    show R (.ok (.ret (.bool (xs.size != ys.size)))) _
    have : (xs.size != ys.size) = false := by rw [same]; simp
    rw [this]
    exact goal
  | succ left ih =>
    intro at_ hz A R z hyp
    obtain ⟨zh, zg, zd, zt, zo⟩ := z
    obtain ⟨⟨gp, gq⟩, eqs, goal⟩ := hyp
    have gp' : zh.get? p = some { cls := .type "list", dict := d1, data := .seq xs n1, slots := s1 } := gp
    have gq' : zh.get? q = some { cls := .type "list", dict := d2, data := .seq ys n2, slots := s2 } := gq
    wp_walk using wpAny_loadPart' gp', wpAny_loadPart' gq'
    have in1 : at_ < xs.size := by omega
    have in2 : at_ < ys.size := by omega
    have get1 : xs[((at_ : Nat) : Int).toNat]? = some xs[at_] := by rw [Int.toNat_natCast]; exact Array.getElem?_eq_getElem in1
    have get2 : ys[((at_ : Nat) : Int).toNat]? = some ys[at_] := by rw [Int.toNat_natCast]; exact Array.getElem?_eq_getElem in2
    rw [get1, get2]
    have step : ((at_ : Int) + 1) = ((at_ + 1 : Nat) : Int) := by omega
    refine wpAny_bind (eqs at_ in1 in2 _ _ ?_)
    wp_walk
    rw [step]
    refine ⟨plainId_quiet plain_eq_loop _, codeAny_builtin entry_eq_loop ?_⟩
    rw [Around.under_plainId plain_eq_loop _]
    exact ih (at_ + 1) (by omega) A R _ ⟨⟨gp, gq⟩, eqs, goal⟩
theorem neLists (p q : Addr) (xs ys : Array Value) (n1 n2 : Nat) (d1 d2 : Option Addr) (s1 s2 : Array (Option Value)) (same : xs.size = ys.size) :
    MeetsIn P0 w0 (Builtin.«list.__ne__» ⟨[.ref p, .ref q], []⟩)
      (fun A R z => (z.heap.get? p = some (lstO xs n1 d1 s1) ∧ z.heap.get? q = some (lstO ys n2 d2 s2)) ∧
        (∀ j (u1 : j < xs.size) (u2 : j < ys.size), SeqAt.EqP P0 w0 A.in1 z xs[j] ys[j] true) ∧ R (.ok (.ret (.bool false))) z) := by
  intro A R z hyp
  obtain ⟨zh, zg, zd, zt, zo⟩ := z
  obtain ⟨⟨gp, gq⟩, eqs, goal⟩ := hyp
  have gp' : zh.get? p = some { cls := .type "list", dict := d1, data := .seq xs n1, slots := s1 } := gp
  have gq' : zh.get? q = some { cls := .type "list", dict := d2, data := .seq ys n2, slots := s2 } := gq
  have ll := AutoSeq1.sub_list_list
  have neq : ¬ (xs.size != ys.size) = true := by rw [same]; simp
  wp_walk using wpAny_loadPart' gp', wpAny_loadPart' gq'
  refine ⟨plainId_quiet plain_eq_loop _, codeAny_builtin entry_eq_loop ?_⟩
  rw [Around.under_plainId plain_eq_loop _]
  exact neWalk p q xs ys n1 n2 d1 d2 s1 s2 same _ 0 rfl A R _ ⟨⟨gp, gq⟩, eqs, goal⟩
theorem rcNeP {A : Around} {s : Shared} {p q : Addr} {xs ys : Array Value} (gp : s.heap.IsList p xs) (gq : s.heap.IsList q ys) (same : xs.size = ys.size) (room : A.units < cLine)
    (eqs : ∀ j (u1 : j < xs.size) (u2 : j < ys.size), SeqAt.EqP P0 w0 A.in1 s xs[j] ys[j] true) (E Q : Value → Shared → Prop) (goal : Q (.bool false) s) : wpAny (model P0 w0) A (richCompare .NotEq (.ref p) (.ref q)) Q E s := by
  have ⟨⟨k1, d1, v1, s1⟩, o1, c1, n1, e1⟩ := gp
  have ⟨⟨k2, d2, v2, s2⟩, o2, c2, n2, e2⟩ := gq
  cases (show k1 = .type "list" from c1)
  cases (show v1 = .seq xs n1 from e1)
  cases (show k2 = .type "list" from c2)
  cases (show v2 = .seq ys n2 from e2)
  have ty1 : s.TypeIs (.ref p) "list" := ⟨_, o1, rfl⟩
  have ty2 : s.TypeIs (.ref q) "list" := ⟨_, o2, rfl⟩
  refine wpAny_richCompare_same_room (op := .NotEq) ty1 ty2 F.slot_list_ne ?_ room
  refine call_meetsIn F.slot_list_ne ty1 F.entry_list_ne (F.args_list_ne_2 _ _) (neLists p q xs ys n1 n2 d1 d2 s1 s2 same) ?_
  exact ⟨⟨o1, o2⟩, eqs, show Value.bool false ≠ Value.notImplemented ∧ Q (.bool false) s from ⟨fun z => (nomatch z), goal⟩⟩
end
theorem hits_okA {X : Cx} {A : Around} {pns : List (Addr × Obj)} {s : Shared} {σ : St} {H : Hp} {m : List Addr} {hs : Hs} {kb : List (Key × D)} {kbV : List (Key × V)} {ub : List (Key × Value)} (hu : A.units + 190 < cLine) (I : Inv X pns σ H s) (rh : RepH X.K m H hs)
    (kb1 : kb.map (·.1) = kbV.map (·.1)) (kb2 : RepL X.K m H (kb.map (·.2)) (kbV.map (·.2))) (rb : KV kbV ub) :
    ∀ {ka : List (Key × D)} {kaV : List (Key × V)} {ua : List (Key × Value)} {b : Bool}, ka.map (·.1) = kaV.map (·.1) → RepL X.K m H (ka.map (·.2)) (kaV.map (·.2)) → KV kaV ua → hitsD hs kb ka = some b → PySem.W.KeqHitsP X.prog X.w A s ub ua b
  | [], [], ua, b, _, _, r, e => by
    cases r; cases e; exact .nil
  | [], _ :: _, _, _, e, _, _, _ => by cases e
  | _ :: _, [], _, _, e, _, _, _ => by cases e
  | (k1, d) :: ka, (k2, v) :: kaV, ua, b, e1, r1, r, e => by
    simp only [List.map_cons, List.cons.injEq] at e1
    obtain ⟨ek, e1⟩ := e1
    subst ek
    simp only [List.map_cons] at r1
    unfold RepL at r1
    obtain ⟨x, xs, q, h1, h2⟩ := r1
    injection q with q1 q2
    subst q1 q2
    cases r with
    | @cons _ bp _ _ rx rr =>
      obtain ⟨bk, bv⟩ := bp
      obtain ⟨ek2, rx⟩ := rx
      have ek2 : k1 = bk := ek2
      have rx : RelV v bv := rx
      subst ek2
      unfold hitsD at e
      have rv := rb.val k1
      rcases valD_rep k1 kb1 kb2 with ⟨p, p2⟩ | ⟨y, vy, p, p2, ry⟩
      · rw [p] at e
        cases e
        rw [p2] at rv
        refine .miss ?_
        cases z : valueAt ub k1 with
        | none => rfl
        | some _ => rw [z] at rv; exact rv.elim
      · rw [p] at e
        rw [p2] at rv
        cases z : valueAt ub k1 with
        | none => rw [z] at rv; exact rv.elim
        | some w =>
          rw [z] at rv
          simp only at e
          split at e
          · rename_i pd qd f1 f2
            split at e
            · rename_i c
              obtain ⟨c1, c2, c3⟩ := c
              cases t : hitsD hs kb ka with
              | none => rw [t] at e; cases e
              | some b' =>
                rw [t] at e
                cases e
                obtain ⟨as, g1⟩ := Dp.reads I _ _ _ (pyH_dp rh f1 h1) rx
                obtain ⟨bs, g2⟩ := Dp.reads I _ _ _ (pyH_dp rh f2 ry) rv
                refine .hit z (SeqAt.eqAt_reads pd qd A s _ _ as bs g1 g2 c1 c2 ?_).eqP (hits_okA hu I rh kb1 kb2 rb e1 h2 rr t)
                have : min pd.depth qd.depth ≤ pd.depth := Nat.min_le_left _ _
                omega
            · cases e
          · cases e
/-- two dicts that are equal, one in another's list -/
theorem eqD_P {X : Cx} {A : Around} {pns : List (Addr × Obj)} {s : Shared} {σ : St} {H : Hp} {x y : V} {v u : Value} {m : List Addr} {hs : Hs} {dx dy : D} (hu : A.units + 192 < cLine) (I : Inv X pns σ H s) (rx : RelV x v) (ry : RelV y u) (r1 : RepV X.K m H dx x) (r2 : RepV X.K m H dy y)
    (rh : RepH X.K m H hs) (e : eqDB dx dy hs = some true) : SeqAt.EqP X.prog X.w A s v u true := by
  unfold eqDB at e
  split at e
  · rename_i ka kb e1 e2
    cases t : hitsD hs kb ka with
    | none => rw [t] at e; cases e
    | some b' =>
      rw [t] at e
      have e := Option.some.inj e
      obtain ⟨a, ksa, rfl, ha, ka1, ka2⟩ := dctA_rd rh r1 e1
      obtain ⟨c, ksb, rfl, hb, kb1, kb2⟩ := dctA_rd rh r2 e2
      cases rx; cases ry
      obtain ⟨za, na, ua, ra, da⟩ := dk_rd I.hok ha
      obtain ⟨zb, nb, ub, rb, db⟩ := dk_rd I.hok hb
      by_cases same : a = c
      · subst same
        exact (SeqAt.EqAt.same _).eqP
      · have hu' : A.in1.units + 190 < cLine := by
          have : A.in1.units ≤ A.units + 1 := Nat.le_refl _
          omega
        have hits := hits_okA hu' I rh kb1 kb2 rb ka1 ka2 ra t
        have la : ka.length = ua.length := by
          have l1 := congrArg List.length ka1
          simp only [List.length_map] at l1
          rw [l1, ra.length]
        have lb : kb.length = ub.length := by
          have l1 := congrArg List.length kb1
          simp only [List.length_map] at l1
          rw [l1, rb.length]
        rw [la, lb] at e
        refine SeqAt.eqP_refs same fun E Q q => PySem.W.rcP_dicts (knd := mixKind X.prog X.w) na nb da db (by omega) (fun _ => hits) E Q ?_
        have e : (ua.length == ub.length && b') = true := e
        rw [e]; exact q
  · cases e
/-- lists of dicts, all of them equal -/
noncomputable def pairsEq (h : Hs) : List D → List D → Prop
  | [], [] => True
  | x :: xs, y :: ys => eqDB x y h = some true ∧ pairsEq h xs ys
  | _, _ => False
noncomputable def allEq (d e : D) (h : Hs) : Prop := match d, e with
  | .loc a, .loc b => match h[a]?, h[b]? with
    | some (.lst xs), some (.lst ys) => pairsEq h xs ys
    | _, _ => False
  | _, _ => False
noncomputable def eqLDF : VF2 := fun d e h => open Classical in if allEq d e h then some (.bl true, h) else none
noncomputable def neLDF : VF2 := fun d e h => open Classical in if allEq d e h then some (.bl false, h) else none
theorem pairsEq_run {X : Cx} {A : Around} {pns : List (Addr × Obj)} {s : Shared} {σ : St} {H : Hp} {m : List Addr} {hs : Hs} (hu : A.units + 192 < cLine) (I : Inv X pns σ H s) (rh : RepH X.K m H hs) :
    ∀ {xs ys : List D} {vs ws : List V} {as bs : List Value}, pairsEq hs xs ys → RepL X.K m H xs vs → RepL X.K m H ys ws → Vals vs as → Vals ws bs → as.length = bs.length ∧ ∀ j (h1 : j < as.length) (h2 : j < bs.length), SeqAt.EqP X.prog X.w A s as[j] bs[j] true
  | [], [], _, _, _, _, _, r1, r2, q1, q2 => by
    unfold RepL at r1 r2
    subst r1 r2
    cases q1; cases q2
    exact ⟨rfl, fun j h1 _ => absurd h1 (Nat.not_lt_zero j)⟩
  | [], _ :: _, _, _, _, _, h, _, _, _, _ => by unfold pairsEq at h; exact h.elim
  | _ :: _, [], _, _, _, _, h, _, _, _, _ => by unfold pairsEq at h; exact h.elim
  | x :: xs, y :: ys, _, _, _, _, h, r1, r2, q1, q2 => by
    unfold pairsEq at h
    unfold RepL at r1 r2
    obtain ⟨v, vs, rfl, rv, r1⟩ := r1
    obtain ⟨w, ws, rfl, rw_, r2⟩ := r2
    cases q1 with
    | cons a1 b1 =>
      cases q2 with
      | cons a2 b2 =>
        obtain ⟨el, ih⟩ := pairsEq_run hu I rh h.2 r1 r2 b1 b2
        refine ⟨by simp [el], fun j h1 h2 => ?_⟩
        cases j with
        | zero => exact eqD_P hu I a1 a2 rv rw_ rh h.1
        | succ j => exact ih j (by simpa using h1) (by simpa using h2)
section
variable {X : Cx}
theorem eqLD_core {pns : List (Addr × Obj)} {s : Shared} {σ : St} {H : Hp} {x y : V} {v u : Value} {m : List Addr} {hs : Hs} {dx dy : D} (hu : X.A.units + 195 < cLine) (I : Inv X pns σ H s) (rx : RelV x v) (ry : RelV y u) (r1 : RepV X.K m H dx x) (r2 : RepV X.K m H dy y)
    (rh : RepH X.K m H hs) (e : allEq dx dy hs) {Q : Value → Shared → Prop} {Q' : Value → Shared → Prop} {E : Value → Shared → Prop} (q : Q (.bool true) s) (q' : Q' (.bool false) s) :
    wpAny (model X.prog X.w) X.A (compareOp .Eq v u) Q E s ∧ wpAny (model X.prog X.w) X.A (compareOp .NotEq v u) Q' E s := by
  unfold allEq at e
  split at e
  · rename_i a b
    unfold RepV at r1 r2
    obtain ⟨p, hp, rfl⟩ := r1
    obtain ⟨q0, hq, rfl⟩ := r2
    split at e
    · rename_i xs ys e1 e2
      obtain ⟨vs, hv, rl⟩ := rh.lst hp e1
      obtain ⟨ws, hw, rl2⟩ := rh.lst hq e2
      cases rx; cases ry
      obtain ⟨its, rv1, pl, z⟩ := I.list (SqL.of hv)
      obtain ⟨its2, rv2, pl2, z2⟩ := I.list (SqL.of hw)
      have hu' : X.A.in1.units + 192 < cLine := by
        have : X.A.in1.units ≤ X.A.units + 1 := Nat.le_refl _
        omega
      obtain ⟨el, run⟩ := pairsEq_run hu' I rh e rl rl2 rv1 rv2
      have hsz : its.toArray.size = its2.toArray.size := by simpa using el
      refine ⟨SeqAt.rcP_lists (e := fun _ => true) pl.isList pl2.isList hsz (by omega) (fun j h1 h2 => by simpa using run j (by simpa using h1) (by simpa using h2)) E Q ?_, rcNeP pl.isList pl2.isList hsz (by omega) (fun j h1 h2 => by simpa using run j (by simpa using h1) (by simpa using h2)) E Q' q'⟩
      rw [show ((List.range its.toArray.size).all fun _ => true) = true from List.all_eq_true.mpr fun _ _ => rfl]
      exact q
    · exact e.elim
  · exact e.elim
theorem o_eqLD (hu : X.A.units + 195 < cLine) : OpR X (compareOp .Eq) (rV X.K eqLDF) := by
  intro pns s σ H x y v u Q I rx ry h
  obtain ⟨m, hs, dx, dy, r1, r2, rh, o⟩ := h
  unfold eqLDF at o
  split at o
  · rename_i e
    exact (eqLD_core (E := X.xe) (Q' := fun _ _ => True) hu I rx ry r1 r2 rh e ⟨.bl true, H, I, rfl, o _ m H (.refl _ _) (by unfold RepV; rfl) rh⟩ trivial).1
  · exact o.elim
theorem o_neLD (hu : X.A.units + 195 < cLine) : OpR X (compareOp .NotEq) (rV X.K neLDF) := by
  intro pns s σ H x y v u Q I rx ry h
  obtain ⟨m, hs, dx, dy, r1, r2, rh, o⟩ := h
  unfold neLDF at o
  split at o
  · rename_i e
    exact (eqLD_core (E := X.xe) (Q := fun _ _ => True) hu I rx ry r1 r2 rh e trivial ⟨.bl false, H, I, rfl, o _ m H (.refl _ _) (by unfold RepV; rfl) rh⟩).2
  · exact o.elim
end
theorem eqLD_of {h : Hs} {a b : Nat} {xs ys : List D} (ea : h[a]? = some (.lst xs)) (eb : h[b]? = some (.lst ys)) (p : pairsEq h xs ys) : eqLDF (.loc a) (.loc b) h = some (.bl true, h) ∧ neLDF (.loc a) (.loc b) h = some (.bl false, h) := by
  have : allEq (.loc a) (.loc b) h := by unfold allEq; simp only [ea, eb]; exact p
  unfold eqLDF neLDF
  rw [if_pos this, if_pos this]
  exact ⟨rfl, rfl⟩
end DV
namespace DV
open PySem PySem.Spec PyProof.Rows L2
noncomputable def m_law_k17x (f_one_behind f__law_is_due f__law_exchanged f__law_too_great f__law_filling f__law_cell_at : Fm) : SM :=
  seqM (setM 1 (callM f__law_cell_at (consA (vM 0) (consA (cM (.int 0)) nilA)))) (seqM (setM 2 (callM f__law_filling (consA (stepM (vM 0) (someP (cM (.int 1))) 2) (consA (vM 1) (consA (cM (.int 30)) nilA))))) (seqM (setM 3 (callM f__law_filling (consA (stepM (vM 0) (someP (cM (.int 2))) 2) (consA (vM 1) (consA (cM (.int 44)) nilA))))) (seqM (setM 4 (argM lstF (consA (argM dictT (consA (vM 2) nilA)) (consA (argM dictT (consA (vM 3) nilA)) nilA)))) (seqM (setM 5 (cM .non)) (seqM (setM 6 (cM (.bl false))) (seqM (tryM none [("FormError", false), ("TooLong", true)] (setM 5 (callM f_one_behind (consA (binM ixF (vM 4) (cM (.int 0))) (consA (binM ixF (vM 4) (cM (.int 1))) nilA)))) (setM 6 (cM (.bl true)))) (seqM (ifM (tbM (binM neLDF (vM 4) (argM lstF (consA (vM 2) (consA (vM 3) nilA))))) (retM (cM (.bl false))) (passM)) (seqM (ifM (tbM (binM neF (lockE 2 (lcM [7] (fdI 2) (nameG 7) (truM (callM f__law_too_great (consA (binM ixF (vM 2) (vM 7)) (consA (vM 3) nilA)))) (vM 7))) (argM lstF (nilA)))) (retM (vM 6)) (passM)) (seqM (setM 8 (argM dictT (consA (vM 3) nilA))) (seqM (lockS 2 (forM (fdI 2) (nameG 7) (setIxM setAF (callM f__law_exchanged (consA (binM ixF (vM 2) (vM 7)) (consA (vM 3) nilA))) (vM 8) (vM 7)))) (seqM (ifM (orM (truM (vM 6)) (notM (truM (callM f__law_is_due (consA (vM 5) (consA (vM 8) nilA)))))) (retM (cM (.bl false))) (passM)) (seqM (exprM (mtMc ckDct clearF (vM 5) nilA)) (retM (andV (binM eqLDF (vM 4) (argM lstF (consA (vM 2) (consA (vM 3) nilA)))) (callM f__law_is_due (consA (callM f_one_behind (consA (vM 2) (consA (vM 3) nilA))) (consA (vM 8) nilA)))))))))))))))))
noncomputable def F_law_k17x : Nat → Fm
  | 0 => fun _ _ => .bad
  | n + 1 => kPure.f (runM 1 9 (m_law_k17x (F_one_behind n) (F__law_is_due n) (F__law_exchanged n) (F__law_too_great n) (F__law_filling n) (F__law_cell_at n)))
theorem S_law_k17x (n : Nat) : F_law_k17x (n + 1) = kPure.f (runM 1 9 (m_law_k17x (F_one_behind n) (F__law_is_due n) (F__law_exchanged n) (F__law_too_great n) (F__law_filling n) (F__law_cell_at n))) := rfl
end DV
namespace DV
open PySem PySem.Spec PyProof.Rows L2
def drawI (cell k many : Int) : Int := (cell + 1) * (48271 + 7919 * k * k) % 2147483647 * ((cell + 1) * (48271 + 7919 * k * k) % 2147483647) % 2147483629 / 7 % many
theorem drawI_lt (cell k : Int) {many : Int} (h : 0 < many) : 0 ≤ drawI cell k many ∧ drawI cell k many < many := ⟨Int.emod_nonneg _ (by omega), Int.emod_lt_of_pos _ h⟩
theorem draw_ok (n : Nat) (h : Hs) (cell k many : Int) (hm : 0 < many) (hk : -1000000 ≤ k ∧ k ≤ 1000000) : F__law_draw (n + 1) [.int cell, .int k, .int many] h = .ok (.int (drawI cell k many)) h := by
  have sq : k * k ≤ 1000000000000 ∧ 0 ≤ k * k := by
    constructor
    · have h1 : 0 ≤ (1000000 - k) * (1000000 + k) := Int.mul_nonneg (by omega) (by omega)
      have h2 : (1000000 - k) * (1000000 + k) = 1000000000000 - k * k := by rw [Int.sub_mul, Int.mul_add, Int.mul_add]; omega
      omega
    · rcases Int.le_total 0 k with h | h
      · exact Int.mul_nonneg h h
      · exact Int.mul_nonneg_of_nonpos_of_nonpos h h
  have b0 : ∀ j, cMul 7919 j = true := fun j => cMul_l (by decide) (by decide)
  have b1 : ∀ j, cMul (7919 * k) j = true := fun j => cMul_l (by omega) (by omega)
  have b2 : ∀ i, cMul i (48271 + 7919 * k * k) = true := fun i => cMul_r (by rw [Int.mul_assoc]; omega) (by rw [Int.mul_assoc]; omega)
  have b3 := Int.emod_nonneg ((cell + 1) * (48271 + 7919 * k * k)) (show (2147483647 : Int) ≠ 0 by decide)
  have b4 := Int.emod_lt_of_pos ((cell + 1) * (48271 + 7919 * k * k)) (show (0 : Int) < 2147483647 by decide)
  have b5 : ∀ j, cMul ((cell + 1) * (48271 + 7919 * k * k) % 2147483647) j = true := fun j => cMul_l (by omega) (by omega)
  have m1 : ∀ i, cMod i 2147483647 = true := fun i => cMod_of (by decide)
  have m2 : ∀ i, cMod i 2147483629 = true := fun i => cMod_of (by decide)
  have m3 : ∀ i, cDiv i 7 = true := fun i => cDiv_of (by decide) (by decide)
  have m4 : ∀ i, cMod i many = true := fun i => cMod_of hm
  refine R.wp_eq.mp ?_
  simp [F__law_draw, wp_pure, wp_run, m__law_draw, startD, wp_v, drawI, b0, b1, b2, b5, m1, m2, m3, m4, noloc]
/-- a text's signs in the alphabets -/
abbrev smallS : Str := "abcdefghijklmnopqrstuvwxyz"
abbrev figS : Str := "0123456789"
def okSign (c : Nat) : Bool := decide (c ∈ smallS.cps) || decide (c ∈ figS.cps)
def nameL : List Nat → Bool
  | [] => false
  | c :: r => decide (c ∈ smallS.cps) && r.all okSign
def nameB (s : Str) : Bool := decide (1 ≤ s.length ∧ s.length ≤ 12) && nameL s.cps.toList
theorem str_len (s : Str) : s.length = s.cps.toList.length := by rw [Array.length_toList]; rfl
theorem hL : LIM = 16777216 := rfl
/-- the sign at a place fits -/
def okAt (i c : Nat) : Bool := decide (c ∈ smallS.cps) || (decide (i ≠ 0) && decide (c ∈ figS.cps))
theorem nameL_iff (l : List Nat) : nameL l = true ↔ l ≠ [] ∧ ∀ i c, l[i]? = some c → okAt i c = true := by
  cases l with
  | nil => simp [nameL]
  | cons a r =>
    simp only [nameL, Bool.and_eq_true, decide_eq_true_eq, List.all_eq_true, ne_eq, reduceCtorEq, not_false_eq_true, true_and]
    constructor
    · rintro ⟨h1, h2⟩ i c e
      cases i with
      | zero => simp at e; subst e; simp [okAt, h1]
      | succ i =>
        simp at e
        have := h2 c (List.mem_of_getElem? e)
        simpa [okAt, okSign] using this
    · intro h
      refine ⟨by simpa [okAt] using h 0 a rfl, fun c hc => ?_⟩
      obtain ⟨i, hi⟩ := List.mem_iff_getElem?.mp hc
      have := h (i + 1) c (by simpa using hi)
      simpa [okAt, okSign] using this
theorem app_len (a b : Str) : (a ++ b).length = a.length + b.length := by
  show (a.cps ++ b.cps).size = _
  rw [Array.size_append]; rfl
theorem cut_len (s : Str) (lo hi : Option Int) : (cutS s lo hi).length ≤ s.length := by
  show Array.size (List.toArray _) ≤ s.cps.size
  rw [List.size_toArray, List.length_take, List.length_drop, Array.length_toList]
  omega
theorem rep_size (s : Str) (k : Nat) : (repS s k).length = s.length * k := by
  show Array.size (List.toArray _) = _
  rw [List.size_toArray, rep_len, ← str_len]
end DV
namespace DV
open PySem PySem.Spec PyProof.Rows L2
inductive Tr where
  | bl (k : Int)
  | bk (s : Str) (ps : List Tr)
def Tr.parts : Tr → List Tr
  | .bl _ => []
  | .bk _ ps => ps
mutual
def tD : Tr → D
  | .bl k => .tup [.str "blank", .int k]
  | .bk s ps => .tup [.str "block", .str s, .tup (tDs ps)]
def tDs : List Tr → List D
  | [] => []
  | t :: ts => tD t :: tDs ts
end
theorem tDs_map : ∀ ts : List Tr, tDs ts = ts.map tD
  | [] => by simp [tDs]
  | t :: ts => by rw [tDs, tDs_map ts]; rfl
@[simp] theorem tDs_len (ts : List Tr) : (tDs ts).length = ts.length := by rw [tDs_map, List.length_map]
theorem tDs_get {ts : List Tr} {i : Nat} {d : D} (e : (tDs ts)[i]? = some d) : ∃ t, ts[i]? = some t ∧ d = tD t := by
  rw [tDs_map, List.getElem?_map] at e
  cases q : ts[i]? with
  | none => rw [q] at e; cases e
  | some t => rw [q] at e; cases e; exact ⟨t, rfl, rfl⟩
mutual
theorem noloc_tD : ∀ t : Tr, noloc (tD t) = true
  | .bl k => rfl
  | .bk s ps => by simp [tD, noloc, nolocL, noloc_tDs ps]
theorem noloc_tDs : ∀ ts : List Tr, nolocL (tDs ts) = true
  | [] => by simp [tDs, nolocL]
  | t :: ts => by simp [tDs, nolocL, noloc_tD t, noloc_tDs ts]
end
mutual
def Tr.knots : Tr → Nat
  | .bl _ => 1
  | .bk _ ps => 1 + knotsL ps
def knotsL : List Tr → Nat
  | [] => 0
  | t :: ts => t.knots + knotsL ts
end
mutual
def Tr.depth : Tr → Nat
  | .bl _ => 1
  | .bk _ ps => 1 + depthL ps
def depthL : List Tr → Nat
  | [] => 0
  | t :: ts => max t.depth (depthL ts)
end
theorem knots_parts (t : Tr) : t.knots = 1 + knotsL t.parts := by cases t <;> simp [Tr.knots, Tr.parts, knotsL]
theorem depth_parts (t : Tr) : t.depth = 1 + depthL t.parts := by cases t <;> simp [Tr.depth, Tr.parts, depthL]
theorem knots_pos (t : Tr) : 1 ≤ t.knots := by rw [knots_parts]; omega
theorem depth_mem {t : Tr} : ∀ {ts : List Tr}, t ∈ ts → t.depth ≤ depthL ts
  | [], h => nomatch h
  | u :: ts, h => by
    rw [depthL]
    rcases List.mem_cons.mp h with rfl | h
    · exact Nat.le_max_left _ _
    · exact Nat.le_trans (depth_mem h) (Nat.le_max_right _ _)
theorem knots_mem {t : Tr} : ∀ {ts : List Tr}, t ∈ ts → t.knots ≤ knotsL ts
  | [], h => nomatch h
  | u :: ts, h => by
    rw [knotsL]
    rcases List.mem_cons.mp h with rfl | h
    · omega
    · have := knots_mem h; omega
theorem knotsL_sum : ∀ ts : List Tr, knotsL ts = (ts.map Tr.knots).sum
  | [] => rfl
  | t :: ts => by rw [knotsL, knotsL_sum ts]; simp
theorem len_knotsL : ∀ ts : List Tr, ts.length ≤ knotsL ts
  | [] => by simp
  | t :: ts => by rw [knotsL]; have := len_knotsL ts; have := knots_pos t; simp; omega
@[simp] theorem ok_block : PyData.strOk "block" = true := by decide +kernel
@[simp] theorem ok_blank : PyData.strOk "blank" = true := by decide +kernel
theorem bk_bl : ¬ ("block" : Str) = "blank" := by decide +kernel
theorem bl_bk : ¬ ("blank" : Str) = "block" := by decide +kernel
@[simp] theorem eq_bl1 {h : Hs} : eqF (.str "blank") (.str "blank") h = some (.bl true, h) := by rw [eq_strs ok_blank ok_blank]; simp
@[simp] theorem eq_bl2 {h : Hs} : eqF (.str "block") (.str "blank") h = some (.bl false, h) := by rw [eq_strs ok_block ok_blank, decide_eq_false bk_bl]
@[simp] theorem eq_bk1 {h : Hs} : eqF (.str "block") (.str "block") h = some (.bl true, h) := by rw [eq_strs ok_block ok_block]; simp
@[simp] theorem eq_bk2 {h : Hs} : eqF (.str "blank") (.str "block") h = some (.bl false, h) := by rw [eq_strs ok_blank ok_block, decide_eq_false bl_bk]
@[simp] theorem at0 {α : Type} {a : α} {l : List α} : atI (a :: l) 0 = some a := by
  have : (0 : Int) = ((0 : Nat) : Int) := rfl
  rw [this, atI_nat (by simp)]; rfl
@[simp] theorem at1 {α : Type} {a b : α} {l : List α} : atI (a :: b :: l) 1 = some b := by
  have : (1 : Int) = ((1 : Nat) : Int) := rfl
  rw [this, atI_nat (by simp)]; rfl
@[simp] theorem at2 {α : Type} {a b c : α} {l : List α} : atI (a :: b :: c :: l) 2 = some c := by
  have : (2 : Int) = ((2 : Nat) : Int) := rfl
  rw [this, atI_nat (by simp)]; rfl
theorem parts_of_ok (n : Nat) (h : Hs) (t : Tr) : F_parts_of (n + 1) [tD t] h = .ok (.tup (tDs t.parts)) h := by
  refine R.wp_eq.mp ?_
  cases t with
  | bl k => simp [F_parts_of, wp_pure, wp_run, m_parts_of, startD, wp_v, tD, noloc, nolocL, Tr.parts, tDs]
  | bk s ps => simp [F_parts_of, wp_pure, wp_run, m_parts_of, startD, wp_v, tD, noloc, noloc_tDs, Tr.parts]
theorem intsOf_nat {α : Type} (f : α → Nat) : ∀ ts : List α, intsOf (ts.map fun p => D.int (f p : Int)) = some (ts.map fun p => (f p : Int))
  | [] => rfl
  | t :: ts => by rw [List.map_cons]; unfold intsOf; rw [intsOf_nat f ts]; rfl
theorem sum_nat {α : Type} (f : α → Nat) : ∀ ts : List α, (ts.map fun p => (f p : Int)).sum = (((ts.map f).sum : Nat) : Int)
  | [] => rfl
  | t :: ts => by rw [List.map_cons, List.sum_cons, sum_nat f ts]; simp
theorem knots_of_ok (h : Hs) : ∀ (n : Nat) (t : Tr), t.depth + 1 ≤ n → t.knots ≤ 1000000 → F_knots_of n [tD t] h = .ok (.int t.knots) h
  | 0, t, hn, _ => by omega
  | n + 1, t, hn, hk => by
    have dp := depth_parts t
    have kp := knots_parts t
    obtain ⟨n, rfl⟩ : ∃ m, n = m + 1 := ⟨n - 1, by omega⟩
    have hl := len_knotsL t.parts
    have lc := lc_map1 (h0 := h) (gd := fun _ => True) (i := 1) (ds := [some (tD t), none]) (A := callM (F_knots_of (n + 1)) (consA (vM 1) nilA)) (tDs t.parts) (t.parts.map fun p => .int (p.knots : Int)) (by simp) (by simp; omega) (fun _ => trivial) (fun k d y acc e1 e2 => by
      obtain ⟨p, hp, rfl⟩ := tDs_get e1
      rw [List.getElem?_map, hp] at e2
      cases e2
      have hm := List.mem_of_getElem? hp
      have := depth_mem hm
      have := knots_mem hm
      have ih := knots_of_ok (h ++ [.lst acc]) (n + 1) p (by omega) (by omega)
      refine R.wp_eq.mp ?_
      simp [wp_v, ih])
    rw [S_knots_of]
    refine R.wp_eq.mp ?_
    have es := intsOf_nat Tr.knots t.parts
    have se := sum_nat Tr.knots t.parts
    simp [wp_pure, wp_run, m_knots_of, startD, wp_v, parts_of_ok, lc, sumF, es, se, noloc, kp, knotsL_sum]
theorem max_nat {α : Type} (f : α → Nat) : ∀ (ts : List α) (a : Nat), maxI (a : Int) (ts.map fun p => (f p : Int)) = (((ts.map f).foldl max a : Nat) : Int)
  | [], a => rfl
  | t :: ts, a => by
    show maxI (if (a : Int) < (f t : Int) then (f t : Int) else (a : Int)) _ = _
    have e : (if (a : Int) < (f t : Int) then (f t : Int) else (a : Int)) = ((max a (f t) : Nat) : Int) := by split <;> omega
    rw [e, max_nat f ts]
    rfl
theorem foldl_max {α : Type} (f : α → Nat) : ∀ (ts : List α) (a : Nat), (ts.map f).foldl max a = max a ((ts.map f).foldl max 0)
  | [], a => by simp
  | t :: ts, a => by
    simp only [List.map_cons, List.foldl_cons]
    rw [foldl_max f ts (max a (f t)), foldl_max f ts (max 0 (f t))]
    omega
theorem depthL_max : ∀ ts : List Tr, depthL ts = (ts.map Tr.depth).foldl max 0
  | [] => rfl
  | t :: ts => by
    rw [depthL, depthL_max ts, List.map_cons, List.foldl_cons, foldl_max Tr.depth ts (max 0 t.depth)]
    omega
theorem depth_of_ok (h : Hs) : ∀ (n : Nat) (t : Tr), t.depth + 1 ≤ n → t.knots ≤ 1000000 → F_depth_of n [tD t] h = .ok (.int t.depth) h
  | 0, t, hn, _ => by omega
  | n + 1, t, hn, hk => by
    have dp := depth_parts t
    have kp := knots_parts t
    obtain ⟨n, rfl⟩ : ∃ m, n = m + 1 := ⟨n - 1, by omega⟩
    have hl := len_knotsL t.parts
    have lc := lc_map1 (h0 := h) (gd := fun _ => True) (i := 1) (ds := [some (tD t), none]) (A := callM (F_depth_of (n + 1)) (consA (vM 1) nilA)) (tDs t.parts) (t.parts.map fun p => .int (p.depth : Int)) (by simp) (by simp; omega) (fun _ => trivial) (fun k d y acc e1 e2 => by
      obtain ⟨p, hp, rfl⟩ := tDs_get e1
      rw [List.getElem?_map, hp] at e2
      cases e2
      have hm := List.mem_of_getElem? hp
      have := depth_mem hm
      have := knots_mem hm
      have ih := depth_of_ok (h ++ [.lst acc]) (n + 1) p (by omega) (by omega)
      refine R.wp_eq.mp ?_
      simp [wp_v, ih])
    rw [S_depth_of]
    refine R.wp_eq.mp ?_
    have mx := fun (h : Hs) (l : Nat) (e : h[l]? = some (.lst (t.parts.map fun p => .int (p.depth : Int)))) => maxd_lst (k := 0) e (intsOf_nat Tr.depth t.parts)
    have fin : maxOr 0 (t.parts.map fun p => (p.depth : Int)) = ((depthL t.parts : Nat) : Int) := by
      cases q : t.parts with
      | nil => simp [depthL, maxOr]
      | cons p ps =>
        simp only [List.map_cons, maxOr]
        rw [max_nat, foldl_max, depthL, depthL_max]
    rw [fin] at mx
    simp [wp_pure, wp_run, m_depth_of, startD, wp_v, parts_of_ok, lc, mx, noloc, dp]
end DV
namespace DV
open PySem PySem.Spec PyProof.Rows L2
/-- so many signs of a name -/
def NamePre (j : Nat) (s : Str) : Prop := s.length = j ∧ ∀ i c, s.cps.toList[i]? = some c → okAt i c = true
abbrev S36 : Str := "abcdefghijklmnopqrstuvwxyz0123456789"
theorem S36_len : S36.cps.toList.length = 36 := by decide +kernel
theorem S36_ok : ∀ (k : Nat) (c : Nat), S36.cps.toList[k]? = some c → decide (c ∈ smallS.cps) = decide (k < 26) ∧ (decide (c ∈ smallS.cps) || decide (c ∈ figS.cps)) = true := by
  intro k c e
  have hk : k < 36 := by have := (List.getElem?_eq_some_iff.mp e).1; rw [S36_len] at this; exact this
  have all : ∀ k : Fin 36, ∀ c, S36.cps.toList[k.val]? = some c → decide (c ∈ smallS.cps) = decide (k.val < 26) ∧ (decide (c ∈ smallS.cps) || decide (c ∈ figS.cps)) = true := by
    have q : (List.finRange 36).all (fun k => match S36.cps.toList[k.val]? with | some c => (decide (c ∈ smallS.cps) == decide (k.val < 26)) && (decide (c ∈ smallS.cps) || decide (c ∈ figS.cps)) | none => true) = true := by decide +kernel
    intro k c e
    have := List.all_eq_true.mp q k (List.mem_finRange k)
    rw [e] at this
    simp only [Bool.and_eq_true, beq_iff_eq] at this
    exact this
  exact all ⟨k, hk⟩ c e
theorem namePre_nil : NamePre 0 "" := ⟨rfl, fun i c e => by have : ([] : List Nat)[i]? = some c := e; simp at this⟩
theorem namePre_snoc {j : Nat} {s : Str} {c : Nat} (h : NamePre j s) (hc : okAt j c = true) : NamePre (j + 1) (s ++ ⟨#[c]⟩) := by
  refine ⟨by rw [app_len, h.1]; rfl, fun i d e => ?_⟩
  have e2 : (s ++ (⟨#[c]⟩ : Str)).cps.toList = s.cps.toList ++ [c] := by
    show (s.cps ++ #[c]).toList = _
    simp
  rw [e2] at e
  have hl : s.cps.toList.length = j := by rw [← str_len]; exact h.1
  by_cases q : i < j
  · rw [List.getElem?_append_left (by omega)] at e
    exact h.2 i d e
  · have : i = j := by
      have := (List.getElem?_eq_some_iff.mp e).1
      rw [List.length_append, hl, List.length_singleton] at this; omega
    subst this
    rw [List.getElem?_append_right (by omega), hl] at e
    simp at e
    subst e
    exact hc
theorem namePre_name {j : Nat} {s : Str} (h : NamePre j s) (h1 : 1 ≤ j) (h2 : j ≤ 12) : nameB s = true := by
  unfold nameB
  rw [h.1, decide_eq_true ⟨h1, h2⟩, Bool.true_and, nameL_iff]
  refine ⟨fun z => ?_, h.2⟩
  have := str_len s
  rw [z, h.1] at this
  simp at this; omega
theorem sign_36 {j : Nat} {c : Nat} {k many : Int} (hm : many = if j = 0 then 26 else 36) (h0 : 0 ≤ k) (h1 : k < many) (e : atI S36.cps.toList k = some c) : okAt j c = true := by
  obtain ⟨n, rfl⟩ := Int.eq_ofNat_of_zero_le h0
  have hn : n < S36.cps.toList.length := by rw [S36_len]; split at hm <;> omega
  rw [atI_nat hn] at e
  obtain ⟨q1, q2⟩ := S36_ok n c e
  unfold okAt
  by_cases z : j = 0
  · rw [if_pos z] at hm
    rw [q1, decide_eq_true (show n < 26 by omega)]
    rfl
  · rw [decide_eq_true z, Bool.true_and]
    exact q2
/-- four texts, those ahead of k with one sign more -/
def Names4 (j k : Nat) (ns : List Str) : Prop := ns.length = 4 ∧ ∀ i s, ns[i]? = some s → NamePre (if i < k then j + 1 else j) s
theorem names_set {j k : Nat} {ns : List Str} {s : Str} {c : Nat} (h : Names4 j k ns) (hs : ns[k]? = some s) (hc : okAt j c = true) : Names4 j (k + 1) (ns.set k (s ++ ⟨#[c]⟩)) := by
  refine ⟨by rw [List.length_set]; exact h.1, fun i t e => ?_⟩
  have hk := (List.getElem?_eq_some_iff.mp hs).1
  by_cases z : i = k
  · subst z
    rw [List.getElem?_set_self hk] at e
    cases e
    have := h.2 i s hs
    rw [if_neg (Nat.lt_irrefl _)] at this
    rw [if_pos (Nat.lt_succ_self _)]
    exact namePre_snoc this hc
  · rw [List.getElem?_set_ne (Ne.symm z)] at e
    have := h.2 i t e
    have e2 : (if i < k + 1 then j + 1 else j) = (if i < k then j + 1 else j) := by split <;> split <;> omega
    rw [e2]
    exact this
theorem map_set_str (ns : List Str) (k : Nat) (s : Str) : (ns.map D.str).set k (.str s) = (ns.set k s).map D.str := by rw [List.map_set]
theorem names_ok (n : Nat) (h : Hs) (cell : Int) : (F__law_names (n + 2) [.int cell] h).wp (fun d h' => ∃ ns : List Str, d = .loc h.length ∧ h' = h ++ [.lst (ns.map D.str)] ∧ ns.length = 4 ∧ ∀ s ∈ ns, nameB s = true) xF := by
  have dr : ∀ (k many : Int) (h : Hs), 0 < many → -1000000 ≤ k ∧ k ≤ 1000000 → F__law_draw (n + 1) [.int cell, .int k, .int many] h = .ok (.int (drawI cell k many)) h := fun k many h a b => draw_ok n h cell k many a b
  rw [S__law_names]
  refine wp_new ?_
  have m10 : ∀ j, cMul 10 j = true := fun j => cMul_l (by decide) (by decide)
  have d57 := drawI_lt cell 57 (many := 12) (by decide)
  generalize hsz : 1 + drawI cell 57 12 = sz
  have r1 : inR sz = true := inR_of (by omega) (by omega)
  have r4 : inR 4 = true := inR_of (by decide) (by decide)
  have sp : 0 < sz := by omega
  simp [wp_run, m__law_names, startD, wp_v, dr, hsz, sp, r1]
  obtain ⟨J, hJ⟩ : ∃ J : Nat → Sl → Hs → Prop, J = fun j ds h' => ∃ (ns : List Str) (a b c d e f : Option D), h' = h ++ [.lst (ns.map D.str)] ∧ Names4 j 0 ns ∧ ds = [some (.int cell), some (.str S36), some (.int sz), some (.int (drawI cell 58 sz)), some (.loc h.length), a, b, c, d, e, f] := ⟨_, rfl⟩
  have start : J 0 [some (.int cell), some (.str S36), some (.int sz), some (.int (drawI cell 58 sz)), some (.loc h.length), none, none, none, none, none, none] (h ++ [.lst [.str "", .str "", .str "", .str ""]]) := by
    rw [hJ]
    refine ⟨["", "", "", ""], none, none, none, none, none, none, rfl, ⟨rfl, fun i s hi => ?_⟩, rfl⟩
    have : s = "" := by
      have := List.mem_of_getElem? hi
      simpa using this
    subst this
    exact namePre_nil
  refine ws_loop _ J start (fun _ _ _ _ => trivial) ?_ ?_
  · intro j d ds h' hd hj
    rw [hJ] at hj
    obtain ⟨ns, a, b, c, d', e, f, rfl, hn, rfl⟩ := hj
    have hjs : j < sz.toNat := by
      have := (List.getElem?_eq_some_iff.mp hd).1
      simpa using this
    have ed : d = .int j := by
      rw [List.getElem?_map, List.getElem?_range hjs] at hd
      exact (Option.some.inj hd).symm
    subst ed
    obtain ⟨M, hM, hM2⟩ : ∃ M : Int, (26 + 10 * (if 0 < j then 1 else 0) : Int) = M ∧ M = if j = 0 then 26 else 36 := by
      by_cases z : j = 0
      · subst z; exact ⟨26, by simp, by simp⟩
      · exact ⟨36, by rw [if_pos (by omega)]; rfl, by simp [z]⟩
    have Mp : 0 < M := by rw [hM2]; split <;> omega
    have kb : -1000000 ≤ (60 + (j : Int)) ∧ (60 + (j : Int)) ≤ 1000000 := by omega
    simp [wp_v, dr, m10, hM, Mp, kb, r4]
    obtain ⟨G, hG⟩ : ∃ G : Nat → Sl → Hs → Prop, G = fun k ds h' => ∃ (ns : List Str) (e f : Option D), h' = h ++ [.lst (ns.map D.str)] ∧ Names4 j k ns ∧ ds = [some (.int cell), some (.str S36), some (.int sz), some (.int (drawI cell 58 sz)), some (.loc h.length), some (.int j), some (.int M), some (.int (drawI cell (60 + j) M)), some (.int (if (j : Int) = drawI cell 58 sz then 1 else 0)), e, f] := ⟨_, rfl⟩
    have start2 : G 0 [some (.int cell), some (.str S36), some (.int sz), some (.int (drawI cell 58 sz)), some (.loc h.length), some (.int j), some (.int M), some (.int (drawI cell (60 + j) M)), some (.int (if (j : Int) = drawI cell 58 sz then 1 else 0)), e, f] (h ++ [.lst (ns.map D.str)]) := by
      rw [hG]; exact ⟨ns, e, f, rfl, hn, rfl⟩
    refine ws_loop _ G start2 (fun _ _ _ _ => trivial) ?_ ?_
    · intro k d ds h' hd hj
      rw [hG] at hj
      obtain ⟨ns, e, f, rfl, hn, rfl⟩ := hj
      have hk4 : k < 4 := by
        have := (List.getElem?_eq_some_iff.mp hd).1
        simpa using this
      have ed : d = .int k := by
        rw [List.getElem?_map, List.getElem?_range hk4] at hd
        exact (Option.some.inj hd).symm
      subst ed
      have ck : ∀ i, cMul (k : Int) i = true := fun i => cMul_l (by omega) (by omega)
      have cm : ∀ i, cMod i M = true := fun i => cMod_of Mp
      generalize hx : (drawI cell (60 + j) M + (k : Int) * (if (j : Int) = drawI cell 58 sz then 1 else 0)) % M = x
      have x0 : 0 ≤ x := by rw [← hx]; exact Int.emod_nonneg _ (by omega)
      have x1 : x < M := by rw [← hx]; exact Int.emod_lt_of_pos _ Mp
      obtain ⟨c, hc, _⟩ := atI_of (zs := S36.cps.toList) x0 (by rw [S36_len]; rw [hM2] at x1; split at x1 <;> omega)
      have okc := sign_36 hM2 x0 x1 hc
      have hkl : k < ns.length := by rw [hn.1]; exact hk4
      obtain ⟨s, hs⟩ : ∃ s, ns[k]? = some s := ⟨_, List.getElem?_eq_getElem hkl⟩
      have as : atI (ns.map D.str) (k : Int) = some (.str s) := by rw [atI_nat (by simpa using hkl), List.getElem?_map, hs]; rfl
      have sl : s.length + (⟨#[c]⟩ : Str).length ≤ 16777216 := by
        have := (hn.2 k s hs).1
        rw [this, if_neg (Nat.lt_irrefl _)]
        show j + 1 ≤ _
        omega
      have st := set_lst (h := h ++ [.lst (ns.map D.str)]) (l := h.length) (k := k) (xs := ns.map D.str) (v := .str (s ++ ⟨#[c]⟩)) (by simp) (by simpa using hkl)
      have l36 : S36.length ≤ 16777216 := by decide +kernel
      have fin : G (k + 1) [some (.int cell), some (.str S36), some (.int sz), some (.int (drawI cell 58 sz)), some (.loc h.length), some (.int j), some (.int M), some (.int (drawI cell (60 + j) M)), some (.int (if (j : Int) = drawI cell 58 sz then 1 else 0)), some (.int k), some (.str ⟨#[c]⟩)] (h ++ [.lst ((ns.map D.str).set k (.str (s ++ ⟨#[c]⟩)))]) := by
        rw [hG, map_set_str]; exact ⟨_, _, _, rfl, names_set hn hs okc, rfl⟩
      simp [wp_v, ck, cm, hx, hc, l36, ix_lst, as, sl, st]
      exact fin
    · intro ds h' hj
      rw [hG] at hj
      obtain ⟨ns, e, f, rfl, hn, rfl⟩ := hj
      rw [hJ]
      refine ⟨ns, _, _, _, _, _, _, rfl, ⟨hn.1, fun i s hi => ?_⟩, rfl⟩
      have := hn.2 i s hi
      have il : i < 4 := by have := (List.getElem?_eq_some_iff.mp hi).1; rw [hn.1] at this; exact this
      rw [List.length_map, List.length_range, if_pos il] at this
      rw [if_neg (Nat.not_lt_zero _)]
      exact this
  · intro ds h' hj
    rw [hJ] at hj
    obtain ⟨ns, a, b, c, d', e, f, rfl, hn, rfl⟩ := hj
    have szl : (List.map (fun (i : Nat) => D.int (i : Int)) (List.range sz.toNat)).length = sz.toNat := by simp
    rw [szl] at hn
    have fl : nolocL (ns.map D.str) = true := by
      clear hn
      induction ns with
      | nil => rfl
      | cons s ns ih => simp [nolocL, noloc, ih]
    simp [nolocO, fl]
    refine ⟨ns, rfl, hn.1, fun s hs => ?_⟩
    obtain ⟨i, hi⟩ := List.mem_iff_getElem?.mp hs
    have := hn.2 i s hi
    rw [if_neg (Nat.not_lt_zero _)] at this
    exact namePre_name this (by omega) (by omega)
end DV
namespace DV
open PySem PySem.Spec PyProof.Rows L2
mutual
/-- names, counts of parts and numbers are as the document has them -/
def Tr.good : Tr → Prop
  | .bl k => 1 ≤ k ∧ k ≤ 1000000000
  | .bk s ps => nameB s = true ∧ ps.length ≤ 9 ∧ goodL ps
def goodL : List Tr → Prop
  | [] => True
  | t :: ts => t.good ∧ goodL ts
end
theorem goodL_iff : ∀ {ts : List Tr}, goodL ts ↔ ∀ t ∈ ts, t.good
  | [] => by simp [goodL]
  | t :: ts => by rw [goodL, goodL_iff]; simp
theorem names_at {ns : List Str} (h4 : ns.length = 4) {i : Int} (h0 : 0 ≤ i) (h1 : i < 4) : ∃ s, atI (ns.map D.str) i = some (.str s) ∧ s ∈ ns := by
  obtain ⟨z, hz, hz2⟩ := atI_of (zs := ns.map D.str) h0 (by rw [List.length_map, h4]; exact h1)
  have := List.mem_of_getElem? hz2
  obtain ⟨s, hs, rfl⟩ := List.mem_map.mp this
  exact ⟨s, hz, hs⟩
theorem leaf_ok (n : Nat) (h : Hs) (cell first shares : Int) (l : Nat) (ns : List Str) (hl : h[l]? = some (.lst (ns.map D.str))) (h4 : ns.length = 4) (hn : ∀ s ∈ ns, nameB s = true) :
    (F__law_leaf (n + 2) [.int cell, .int first, .loc l, .int shares] h).wp (fun d h' => h' = h ∧ ∃ t : Tr, d = tD t ∧ t.good ∧ t.parts = []) xF := by
  have dr : ∀ (k many : Int) (h : Hs), 0 < many → -1000000 ≤ k ∧ k ≤ 1000000 → F__law_draw (n + 1) [.int cell, .int k, .int many] h = .ok (.int (drawI cell k many)) h := fun k many h a b => draw_ok n h cell k many a b
  rw [S__law_leaf]
  have p9 : cPow 10 9 = true := cPow_of (by decide) (by decide) (by decide)
  have m9 : ∀ i, cMod i 1000000000 = true := fun _ => cMod_of (by decide)
  have f0 := Int.emod_nonneg first (show (1000000000 : Int) ≠ 0 by decide)
  have f1 := Int.emod_lt_of_pos first (show (0 : Int) < 1000000000 by decide)
  obtain ⟨z, hz, hz2⟩ := atI_of (zs := [D.int 1, .int 2, .int 7, .int 1000000000, .int (1 + first % 1000000000)]) (drawI_lt cell 4 (by decide : (0 : Int) < 5)).1 (drawI_lt cell 4 (by decide : (0 : Int) < 5)).2
  obtain ⟨m, rfl, m1, m2⟩ : ∃ m : Int, z = .int m ∧ 1 ≤ m ∧ m ≤ 1000000000 := by
    have := List.mem_of_getElem? hz2
    simp at this
    rcases this with rfl | rfl | rfl | rfl | rfl
    · exact ⟨_, rfl, by decide, by decide⟩
    · exact ⟨_, rfl, by decide, by decide⟩
    · exact ⟨_, rfl, by decide, by decide⟩
    · exact ⟨_, rfl, by decide, by decide⟩
    · exact ⟨_, rfl, by omega, by omega⟩
  obtain ⟨s, hs, hs2⟩ := names_at h4 (drawI_lt cell 2 (by decide : (0 : Int) < 4)).1 (drawI_lt cell 2 (by decide : (0 : Int) < 4)).2
  simp [wp_pure, wp_run, m__law_leaf, startD, wp_v, dr, p9, m9, ix_lst, hz, hl, hs]
  split
  · exact ⟨by simp [noloc, nolocL], .bl m, by simp [tD], ⟨m1, m2⟩, rfl⟩
  · exact ⟨by simp [noloc, nolocL], .bk s [], by simp [tD, tDs], ⟨hn s hs2, by simp, trivial⟩, rfl⟩
end DV
namespace DV
open PySem PySem.Spec PyProof.Rows L2
abbrev Fr := Str × Nat × List Tr
def fD (f : Fr) : D := .tup [.str f.1, .loc f.2.1]
/-- what stands in the heap: the old things, the names, the cells, the frames and their lists -/
structure FrI (h : Hs) (ns : List Str) (its : List D) (fr : List Fr) (h' : Hs) : Prop where
  pre : h'.take h.length = h
  nam : h'[h.length]? = some (.lst (ns.map D.str))
  cel : h'[h.length + 3]? = some (.lst its)
  frm : h'[h.length + 2]? = some (.lst (fr.map fD))
  par : ∀ f ∈ fr, h'[f.2.1]? = some (.lst (tDs f.2.2))
  dis : (fr.map (·.2.1)).Nodup
  low : ∀ f ∈ fr, h.length ≤ f.2.1 ∧ f.2.1 ≠ h.length ∧ f.2.1 ≠ h.length + 2 ∧ f.2.1 ≠ h.length + 3
section
variable {h h' : Hs} {ns : List Str} {its : List D} {fr : List Fr}
theorem FrI.lt (I : FrI h ns its fr h') : h.length + 3 < h'.length := (List.getElem?_eq_some_iff.mp I.cel).1
theorem FrI.plt (I : FrI h ns its fr h') {f : Fr} (hf : f ∈ fr) : f.2.1 < h'.length := (List.getElem?_eq_some_iff.mp (I.par f hf)).1
theorem take_set_ge {α : Type} {l : List α} {n k : Nat} {a : α} (hk : n ≤ k) : (l.set k a).take n = l.take n := by
  apply List.ext_getElem?
  intro i
  rw [List.getElem?_take, List.getElem?_take]
  split
  · rw [List.getElem?_set_ne (by omega)]
  · rfl
theorem FrI.grow (I : FrI h ns its fr h') (r : Hs) : FrI h ns its fr (h' ++ r) where
  pre := by rw [List.take_append_of_le_length (by have := I.lt; omega)]; exact I.pre
  nam := get_app I.nam
  cel := get_app I.cel
  frm := get_app I.frm
  par := fun f hf => get_app (I.par f hf)
  dis := I.dis
  low := I.low
/-- the frames' list written -/
theorem FrI.put (I : FrI h ns its fr h') (fr2 : List Fr) (hp : ∀ f ∈ fr2, h'[f.2.1]? = some (.lst (tDs f.2.2))) (hd : (fr2.map (·.2.1)).Nodup)
    (hl : ∀ f ∈ fr2, h.length ≤ f.2.1 ∧ f.2.1 ≠ h.length ∧ f.2.1 ≠ h.length + 2 ∧ f.2.1 ≠ h.length + 3) : FrI h ns its fr2 (h'.set (h.length + 2) (.lst (fr2.map fD))) where
  pre := by rw [take_set_ge (by omega)]; exact I.pre
  nam := by rw [List.getElem?_set_ne (by omega)]; exact I.nam
  cel := by rw [List.getElem?_set_ne (by omega)]; exact I.cel
  frm := by rw [List.getElem?_set_self (by have := I.lt; omega)]
  par := fun f hf => by rw [List.getElem?_set_ne (Ne.symm (hl f hf).2.2.1)]; exact hp f hf
  dis := hd
  low := hl
theorem FrI.pop {f : Fr} (I : FrI h ns its (fr ++ [f]) h') : FrI h ns its fr (h'.set (h.length + 2) (.lst (fr.map fD))) :=
  I.put fr (fun g hg => I.par g (List.mem_append_left _ hg)) (by have := I.dis; rw [List.map_append] at this; exact (List.nodup_append.mp this).1) fun g hg => I.low g (List.mem_append_left _ hg)
theorem FrI.push (I : FrI h ns its fr h') (s : Str) (ps : List Tr) : FrI h ns its (fr ++ [(s, h'.length, ps)]) ((h' ++ [AO.lst (tDs ps)] : Hs).set (h.length + 2) (.lst ((fr ++ [(s, h'.length, ps)]).map fD))) := by
  refine (I.grow [AO.lst (tDs ps)]).put _ (fun f hf => ?_) ?_ fun f hf => ?_
  · rcases List.mem_append.mp hf with hf | hf
    · exact get_app (I.par f hf)
    · cases List.mem_singleton.mp hf
      simp
  · rw [List.map_append]
    refine List.nodup_append.mpr ⟨I.dis, by simp, fun a ha b hb => ?_⟩
    obtain ⟨g, hg, rfl⟩ := List.mem_map.mp ha
    have : b = h'.length := by simpa using hb
    have := I.plt hg
    omega
  · rcases List.mem_append.mp hf with hf | hf
    · exact I.low f hf
    · cases List.mem_singleton.mp hf
      have := I.lt
      show h.length ≤ h'.length ∧ h'.length ≠ _ ∧ h'.length ≠ _ ∧ h'.length ≠ _
      omega
theorem tDs_app (ps : List Tr) (t : Tr) : tDs ps ++ [tD t] = tDs (ps ++ [t]) := by rw [tDs_map, tDs_map, List.map_append]; rfl
theorem FrI.app {s : Str} {l : Nat} {ps : List Tr} (I : FrI h ns its (fr ++ [(s, l, ps)]) h') (t : Tr) : FrI h ns its (fr ++ [(s, l, ps ++ [t])]) (h'.set l (.lst (tDs (ps ++ [t])))) := by
  have mem : (s, l, ps) ∈ fr ++ [(s, l, ps)] := by simp
  obtain ⟨l1, l2, l3, l4⟩ := I.low _ mem
  have ll := I.plt mem
  simp only at l1 l2 l3 l4 ll
  have dd : ∀ g ∈ fr, g.2.1 ≠ l := fun g hg z => by
    have := I.dis
    rw [List.map_append] at this
    exact (List.nodup_append.mp this).2.2 g.2.1 (List.mem_map.mpr ⟨g, hg, rfl⟩) l (by simp) z
  refine ⟨by rw [take_set_ge l1]; exact I.pre, by rw [List.getElem?_set_ne l2]; exact I.nam, by rw [List.getElem?_set_ne l4]; exact I.cel, ?_, fun f hf => ?_, ?_, fun f hf => ?_⟩
  · rw [List.getElem?_set_ne l3, I.frm, List.map_append, List.map_append]; rfl
  · rcases List.mem_append.mp hf with hf | hf
    · rw [List.getElem?_set_ne (Ne.symm (dd f hf))]; exact I.par f (List.mem_append_left _ hf)
    · cases List.mem_singleton.mp hf
      rw [List.getElem?_set_self ll]
  · have := I.dis
    rw [List.map_append] at this ⊢
    exact this
  · rcases List.mem_append.mp hf with hf | hf
    · exact I.low f (List.mem_append_left _ hf)
    · cases List.mem_singleton.mp hf
      exact ⟨l1, l2, l3, l4⟩
end
/-- knots begun in frames -/
def frK : List Fr → Nat
  | [] => 0
  | f :: fr => 1 + knotsL f.2.2 + frK fr
theorem frK_app : ∀ (a b : List Fr), frK (a ++ b) = frK a + frK b
  | [], b => by simp [frK]
  | f :: a, b => by rw [List.cons_append, frK, frK, frK_app a b]; omega
theorem knotsL_app (ps : List Tr) (t : Tr) : knotsL (ps ++ [t]) = knotsL ps + t.knots := by
  rw [knotsL_sum, knotsL_sum]; simp
theorem depthL_le {ps : List Tr} {n : Nat} : depthL ps ≤ n ↔ ∀ t ∈ ps, t.depth ≤ n := by
  induction ps with
  | nil => simp [depthL]
  | cons t ts ih => rw [depthL, Nat.max_le, ih]; simp
/-- the trees in frames: good, few; the lowest first -/
structure FrT (w : Nat) (fr : List Fr) (top : Fr) : Prop where
  nm : ∀ f ∈ fr ++ [top], nameB f.1 = true ∧ ∀ t ∈ f.2.2, t.good
  few : ∀ f ∈ fr, f.2.2.length ≤ 8
  few1 : top.2.2.length ≤ 9
  len : fr.length ≤ 9
  dep : ∀ j f, (fr ++ [top])[j]? = some f → ∀ t ∈ f.2.2, t.depth + j ≤ 10 + w
def lowN (fr : List Fr) (top : Fr) : Nat := match fr with
  | [] => top.2.2.length
  | b :: _ => b.2.2.length
section
variable {w : Nat} {fr : List Fr} {top g : Fr}
theorem FrT.good (T : FrT w fr top) : (Tr.bk top.1 top.2.2).good := by
  have := T.nm top (by simp)
  exact ⟨this.1, T.few1, goodL_iff.mpr this.2⟩
theorem FrT.depth (T : FrT w fr top) : (Tr.bk top.1 top.2.2).depth + fr.length ≤ 11 + w := by
  have : depthL top.2.2 + fr.length ≤ 10 + w := by
    by_cases z : fr.length ≤ 10 + w
    · have := depthL_le.mpr (fun t ht => by have := T.dep fr.length top (by simp) t ht; show t.depth ≤ 10 + w - fr.length; omega)
      omega
    · have := T.len; omega
  rw [Tr.depth]; omega
/-- a leaf, or a closed block -/
theorem FrT.add (T : FrT w fr top) {t : Tr} (ht : t.good) (hd : t.depth + fr.length ≤ 10 + w) (hl : top.2.2.length ≤ 8) : FrT w fr (top.1, top.2.1, top.2.2 ++ [t]) where
  nm := fun f hf => by
    rcases List.mem_append.mp hf with hf | hf
    · exact T.nm f (List.mem_append_left _ hf)
    · cases List.mem_singleton.mp hf
      have := T.nm top (by simp)
      refine ⟨this.1, fun u hu => ?_⟩
      rcases List.mem_append.mp hu with hu | hu
      · exact this.2 u hu
      · cases List.mem_singleton.mp hu; exact ht
  few := T.few
  few1 := by simp; omega
  len := T.len
  dep := fun j f e u hu => by
    by_cases z : j < fr.length
    · rw [List.getElem?_append_left z] at e
      exact T.dep j f (by rw [List.getElem?_append_left z]; exact e) u hu
    · have : j = fr.length := by have := (List.getElem?_eq_some_iff.mp e).1; simp at this; omega
      subst this
      simp at e
      subst e
      rcases List.mem_append.mp hu with hu | hu
      · exact T.dep fr.length top (by simp) u hu
      · cases List.mem_singleton.mp hu; exact hd
theorem FrT.open_ (T : FrT w fr top) {s : Str} {l : Nat} (hs : nameB s = true) (hl : top.2.2.length ≤ 8) (hf : fr.length ≤ 8) : FrT w (fr ++ [top]) (s, l, []) where
  nm := fun f hf => by
    rcases List.mem_append.mp hf with hf | hf
    · exact T.nm f hf
    · cases List.mem_singleton.mp hf
      exact ⟨hs, fun u hu => nomatch hu⟩
  few := fun f hf => by
    rcases List.mem_append.mp hf with hf | hf
    · exact T.few f hf
    · cases List.mem_singleton.mp hf; exact hl
  few1 := Nat.zero_le _
  len := by simp; omega
  dep := fun j f e u hu => by
    by_cases z : j < (fr ++ [top]).length
    · rw [List.getElem?_append_left z] at e
      exact T.dep j f e u hu
    · have : j = (fr ++ [top]).length := by have := (List.getElem?_eq_some_iff.mp e).1; simp at this z; simp; omega
      subst this
      simp only [List.getElem?_concat_length, Option.some.injEq] at e
      subst e
      exact nomatch hu
theorem FrT.close (T : FrT w (fr ++ [g]) top) : FrT w fr (g.1, g.2.1, g.2.2 ++ [.bk top.1 top.2.2]) := by
  have base : FrT w fr g := ⟨fun f hf => T.nm f (List.mem_append_left _ hf), fun f hf => T.few f (List.mem_append_left _ hf), by have := T.few g (by simp); omega, by have := T.len; simp at this; omega, fun j f e u hu => T.dep j f (by
    have hj := (List.getElem?_eq_some_iff.mp e).1
    rw [List.getElem?_append_left hj]; exact e) u hu⟩
  refine base.add T.good ?_ (T.few g (by simp))
  have := T.depth
  rw [List.length_append, List.length_singleton] at this
  omega
theorem FrT.wrap (T : FrT w [] top) {s : Str} {l : Nat} (hs : nameB s = true) : FrT (w + 1) [] (s, l, [.bk top.1 top.2.2]) where
  nm := fun f hf => by
    cases List.mem_singleton.mp hf
    exact ⟨hs, fun u hu => by cases List.mem_singleton.mp hu; exact T.good⟩
  few := fun f hf => nomatch hf
  few1 := by simp
  len := Nat.zero_le _
  dep := fun j f e u hu => by
    have : j = 0 := by have := (List.getElem?_eq_some_iff.mp e).1; simp at this; omega
    subst this
    cases e
    cases List.mem_singleton.mp hu
    have := T.depth
    simp at this
    omega
end
end DV
namespace DV
open PySem PySem.Spec PyProof.Rows L2
theorem tup_loc {h : Hs} {l : Nat} {xs : List D} (e : h[l]? = some (.lst xs)) : tupT [.loc l] h = some (.tup xs, h) := by simp [tupT, e]
theorem eqB_empty {h : Hs} {l : Nat} {xs : List D} (e : h[l]? = some (.lst xs)) : eqB (.loc l) (.loc h.length) (h ++ [AO.lst []]) = some xs.isEmpty := by
  have e1 : (h ++ [AO.lst []])[l]? = some (.lst xs) := get_app e
  have e2 : (h ++ [AO.lst []])[h.length]? = some (.lst []) := by simp
  cases xs with
  | nil =>
    rw [eqB_lst e1 e2 rfl rfl (Nat.zero_le _)]; simp
  | cons x xs => rw [eqB_len e1 e2 (by simp)]; rfl
theorem eq_empty {h : Hs} {l : Nat} {xs : List D} (e : h[l]? = some (.lst xs)) : eqF (.loc l) (.loc h.length) (h ++ [AO.lst []]) = some (.bl xs.isEmpty, h ++ [AO.lst []]) := by
  unfold eqF
  rw [eqB_empty e]; rfl
theorem cut62 (cs : List D) : cutL cs none (some 62) = cs.take 62 := by
  unfold cutL
  have e1 : HT.sIx cs.length 0 none = 0 := rfl
  have e2 : HT.sIx cs.length cs.length (some 62) = min 62 cs.length := HT.sIx_nat _ _ 62
  rw [e1, e2, List.drop_zero, Nat.sub_zero, ← List.take_take, List.take_length]
def treeS (lc : Nat) (first shares : Int) (h : Hs) (a b c d e f : Option D) : Sl := [some (.loc lc), some (.int first), some (.int shares), some (.loc h.length), some (.loc (h.length + 2)), a, b, c, d, e, f]
theorem law_tree_ok (n : Nat) (h : Hs) (lc : Nat) (cs : List Int) (first shares : Int) (hc : h[lc]? = some (.lst (cs.map D.int))) :
    (F__law_tree (n + 3) [.loc lc, .int first, .int shares] h).wp (fun d h' => h' = h ∧ ∃ t : Tr, d = tD t ∧ t.good ∧ t.knots ≤ 190 ∧ t.depth ≤ 28) xF := by
  have dr : ∀ (cell k many : Int) (h : Hs), 0 < many → -1000000 ≤ k ∧ k ≤ 1000000 → F__law_draw (n + 2) [.int cell, .int k, .int many] h = .ok (.int (drawI cell k many)) h := fun cell k many h a b => draw_ok (n + 1) h cell k many a b
  obtain ⟨dn, hn, en, ns, rfl, rfl, n4, ng⟩ := R.wp_ex (names_ok n h first)
  rw [S__law_tree, wp_pure]
  obtain ⟨s0, hs0, ms0⟩ := names_at n4 (show (0 : Int) ≤ 0 by decide) (by decide)
  have c2 : (h ++ [AO.lst (ns.map D.str), .lst [], .lst [.tup [.str s0, .loc (h.length + 1)]]])[lc]? = some (.lst (cs.map D.int)) := get_app hc
  simp only [wp_run, m__law_tree]
  simp [startD, wp_v, en, ix_lst, hs0, slF, c2, cut62, its_lst, Nat.add_assoc]
  obtain ⟨its, hits⟩ : ∃ its, its = (cs.map D.int).take 62 := ⟨_, rfl⟩
  have il : its.length ≤ 62 := by rw [hits]; simp; omega
  obtain ⟨J, hJ⟩ : ∃ J : Nat → Sl → Hs → Prop, J = fun i ds h' => ∃ (fr : List Fr) (top : Fr) (w : Nat) (a b c d e f : Option D), FrI h ns its (fr ++ [top]) h' ∧ FrT w fr top ∧ frK (fr ++ [top]) ≤ 1 + 3 * i ∧ 11 * w + lowN fr top ≤ 3 * i ∧ ds = treeS lc first shares h a b c d e f := ⟨_, rfl⟩
  have start : J 0 (treeS lc first shares h none none none none none none) (h ++ [AO.lst (ns.map D.str), .lst [], .lst [.tup [.str s0, .loc (h.length + 1)]], .lst its]) := by
    rw [hJ]
    refine ⟨[], (s0, h.length + 1, []), 0, none, none, none, none, none, none, ⟨?_, ?_, ?_, ?_, ?_, ?_, ?_⟩, ⟨?_, ?_, ?_, ?_, ?_⟩, by simp [frK, knotsL], by simp [lowN], rfl⟩
    all_goals simp [fD, tDs]
    · exact ng s0 ms0
    · intro j a b c e t ht
      have : j = 0 := by have := (List.getElem?_eq_some_iff.mp e).1; simp at this; exact this
      subst this
      cases e
      exact nomatch ht
  simp only [← hits]
  refine ws_loop _ J start (fun i ds h' j => by rw [hJ] at j; obtain ⟨_, _, _, _, _, _, _, _, _, I, _⟩ := j; exact I.cel) ?_ ?_
  · intro i d ds h' hd hj
    rw [hJ] at hj
    obtain ⟨fr, top, w, a, b, c, d', e, f, I, T, kn, pot, rfl⟩ := hj
    obtain ⟨cell, rfl⟩ : ∃ cell : Int, d = .int cell := by
      rw [hits] at hd
      have := List.mem_of_mem_take (List.mem_of_getElem? hd)
      obtain ⟨x, _, rfl⟩ := List.mem_map.mp this
      exact ⟨x, rfl⟩
    have i62 : i < 62 := by have := (List.getElem?_eq_some_iff.mp hd).1; omega
    have frm : h'[h.length + 2]? = some (.lst (fr.map fD ++ [.tup [.str top.1, .loc top.2.1]])) := by rw [I.frm, List.map_append]; rfl
    have pt : h'[top.2.1]? = some (.lst (tDs top.2.2)) := I.par top (by simp)
    have ck := ck_lst frm
    have cn := ck_lst pt
    obtain ⟨s1, hs1, ms1⟩ := names_at n4 (drawI_lt cell 2 (by decide : (0 : Int) < 4)).1 (drawI_lt cell 2 (by decide : (0 : Int) < 4)).2
    have c9 : ((top.2.2.length : Int) = 9) ↔ top.2.2.length = 9 := by omega
    have few := T.few1
    have low := I.low top (by simp)
    simp only [ws_nameG, treeS, List.set_cons_succ, List.set_cons_zero]
    refine st_set (.int (drawI cell 1 8)) h' (by simp [wp_v, dr]) ?_
    simp only [List.set_cons_succ, List.set_cons_zero]
    by_cases cA : top.2.2.length = 9 ∨ (drawI cell 1 8 = 0 ∧ 0 < fr.length)
    · refine st_if true h' ?_ ?_
      · by_cases z : top.2.2.length = 9
        · simp [wp_v, ix_lst frm, at_last, len_lst frm, len_lst pt, c9, z]
        · obtain ⟨z1, z2⟩ := cA.resolve_left z
          have z3 : (1 : Int) < (fr.length : Int) + 1 := by omega
          simp [wp_v, ix_lst frm, at_last, len_lst frm, len_lst pt, c9, z, z1, z3]
      · rw [if_pos rfl]
        have pop := pop_lst frm
        have I1 : FrI h ns its fr (h'.set (h.length + 2) (.lst (fr.map fD))) := I.pop
        generalize hh1 : h'.set (h.length + 2) (.lst (fr.map fD)) = h1 at pop I1
        have pt1 : h1[top.2.1]? = some (.lst (tDs top.2.2)) := by rw [← hh1, List.getElem?_set_ne (Ne.symm low.2.2.1)]; exact pt
        have emp := eq_empty I1.frm
        rcases List.eq_nil_or_concat fr with rfl | ⟨fr', g, rfl⟩
        · have l9 : top.2.2.length = 9 := cA.resolve_right fun z => absurd z.2 (by simp)
          have app := append_lst (h := h1 ++ [AO.lst [], AO.lst (tDs [.bk top.1 top.2.2])]) (l := h.length + 2) (xs := []) (v := .tup [.str s1, .loc (h1 ++ [AO.lst []]).length]) (get_app I1.frm) (by simp)
          have ckx := ck_lst (h := h1 ++ [AO.lst []]) (get_app I1.frm)
          have nm := get_app (r := [AO.lst []]) I1.nam
          have I2 := (I1.grow [AO.lst []]).push s1 [.bk top.1 top.2.2]
          have T2 := T.wrap (s := s1) (l := (h1 ++ [AO.lst []]).length) (ng s1 ms1)
          simp [tD, tDs] at app
          simp [wp_v, ck, pop, tup_loc pt1, emp, dr, ckx, ix_lst nm, hs1, app]
          rw [hJ]
          refine ⟨[], (s1, (h1 ++ [AO.lst []]).length, [.bk top.1 top.2.2]), w + 1, _, _, _, _, _, _, ?_, T2, ?_, ?_, rfl⟩
          · simpa [fD, tDs, tD] using I2
          · simp [frK, knotsL, Tr.knots] at kn ⊢; omega
          · simp [lowN] at pot ⊢; omega
        · rw [List.concat_eq_append] at *
          have ne : ((fr' ++ [g]).map fD).isEmpty = false := by simp
          rw [ne] at emp
          have pg : h1[g.2.1]? = some (.lst (tDs g.2.2)) := I1.par g (by simp)
          have frm1 : h1[h.length + 2]? = some (.lst (fr'.map fD ++ [.tup [.str g.1, .loc g.2.1]])) := by rw [I1.frm, List.map_append]; rfl
          have g8 := T.few g (by simp)
          have app := append_lst (h := h1 ++ [AO.lst []]) (v := tD (.bk top.1 top.2.2)) (get_app pg) (by simp; omega)
          rw [tDs_app] at app
          have ckg := ck_lst (h := h1 ++ [AO.lst []]) (get_app pg)
          have I2 := (I1.grow [AO.lst []]).app (.bk top.1 top.2.2)
          have T2 := T.close
          simp [tD] at app
          simp [wp_v, ck, pop, tup_loc pt1, emp, ix_lst (get_app (r := [AO.lst []]) frm1), at_last, ckg, app]
          rw [hJ]
          refine ⟨fr', (g.1, g.2.1, g.2.2 ++ [.bk top.1 top.2.2]), w, _, _, _, _, _, _, I2, T2, ?_, ?_, rfl⟩
          · simp only [frK_app, frK, knotsL_app, Tr.knots] at kn ⊢; omega
          · cases fr' with
            | nil => simp [lowN] at pot ⊢; omega
            | cons b r => simp [lowN] at pot ⊢; omega
    · have n9 : ¬ top.2.2.length = 9 := fun z => cA (.inl z)
      have n0 : ¬ (drawI cell 1 8 = 0 ∧ 0 < fr.length) := fun z => cA (.inr z)
      refine st_if false h' ?_ ?_
      · simp [wp_v, ix_lst frm, at_last, len_lst frm, len_lst pt, c9, n9]
        intro z
        have : ¬ 0 < fr.length := fun y => n0 ⟨z, y⟩
        omega
      · rw [if_neg Bool.false_ne_true]
        by_cases cB : drawI cell 1 8 < 4 ∧ fr.length ≤ 8
        · refine st_if true h' ?_ ?_
          · simp [wp_v, len_lst frm, cB]
            omega
          · rw [if_pos rfl]
            have app := append_lst (h := h' ++ [AO.lst []]) (v := .tup [.str s1, .loc h'.length]) (get_app frm) (by simp; omega)
            have ck2 := ck_lst (h := h' ++ [AO.lst []]) (get_app frm)
            have I2 := I.push s1 []
            have T2 := T.open_ (l := h'.length) (ng s1 ms1) (by omega) cB.2
            simp [wp_v, dr, ck, ix_lst I.nam, hs1, app]
            rw [hJ]
            refine ⟨fr ++ [top], (s1, h'.length, []), w, _, _, _, _, _, _, ?_, T2, ?_, ?_, rfl⟩
            · simpa [fD, tDs] using I2
            · rw [frK_app]; simp [frK, knotsL]; omega
            · have : lowN (fr ++ [top]) (s1, h'.length, []) = lowN fr top := by cases fr <;> rfl
              rw [this]; omega
        · refine st_if false h' ?_ ?_
          · simp [wp_v, len_lst frm]
            intro z
            have : ¬ fr.length ≤ 8 := fun y => cB ⟨z, y⟩
            omega
          · rw [if_neg Bool.false_ne_true]
            have d53 := drawI_lt cell 5 (many := 3) (by decide)
            obtain ⟨M, hM, M1, M2, M3⟩ : ∃ M : Int, (if (9 : Int) - (top.2.2.length : Int) < 1 + drawI cell 5 3 then 9 - (top.2.2.length : Int) else 1 + drawI cell 5 3) = M ∧ 1 ≤ M ∧ M ≤ 3 ∧ M ≤ 9 - (top.2.2.length : Int) := by
              split <;> exact ⟨_, rfl, by omega, by omega, by omega⟩
            have rM : inR M = true := inR_of (by omega) (by omega)
            simp [wp_v, ix_lst frm, at_last, len_lst pt, dr, hM, rM]
            obtain ⟨G, hG⟩ : ∃ G : Nat → Sl → Hs → Prop, G = fun k ds h' => ∃ (ps : List Tr) (f : Option D), FrI h ns its (fr ++ [(top.1, top.2.1, ps)]) h' ∧ FrT w fr (top.1, top.2.1, ps) ∧ ps.length = top.2.2.length + k ∧ knotsL ps = knotsL top.2.2 + k ∧ ds = treeS lc first shares h (some (.int cell)) (some (.int (drawI cell 1 8))) c d' e f := ⟨_, rfl⟩
            have startG : G 0 (treeS lc first shares h (some (.int cell)) (some (.int (drawI cell 1 8))) c d' e f) h' := by
              rw [hG]; exact ⟨top.2.2, f, I, T, rfl, rfl, rfl⟩
            refine ws_loop _ G startG (fun _ _ _ _ => trivial) ?_ ?_
            · intro k d ds h2 hd hj
              rw [hG] at hj
              obtain ⟨ps, f, I, T, pl, pk, rfl⟩ := hj
              have hk : k < M.toNat := by have := (List.getElem?_eq_some_iff.mp hd).1; simpa using this
              have ed : d = .int k := by
                rw [List.getElem?_map, List.getElem?_range hk] at hd
                exact (Option.some.inj hd).symm
              subst ed
              obtain ⟨ld, h3, le, e3, t, rfl, tg, tp⟩ := R.wp_ex (leaf_ok n h2 (cell + k) first shares h.length ns I.nam n4 ng)
              rw [e3] at le
              have frm : h2[h.length + 2]? = some (.lst (fr.map fD ++ [.tup [.str top.1, .loc top.2.1]])) := by rw [I.frm, List.map_append]; rfl
              have pt : h2[top.2.1]? = some (.lst (tDs ps)) := I.par (top.1, top.2.1, ps) (by simp)
              have cn := ck_lst pt
              have app := append_lst (v := tD t) pt (by simp; omega)
              rw [tDs_app] at app
              have kt : t.knots = 1 := by rw [knots_parts, tp]; rfl
              have dt : t.depth = 1 := by rw [depth_parts, tp]; rfl
              have fl := T.len
              have I2 := I.app t
              have T2 := T.add tg (by omega) (by show ps.length ≤ 8; omega)
              simp [treeS, wp_v, ix_lst frm, at_last, cn, le, app]
              rw [hG]
              refine ⟨ps ++ [t], _, I2, T2, by simp; omega, by rw [knotsL_app]; omega, rfl⟩
            · intro ds h2 hj
              rw [hG] at hj
              obtain ⟨ps, f, I, T, pl, pk, rfl⟩ := hj
              have ml : (List.map (fun (i : Nat) => D.int (i : Int)) (List.range M.toNat)).length = M.toNat := by simp
              rw [ml] at pl pk
              rw [hJ]
              refine ⟨fr, (top.1, top.2.1, ps), w, _, _, _, _, _, _, I, T, ?_, ?_, rfl⟩
              · simp only [frK_app, frK] at kn ⊢; omega
              · cases fr with
                | nil => simp [lowN] at pot ⊢; omega
                | cons b r => simp [lowN] at pot ⊢; omega
  · intro ds h' hj
    rw [hJ] at hj
    obtain ⟨fr, top, w, a, b, c, d', e, f, I, T, kn, pot, rfl⟩ := hj
    have w16 : w ≤ 16 := by omega
    have kn : frK (fr ++ [top]) ≤ 187 := by omega
    obtain ⟨G, hG⟩ : ∃ G : Nat → Sl → Hs → Prop, G = fun k ds h' => ∃ (fr : List Fr) (top : Fr) (c d : Option D), k = fr.length ∧ FrI h ns its (fr ++ [top]) h' ∧ FrT w fr top ∧ frK (fr ++ [top]) ≤ 187 ∧ ds = treeS lc first shares h a b c d e f := ⟨_, rfl⟩
    have startG : G fr.length (treeS lc first shares h a b c d' e f) h' := by rw [hG]; exact ⟨fr, top, c, d', rfl, I, T, kn, rfl⟩
    refine ws_while G FUEL fr.length (by have := T.len; unfold FUEL; omega) startG ?_
    intro k ds h' hj
    rw [hG] at hj
    obtain ⟨fr, top, c, d', rfl, I, T, kn, rfl⟩ := hj
    have frm : h'[h.length + 2]? = some (.lst (fr.map fD ++ [.tup [.str top.1, .loc top.2.1]])) := by rw [I.frm, List.map_append]; rfl
    have pt : h'[top.2.1]? = some (.lst (tDs top.2.2)) := I.par top (by simp)
    have low := I.low top (by simp)
    rcases List.eq_nil_or_concat fr with rfl | ⟨fr', g, rfl⟩
    · simp [treeS, wp_v, len_lst frm, ix_lst frm, tup_loc pt]
      have := T.depth
      have tg := T.good
      refine ⟨⟨?_, I.pre⟩, .bk top.1 top.2.2, by simp [tD], tg, ?_, ?_⟩
      · simp [noloc, nolocL, noloc_tDs]
      · simp [frK] at kn; rw [Tr.knots]; omega
      · simp at this; omega
    · rw [List.concat_eq_append] at *
      have pop := pop_lst frm
      have I1 : FrI h ns its (fr' ++ [g]) (h'.set (h.length + 2) (.lst ((fr' ++ [g]).map fD))) := I.pop
      generalize hh1 : h'.set (h.length + 2) (.lst ((fr' ++ [g]).map fD)) = h1 at pop I1
      have pt1 : h1[top.2.1]? = some (.lst (tDs top.2.2)) := by rw [← hh1, List.getElem?_set_ne (Ne.symm low.2.2.1)]; exact pt
      have pg : h1[g.2.1]? = some (.lst (tDs g.2.2)) := I1.par g (by simp)
      have frm1 : h1[h.length + 2]? = some (.lst (fr'.map fD ++ [.tup [.str g.1, .loc g.2.1]])) := by rw [I1.frm, List.map_append]; rfl
      have g8 := T.few g (by simp)
      have app := append_lst (v := tD (.bk top.1 top.2.2)) pg (by simp; omega)
      rw [tDs_app] at app
      have ckg := ck_lst pg
      have ck := ck_lst frm
      have I2 := I1.app (.bk top.1 top.2.2)
      have T2 := T.close
      simp [tD] at app
      have lt1 : (1 : Int) < (((fr' ++ [g]).map fD ++ [D.tup [.str top.1, .loc top.2.1]]).length : Int) := by simp; omega
      simp [treeS, wp_v, len_lst frm, lt1, ck, pop, tup_loc pt1, ix_lst frm1, at_last, ckg, app]
      rw [if_pos (by omega), hG]
      refine ⟨fr'.length, by omega, fr', (g.1, g.2.1, g.2.2 ++ [.bk top.1 top.2.2]), _, _, rfl, I2, T2, ?_, rfl⟩
      simp only [frK_app, frK, knotsL_app, Tr.knots] at kn ⊢; omega
end DV
namespace DV
open PySem PySem.Spec PyProof.Rows L2
mutual
def Tr.places : Tr → List (List Nat × Tr)
  | .bl k => [([], .bl k)]
  | .bk s ps => ([], .bk s ps) :: placesL 0 ps
def placesL (k : Nat) : List Tr → List (List Nat × Tr)
  | [] => []
  | t :: ts => (t.places.map fun p => (k :: p.1, p.2)) ++ placesL (k + 1) ts
end
theorem places_parts (t : Tr) : t.places = ([], t) :: placesL 0 t.parts := by cases t <;> simp [Tr.places, Tr.parts, placesL]
/-- the places of a tree that stands at a place -/
def placesAt (pl : List Nat) (t : Tr) : List (List Nat × Tr) := t.places.map fun p => (pl ++ p.1, p.2)
def placesAtL (pl : List Nat) (k : Nat) : List Tr → List (List Nat × Tr)
  | [] => []
  | t :: ts => placesAt (pl ++ [k]) t ++ placesAtL pl (k + 1) ts
theorem placesAtL_eq (pl : List Nat) : ∀ (ts : List Tr) (k : Nat), placesAtL pl k ts = (placesL k ts).map fun p => (pl ++ p.1, p.2)
  | [], k => rfl
  | t :: ts, k => by
    rw [placesAtL, placesL, List.map_append, placesAtL_eq pl ts, placesAt, List.map_map]
    congr 1
    apply List.map_congr_left
    intro p _
    simp
theorem placesAt_parts (pl : List Nat) (t : Tr) : placesAt pl t = (pl, t) :: placesAtL pl 0 t.parts := by
  rw [placesAt, places_parts, List.map_cons, placesAtL_eq]
  simp
theorem placesAt_nil (t : Tr) : placesAt [] t = t.places := by simp [placesAt]
def plInts (p : List Nat) : List D := p.map fun (k : Nat) => D.int (k : Int)
def plD (p : List Nat × Tr) : D := .tup [.tup (plInts p.1), tD p.2]
theorem noloc_pl (p : List Nat) : nolocL (plInts p) = true := by
  induction p with
  | nil => rfl
  | cons k p ih => simp [plInts, nolocL, noloc] at ih ⊢; exact ih
theorem noloc_pls (ps : List (List Nat × Tr)) : nolocL (ps.map plD) = true := by
  induction ps with
  | nil => rfl
  | cons p ps ih => simp [nolocL, noloc, plD, noloc_pl, noloc_tD, ih]
mutual
theorem places_len : ∀ t : Tr, t.places.length = t.knots
  | .bl k => by simp [Tr.places, Tr.knots]
  | .bk s ps => by rw [Tr.places, Tr.knots, List.length_cons, placesL_len ps 0]; omega
theorem placesL_len : ∀ (ts : List Tr) (k : Nat), (placesL k ts).length = knotsL ts
  | [], k => by simp [placesL, knotsL]
  | t :: ts, k => by rw [placesL, List.length_append, List.length_map, places_len t, placesL_len ts, knotsL]
end
theorem ne_empty {h : Hs} {l : Nat} {xs : List D} (e : h[l]? = some (.lst xs)) : neF (.loc l) (.loc h.length) (h ++ [AO.lst []]) = some (.bl (!xs.isEmpty), h ++ [AO.lst []]) := by
  unfold neF
  rw [eqB_empty e]; rfl
@[simp] theorem rng3_int {i j : Int} : rng3 [.int i, .int j, .int (-1)] = if inR i = true ∧ inR j = true then some ((List.range (i - j).toNat).map fun (t : Nat) => .int (i - (t : Int))) else none := by
  unfold rng3
  simp
/-- what waits: the last one first -/
def waitP : List (List Nat × Tr) → List (List Nat × Tr)
  | [] => []
  | p :: r => placesAt p.1 p.2 ++ waitP r
def waitK : List (List Nat × Tr) → Nat
  | [] => 0
  | p :: r => p.2.knots + waitK r
/-- the parts as they are laid upon the pile, from number k on -/
def pile (pl : List Nat) (k : Nat) : List Tr → List (List Nat × Tr)
  | [] => []
  | t :: ts => (pl ++ [k], t) :: pile pl (k + 1) ts
theorem waitP_pile (pl : List Nat) (r : List (List Nat × Tr)) : ∀ (ts : List Tr) (k : Nat), waitP (pile pl k ts ++ r) = placesAtL pl k ts ++ waitP r
  | [], k => rfl
  | t :: ts, k => by
    show placesAt (pl ++ [k]) t ++ waitP (pile pl (k + 1) ts ++ r) = _
    rw [waitP_pile pl r ts, placesAtL, List.append_assoc]
theorem waitK_pile (pl : List Nat) (r : List (List Nat × Tr)) : ∀ (ts : List Tr) (k : Nat), waitK (pile pl k ts ++ r) = knotsL ts + waitK r
  | [], k => by simp [pile, knotsL]
  | t :: ts, k => by
    show t.knots + waitK (pile pl (k + 1) ts ++ r) = _
    rw [waitK_pile pl r ts, knotsL]; omega
theorem pile_get (pl : List Nat) : ∀ (ts : List Tr) (k i : Nat) (t : Tr), ts[i]? = some t → (pile pl k ts).drop i = (pl ++ [k + i], t) :: (pile pl k ts).drop (i + 1)
  | [], k, i, t, e => by simp at e
  | u :: ts, k, 0, t, e => by simp at e; subst e; simp [pile]
  | u :: ts, k, i + 1, t, e => by
    simp at e
    have := pile_get pl ts (k + 1) i t e
    simp only [pile, List.drop_succ_cons]
    rw [this]
    have : k + 1 + i = k + (i + 1) := by omega
    rw [this]
theorem pile_len (pl : List Nat) : ∀ (ts : List Tr) (k : Nat), (pile pl k ts).length = ts.length
  | [], k => rfl
  | t :: ts, k => by simp [pile, pile_len pl ts]
mutual
theorem place_len : ∀ (t : Tr) (p : List Nat × Tr), p ∈ t.places → p.1.length + p.2.depth ≤ t.depth
  | .bl k, p, h => by
    rw [Tr.places] at h
    cases List.mem_singleton.mp h
    simp [Tr.depth]
  | .bk s ps, p, h => by
    rw [Tr.places] at h
    rcases List.mem_cons.mp h with rfl | h
    · simp
    · have := placeL_len ps 0 p h
      rw [Tr.depth]; omega
theorem placeL_len : ∀ (ts : List Tr) (k : Nat) (p : List Nat × Tr), p ∈ placesL k ts → p.1.length + p.2.depth ≤ 1 + depthL ts
  | [], k, p, h => by rw [placesL] at h; exact nomatch h
  | t :: ts, k, p, h => by
    rw [placesL] at h
    rw [depthL]
    rcases List.mem_append.mp h with h | h
    · obtain ⟨q, hq, rfl⟩ := List.mem_map.mp h
      have := place_len t q hq
      simp only [List.length_cons]
      omega
    · have := placeL_len ts (k + 1) p h
      omega
end
mutual
theorem depth_knots : ∀ t : Tr, t.depth ≤ t.knots
  | .bl k => by simp [Tr.depth, Tr.knots]
  | .bk s ps => by rw [Tr.depth, Tr.knots]; have := depthL_knots ps; omega
theorem depthL_knots : ∀ ts : List Tr, depthL ts ≤ knotsL ts
  | [] => Nat.le_refl _
  | t :: ts => by rw [depthL, knotsL]; have := depth_knots t; have := depthL_knots ts; omega
end
theorem waitP_len : ∀ w : List (List Nat × Tr), (waitP w).length = waitK w
  | [] => rfl
  | p :: r => by rw [waitP, List.length_append, placesAt, List.length_map, places_len, waitP_len r, waitK]
theorem wait_len : ∀ w : List (List Nat × Tr), w.length ≤ waitK w
  | [] => Nat.le_refl _
  | p :: r => by rw [waitK, List.length_cons]; have := wait_len r; have := knots_pos p.2; omega
theorem law_places_ok (n : Nat) (h : Hs) (t : Tr) (hk : t.knots ≤ 100000 - 1) : F__law_places (n + 1) [tD t] h = .ok (.loc h.length) (h ++ [.lst (t.places.map plD)]) := by
  refine R.wp_eq.mp ?_
  rw [S__law_places]
  refine wp_new ?_
  simp [wp_run, m__law_places, startD, wp_v, Nat.add_assoc]
  obtain ⟨J, hJ⟩ : ∃ J : Nat → Sl → Hs → Prop, J = fun k ds h' => ∃ (found wait : List (List Nat × Tr)) (r : Hs) (c d e : Option D), k = waitK wait ∧ h' = h ++ (.lst (found.map plD) :: .lst (wait.reverse.map plD) :: r) ∧ found ++ waitP wait = t.places ∧ ds = [some (tD t), some (.loc h.length), some (.loc (h.length + 1)), c, d, e] := ⟨_, rfl⟩
  have start : J t.knots [some (tD t), some (.loc h.length), some (.loc (h.length + 1)), none, none, none] (h ++ [AO.lst [], AO.lst [D.tup [D.tup [], tD t]]]) := by
    rw [hJ]
    exact ⟨[], [([], t)], [], none, none, none, by simp [waitK], by simp [plD, plInts], by simp [waitP, placesAt_nil], rfl⟩
  refine ws_while J FUEL t.knots (by unfold FUEL; omega) start ?_
  intro k ds h' hj
  rw [hJ] at hj
  obtain ⟨found, wait, r, c, d, e, rfl, rfl, inv, rfl⟩ := hj
  have ef : ∀ (a b : List D) (r : Hs), (h ++ (AO.lst a :: AO.lst b :: r))[h.length]? = some (.lst a) := fun a b r => by simp
  have ew : ∀ (a b : List D) (r : Hs), (h ++ (AO.lst a :: AO.lst b :: r))[h.length + 1]? = some (.lst b) := fun a b r => by simp
  have ne := ne_empty (ew (found.map plD) (wait.reverse.map plD) r)
  cases wait with
  | nil =>
    have ne2 := ne
    simp at ne2
    simp [wp_v, ne2]
    simp [waitP] at inv
    subst inv
    simp [nolocO, noloc_pls]
  | cons p rest =>
    obtain ⟨pl, u⟩ := p
    have lens : found.length + 1 ≤ t.knots := by
      have := congrArg List.length inv
      rw [List.length_append, places_len, waitP, List.length_append, placesAt, List.length_map, places_len] at this
      simp only at this
      have := knots_pos u
      omega
    have inv2 : (found ++ [(pl, u)]) ++ waitP (pile pl 0 u.parts ++ rest) = t.places := by
      rw [← inv, waitP_pile, waitP, placesAt_parts]
      simp
    have wk : waitK (pile pl 0 u.parts ++ rest) + 1 = waitK ((pl, u) :: rest) := by
      rw [waitK_pile, waitK]
      have := knots_parts u
      simp only
      omega
    have fin : ∀ (F W : List D) (r : Hs) (c d e : Option D), F = (found ++ [(pl, u)]).map plD → W = (pile pl 0 u.parts ++ rest).reverse.map plD → ∃ j, j < waitK ((pl, u) :: rest) ∧ J j [some (tD t), some (.loc h.length), some (.loc (h.length + 1)), c, d, e] (h ++ (.lst F :: .lst W :: r)) := by
      rintro F W r c d e rfl rfl
      refine ⟨waitK (pile pl 0 u.parts ++ rest), by omega, ?_⟩
      rw [hJ]
      exact ⟨_, _, r, c, d, e, rfl, rfl, inv2, rfl⟩
    obtain ⟨F, hF⟩ : ∃ F, F = found.map plD := ⟨_, rfl⟩
    obtain ⟨R0, hR⟩ : ∃ R0, R0 = rest.reverse.map plD := ⟨_, rfl⟩
    have e1 : ((pl, u) :: rest).reverse.map plD = R0 ++ [.tup [.tup (plInts pl), tD u]] := by rw [hR]; simp [plD]
    have Fl : F.length < 16777216 := by rw [hF, List.length_map]; omega
    rw [e1, ← hF] at ne ⊢
    have pop := pop_lst (h := h ++ (AO.lst F :: AO.lst (R0 ++ [.tup [.tup (plInts pl), tD u]]) :: (r ++ [AO.lst []]))) (ew _ _ _)
    have app := append_lst (h := h ++ (AO.lst F :: AO.lst R0 :: (r ++ [AO.lst []]))) (v := .tup [.tup (plInts pl), tD u]) (ef _ _ _) Fl
    have ck1 := ck_lst (ew F (R0 ++ [.tup [.tup (plInts pl), tD u]]) (r ++ [AO.lst []]))
    have ck2 := ck_lst (ef F R0 (r ++ [AO.lst []]))
    simp at pop app ne
    simp [wp_v, ne, ck1, pop, ck2, app]
    have total : waitK (pile pl 0 u.parts ++ rest) + found.length + 1 = t.knots := by
      have := congrArg List.length inv2
      rw [List.length_append, waitP_len, places_len, List.length_append, List.length_singleton] at this
      omega
    have wl := wait_len (pile pl 0 u.parts ++ rest)
    rw [List.length_append, pile_len] at wl
    cases u with
    | bl b =>
      simp [tD]
      exact fin _ _ _ _ _ _ (by rw [hF]; simp [plD, tD]) (by rw [hR]; simp [pile, Tr.parts])
    | bk s ps =>
      have pk : ps.length + rest.length ≤ 99999 := by simp only [Tr.parts] at wl total; omega
      have r1 : inR ((ps.length : Int) - 1) = true := inR_of (by omega) (by omega)
      have r2 : inR (-1) = true := inR_of (by decide) (by decide)
      have rl : (ps.length : Int) - 1 - -1 = ps.length := by omega
      simp [tD, r1, r2, rl]
      obtain ⟨G, hG⟩ : ∃ G : Nat → Sl → Hs → Prop, G = fun i ds h' => ∃ (W : List D) (r : Hs) (e : Option D), W = ((pile pl 0 ps).drop (ps.length - i) ++ rest).reverse.map plD ∧ h' = h ++ (.lst (F ++ [.tup [.tup (plInts pl), tD (.bk s ps)]]) :: .lst W :: r) ∧ ds = [some (tD t), some (.loc h.length), some (.loc (h.length + 1)), some (.tup (plInts pl)), some (tD (.bk s ps)), e] := ⟨_, rfl⟩
      have startG : G 0 [some (tD t), some (.loc h.length), some (.loc (h.length + 1)), some (.tup (plInts pl)), some (tD (.bk s ps)), e] (h ++ (.lst (F ++ [.tup [.tup (plInts pl), tD (.bk s ps)]]) :: .lst R0 :: (r ++ [AO.lst []]))) := by
        rw [hG]
        refine ⟨R0, _, _, ?_, rfl, rfl⟩
        have : (pile pl 0 ps).drop (ps.length - 0) = [] := by rw [List.drop_eq_nil_iff, pile_len]; omega
        rw [this, hR]; rfl
      simp [tD] at startG
      refine ws_loop _ G startG (fun _ _ _ _ => trivial) ?_ ?_
      · intro i d ds h' hd hj
        rw [hG] at hj
        obtain ⟨W, r, e, hW, rfl, rfl⟩ := hj
        have hi : i < ps.length := by have := (List.getElem?_eq_some_iff.mp hd).1; simpa using this
        have ed : d = .int ((ps.length - 1 - i : Nat) : Int) := by
          rw [List.getElem?_map, List.getElem?_range hi] at hd
          have e : (ps.length : Int) - 1 - (i : Int) = ((ps.length - 1 - i : Nat) : Int) := by omega
          rw [← e]
          exact (Option.some.inj hd).symm
        subst ed
        obtain ⟨p, hp⟩ : ∃ p, ps[ps.length - 1 - i]? = some p := ⟨_, List.getElem?_eq_getElem (by omega)⟩
        have ap : atI (tDs ps) ((ps.length - 1 - i : Nat) : Int) = some (tD p) := by
          rw [atI_nat (by rw [tDs_len]; omega), tDs_map, List.getElem?_map, hp]; rfl
        have pg := pile_get pl ps 0 (ps.length - 1 - i) p hp
        have Wl : W.length < 16777216 := by rw [hW]; simp [pile_len]; omega
        have app := append_lst (h := h ++ (AO.lst (F ++ [.tup [.tup (plInts pl), tD (.bk s ps)]]) :: AO.lst W :: r)) (v := .tup [.tup (plInts pl ++ [.int ((ps.length - 1 - i : Nat) : Int)]), tD p]) (ew _ _ _) Wl
        have ckw := ck_lst (ew (F ++ [.tup [.tup (plInts pl), tD (.bk s ps)]]) W r)
        have pll : (plInts pl).length + 1 ≤ 16777216 := by
          have mem : (pl, Tr.bk s ps) ∈ t.places := by rw [← inv2]; simp
          have q := place_len t _ mem
          have := depth_knots t
          simp only [plInts, List.length_map] at q ⊢
          omega
        simp [tD] at app ckw
        simp [tD, wp_v, ckw, pll, ap, app]
        rw [hG]
        refine ⟨_, r, some (.int ((ps.length - 1 - i : Nat) : Int)), ?_, rfl, by simp [tD]⟩
        have e1 : ps.length - (i + 1) = ps.length - 1 - i := by omega
        have e2 : ps.length - 1 - i + 1 = ps.length - i := by omega
        rw [e1, pg, e2, hW]
        simp [plD, plInts]
      · intro ds h' hj
        rw [hG] at hj
        obtain ⟨W, r, e, hW, rfl, rfl⟩ := hj
        rw [List.length_map, List.length_range] at hW
        have := fin (F ++ [.tup [.tup (plInts pl), tD (.bk s ps)]]) W r (some (.tup (plInts pl))) (some (tD (.bk s ps))) e (by rw [hF]; simp [plD]) (by rw [hW]; simp [Tr.parts])
        simp [tD] at this
        exact this
end DV
namespace DV
open PySem PySem.Spec PyProof.Rows L2
mutual
def pdat : D → Bool
  | .int _ => true
  | .str s => PyData.strOk s
  | .tup ds => decide (ds.length ≤ 1000000) && pdatL ds
  | .non => false
  | .bl _ => false
  | .loc _ => false
  | .ro _ => false
  | .exn _ => false
def pdatL : List D → Bool
  | [] => true
  | d :: ds => pdat d && pdatL ds
end
theorem pdatL_mem : ∀ {ds : List D} {d : D}, pdatL ds = true → d ∈ ds → pdat d = true
  | e :: ds, d, p, h => by
    rw [pdatL, Bool.and_eq_true] at p
    rcases List.mem_cons.mp h with rfl | h
    · exact p.1
    · exact pdatL_mem p.2 h
theorem depL_mem : ∀ {ds : List D} {d : D}, d ∈ ds → depD d ≤ depL ds
  | e :: ds, d, h => by
    rw [depL]
    rcases List.mem_cons.mp h with rfl | h
    · exact Nat.le_max_left _ _
    · exact Nat.le_trans (depL_mem h) (Nat.le_max_right _ _)
theorem alike_refl (h : Hs) : ∀ (n : Nat) (d : D), pdat d = true → depD d + 1 ≤ n → F__law_alike n [d, d] h = .ok (.bl true) h
  | 0, d, _, hn => by omega
  | n + 1, d, p, hn => by
    rw [S__law_alike]
    refine R.wp_eq.mp ?_
    cases d with
    | int i => simp [wp_pure, wp_run, m__law_alike, startD, wp_v, isF, tyD, isB, truD, noloc]
    | str s =>
      have so : PyData.strOk s = true := by unfold pdat at p; exact p
      simp [wp_pure, wp_run, m__law_alike, startD, wp_v, isF, tyD, isB, truD, noloc, eq_strs so so]
    | tup ds =>
      unfold pdat at p
      rw [Bool.and_eq_true, decide_eq_true_eq] at p
      obtain ⟨p1, p2⟩ := p
      have rr : inR ds.length = true := inR_of (by omega) (by omega)
      unfold depD at hn
      simp [wp_pure, wp_run, m__law_alike, startD, wp_v, isF, tyD, isB, truD, noloc, rr]
      obtain ⟨J, hJ⟩ : ∃ J : Nat → Sl → Hs → Prop, J = fun i ds' h' => h' = h ∧ ∃ y, ds' = [some (.tup ds), some (.tup ds), y] := ⟨_, rfl⟩
      refine ws_loop _ J (by rw [hJ]; exact ⟨rfl, _, rfl⟩) (fun _ _ _ _ => trivial) ?_ ?_
      · intro i d ds' h' hd hj
        rw [hJ] at hj
        obtain ⟨rfl, y, rfl⟩ := hj
        have hi : i < ds.length := by have := (List.getElem?_eq_some_iff.mp hd).1; simpa using this
        have ed : d = .int i := by
          rw [List.getElem?_map, List.getElem?_range hi] at hd
          exact (Option.some.inj hd).symm
        subst ed
        obtain ⟨x, hx⟩ : ∃ x, ds[i]? = some x := ⟨_, List.getElem?_eq_getElem hi⟩
        have ax : atI ds (i : Int) = some x := by rw [atI_nat hi, hx]
        have mx := List.mem_of_getElem? hx
        have ih := alike_refl h' n x (pdatL_mem p2 mx) (by have := depL_mem mx; omega)
        have fin : J (i + 1) [some (.tup ds), some (.tup ds), some (.int i)] h' := by rw [hJ]; exact ⟨rfl, _, rfl⟩
        simp [wp_v, ax, ih, truD]
        exact fin
      · intro ds' h' hj
        rw [hJ] at hj
        rw [hj.1, List.take_length]
    | non => unfold pdat at p; cases p
    | bl b => unfold pdat at p; cases p
    | loc b => unfold pdat at p; cases p
    | ro b => unfold pdat at p; cases p
    | exn b => unfold pdat at p; cases p
theorem strOk_name {s : Str} (h : nameB s = true) : PyData.strOk s = true := by
  unfold nameB at h
  rw [Bool.and_eq_true, nameL_iff] at h
  obtain ⟨_, _, h⟩ := h
  unfold PyData.strOk
  rw [Array.all_eq_true]
  intro i hi
  have e : s.cps.toList[i]? = some s.cps[i] := by rw [Array.getElem?_toList]; exact Array.getElem?_eq_getElem hi
  have := h i _ e
  unfold okAt at this
  simp only [Bool.or_eq_true, Bool.and_eq_true, decide_eq_true_eq] at this
  have small : ∀ c, c ∈ smallS.cps → c < 0x110000 := by decide +kernel
  have fig : ∀ c, c ∈ figS.cps → c < 0x110000 := by decide +kernel
  rcases this with z | ⟨_, z⟩
  · exact decide_eq_true (small _ z)
  · exact decide_eq_true (fig _ z)
mutual
theorem pdat_tD : ∀ {t : Tr}, t.good → pdat (tD t) = true
  | .bl k, _ => by simp [tD, pdat, pdatL]
  | .bk s ps, g => by
    obtain ⟨g1, g2, g3⟩ := g
    have e1 : decide (ps.length ≤ 1000000) = true := decide_eq_true (by omega)
    simp [tD, pdat, pdatL, strOk_name g1, pdat_tDs g3]
    omega
theorem pdat_tDs : ∀ {ts : List Tr}, goodL ts → pdatL (tDs ts) = true
  | [], _ => by simp [tDs, pdatL]
  | t :: ts, g => by simp [tDs, pdatL, pdat_tD g.1, pdat_tDs g.2]
end
mutual
theorem dep_tD : ∀ t : Tr, depD (tD t) ≤ 2 * t.depth
  | .bl k => by simp [tD, depD, depL, Tr.depth]
  | .bk s ps => by
    have := dep_tDs ps
    simp [tD, depD, depL, Tr.depth]
    omega
theorem dep_tDs : ∀ ts : List Tr, depL (tDs ts) ≤ 2 * depthL ts
  | [] => by simp [tDs, depL]
  | t :: ts => by
    have := dep_tD t
    have := dep_tDs ts
    simp only [tDs, depL, depthL]
    omega
end
theorem alike_tree (h : Hs) {n : Nat} {t : Tr} (g : t.good) (hn : 2 * t.depth + 1 ≤ n) : F__law_alike n [tD t, tD t] h = .ok (.bl true) h := alike_refl h n _ (pdat_tD g) (by have := dep_tD t; omega)
end DV
namespace DV
open PySem PySem.Spec PyProof.Rows L2
@[simp] theorem ix_ro {h : Hs} {ns : List Int} {i : Int} : ixF (.ro ns) (.int i) h = (atI ns i).map fun n => (.int n, h) := rfl
def cellI (ns : List Int) (k : Nat) : Int := (ns[k]?).getD 0
theorem cell_ok (n : Nat) (h : Hs) (ns : List Int) (k : Nat) : F__law_cell_at (n + 1) [.ro ns, .int k] h = .ok (.int (cellI ns k)) h := by
  rw [S__law_cell_at]
  refine R.wp_eq.mp ?_
  by_cases c : k < ns.length
  · have e : atI ns (k : Int) = some ns[k] := by rw [atI_nat c, List.getElem?_eq_getElem c]
    have e2 : cellI ns k = ns[k] := by unfold cellI; rw [List.getElem?_eq_getElem c]; rfl
    simp [wp_pure, wp_run, m__law_cell_at, startD, wp_v, c, e, e2, noloc]
  · have e2 : cellI ns k = 0 := by unfold cellI; rw [List.getElem?_eq_none (by omega)]; rfl
    simp [wp_pure, wp_run, m__law_cell_at, startD, wp_v, c, e2, noloc]
theorem cell0_ok (n : Nat) (h : Hs) (ns : List Int) : F__law_cell_at (n + 1) [.ro ns, .int 0] h = .ok (.int (cellI ns 0)) h := cell_ok n h ns 0
theorem slF_lst {h : Hs} {l : Nat} {xs : List D} {lo hi : Option Int} (e : h[l]? = some (.lst xs)) : slF (.loc l) lo hi h = some (.loc h.length, h ++ [.lst (cutL xs lo hi)]) := by simp [slF, e]
theorem cut_to {α : Type} (xs : List α) (k : Nat) : cutL xs none (some (k : Int)) = xs.take k := by
  unfold cutL
  have e1 : HT.sIx xs.length 0 none = 0 := rfl
  rw [e1, HT.sIx_nat, List.drop_zero, Nat.sub_zero, ← List.take_take, List.take_length]
/-- the tree of the first family at the law's start -/
theorem start_tree (n : Nat) (h : Hs) (l : Nat) (cs : List Int) (first shares : Int) (hc : h[l]? = some (.lst (cs.map D.int))) :
    ∃ t : Tr, F__law_tree (n + 3) [.loc l, .int first, .int shares] h = .ok (tD t) h ∧ t.good ∧ t.knots ≤ 190 ∧ t.depth ≤ 28 := by
  obtain ⟨d, h', e, rfl, t, rfl, g⟩ := R.wp_ex (law_tree_ok n h l cs first shares hc)
  exact ⟨t, e, g⟩
theorem bl_small (k : Int) : (Tr.bl k).knots ≤ 190 ∧ (Tr.bl k).depth ≤ 28 := ⟨by simp [Tr.knots], by simp [Tr.depth]⟩
@[simp] theorem p109 : cPow 10 9 = true := cPow_of (by decide) (by decide) (by decide)
@[simp] theorem p108 : cPow 10 8 = true := cPow_of (by decide) (by decide) (by decide)
@[simp] theorem p106 : cPow 10 6 = true := cPow_of (by decide) (by decide) (by decide)
@[simp] theorem m109 (i : Int) : cMod i 1000000000 = true := cMod_of (by decide)
@[simp] theorem pl_len (p : List Nat) : (plInts p).length = p.length := by simp [plInts]
end DV
namespace DV
open PySem PySem.Spec PyProof.Rows L2
def Tr.at_ : Tr → List Int → Option Tr
  | t, [] => some t
  | t, k :: p => if 0 ≤ k ∧ k < t.parts.length then (t.parts[k.toNat]?).bind fun u => u.at_ p else none
def plZ (p : List Int) : List D := p.map D.int
end DV
namespace DV
open PySem PySem.Spec PyProof.Rows L2
end DV
namespace DV
open PySem PySem.Spec PyProof.Rows L2
/-- those not yet there, one behind the other -/
def addNew : List Int → List Int → List Int
  | acc, [] => acc
  | acc, k :: ks => addNew (if k ∈ acc then acc else acc ++ [k]) ks
mutual
def Tr.blanks : Tr → List Int
  | .bl k => [k]
  | .bk _ ps => blanksL [] ps
def blanksL (acc : List Int) : List Tr → List Int
  | [] => acc
  | t :: ts => blanksL (addNew acc t.blanks) ts
end
mutual
/-- all blanks as they stand -/
def Tr.allB : Tr → List Int
  | .bl k => [k]
  | .bk _ ps => allBL ps
def allBL : List Tr → List Int
  | [] => []
  | t :: ts => t.allB ++ allBL ts
end
theorem addNew_app : ∀ (xs ys acc : List Int), addNew acc (xs ++ ys) = addNew (addNew acc xs) ys
  | [], ys, acc => rfl
  | x :: xs, ys, acc => by rw [List.cons_append, addNew, addNew, addNew_app xs ys]
theorem mem_addNew {k : Int} : ∀ (xs acc : List Int), k ∈ addNew acc xs ↔ k ∈ acc ∨ k ∈ xs
  | [], acc => by simp [addNew]
  | x :: xs, acc => by
    rw [addNew, mem_addNew xs]
    split
    · rename_i h
      constructor
      · rintro (a | a)
        · exact .inl a
        · exact .inr (List.mem_cons_of_mem _ a)
      · rintro (a | a)
        · exact .inl a
        · rcases List.mem_cons.mp a with rfl | a
          · exact .inl h
          · exact .inr a
    · simp only [List.mem_append, List.mem_cons, List.not_mem_nil, or_false]
      constructor
      · rintro ((a | a) | a)
        · exact .inl a
        · exact .inr (.inl a)
        · exact .inr (.inr a)
      · rintro (a | a | a)
        · exact .inl (.inl a)
        · exact .inl (.inr a)
        · exact .inr a
/-- adding what was gathered apart is adding all -/
theorem addNew_gather : ∀ (xs acc b : List Int), addNew acc (addNew b xs) = addNew (addNew acc b) xs
  | [], acc, b => rfl
  | x :: xs, acc, b => by
    rw [addNew, addNew, addNew_gather xs acc]
    congr 1
    split
    · rename_i h
      rw [if_pos ((mem_addNew b acc).mpr (.inr h))]
    · rw [addNew_app]
      rfl
mutual
theorem blanks_all : ∀ t : Tr, t.blanks = addNew [] t.allB
  | .bl k => by simp [Tr.blanks, Tr.allB, addNew]
  | .bk s ps => by rw [Tr.blanks, Tr.allB, blanksL_all ps]
theorem blanksL_all : ∀ (ts : List Tr) (acc : List Int), blanksL acc ts = addNew acc (allBL ts)
  | [], acc => by simp [blanksL, allBL, addNew]
  | t :: ts, acc => by
    rw [blanksL, allBL, blanksL_all ts, addNew_app, blanks_all t, addNew_gather]
    rfl
end
mutual
theorem allB_len : ∀ t : Tr, t.allB.length ≤ t.knots
  | .bl k => by simp [Tr.allB, Tr.knots]
  | .bk s ps => by rw [Tr.allB, Tr.knots]; have := allBL_len ps; omega
theorem allBL_len : ∀ ts : List Tr, (allBL ts).length ≤ knotsL ts
  | [] => by simp [allBL]
  | t :: ts => by rw [allBL, knotsL, List.length_append]; have := allB_len t; have := allBL_len ts; omega
end
theorem addNew_len : ∀ (xs acc : List Int), (addNew acc xs).length ≤ acc.length + xs.length
  | [], acc => by simp [addNew]
  | x :: xs, acc => by
    rw [addNew]
    have := addNew_len xs (if x ∈ acc then acc else acc ++ [x])
    split at this <;> (simp at this ⊢; rename_i h; simp [h]; omega)
theorem blanks_len (t : Tr) : t.blanks.length ≤ t.knots := by
  rw [blanks_all]
  have h1 := addNew_len t.allB []
  have h2 := allB_len t
  rw [List.length_nil] at h1
  omega
theorem blanksL_snoc (u : Tr) : ∀ (ts : List Tr) (acc : List Int), blanksL acc (ts ++ [u]) = addNew (blanksL acc ts) u.blanks
  | [], acc => by simp [blanksL]
  | t :: ts, acc => by rw [List.cons_append, blanksL, blanksL, blanksL_snoc u ts]
theorem ints_flat (xs : List Int) : (xs.map D.int).all flatD = true := by
  rw [List.all_map]
  exact List.all_eq_true.mpr fun _ _ => rfl
theorem inFlat_ints (k : Int) : ∀ xs : List Int, inFlat (.int k) (xs.map D.int) = decide (k ∈ xs)
  | [] => by simp [inFlat]
  | x :: xs => by
    have ih := inFlat_ints k xs
    unfold inFlat at ih ⊢
    rw [List.map_cons, List.any_cons, ih]
    show ((x == k) || _) = _
    by_cases c : k = x
    · subst c; simp
    · have : (x == k) = false := by simpa using Ne.symm c
      rw [this]
      simp [c]
theorem nin_ints {h : Hs} {l : Nat} {xs : List Int} {k : Int} (e : h[l]? = some (.lst (xs.map D.int))) : ninF (.int k) (.loc l) h = some (.bl (!decide (k ∈ xs)), h) := by
  simp only [ninF, inB, e, ints_flat, inFlat_ints, flatD, Bool.and_self, if_true]
  rfl
theorem noloc_ints (xs : List Int) : nolocL (xs.map D.int) = true := by
  induction xs with
  | nil => rfl
  | cons x xs ih => simp [nolocL, noloc, ih]
theorem blanks_of_ok : ∀ (n : Nat) (h : Hs) (t : Tr), t.depth ≤ n → t.knots ≤ 1000000 → F_blanks_of n [tD t] h = .ok (.loc h.length) (h ++ [.lst (t.blanks.map D.int)])
  | 0, h, t, hn, _ => by rw [depth_parts] at hn; omega
  | n + 1, h, .bl k, hn, hk => by
    rw [S_blanks_of]
    refine R.wp_eq.mp (wp_new ?_)
    simp [wp_run, m_blanks_of, startD, wp_v, tD, nolocO, nolocL, noloc, Tr.blanks]
  | n + 1, h, .bk s ps, hn, hk => by
    rw [S_blanks_of]
    refine R.wp_eq.mp (wp_new ?_)
    rw [Tr.depth] at hn
    rw [Tr.knots] at hk
    simp [wp_run, m_blanks_of, startD, wp_v, tD]
    obtain ⟨J, hJ⟩ : ∃ J : Nat → Sl → Hs → Prop, J = fun i ds h' => ∃ r b c, h' = h ++ (.lst ((blanksL [] (ps.take i)).map D.int) :: r) ∧ ds = [some (tD (.bk s ps)), some (.loc h.length), b, c] := ⟨_, rfl⟩
    have start : J 0 [some (tD (.bk s ps)), some (.loc h.length), none, none] (h ++ [.lst []]) := by rw [hJ]; exact ⟨[], _, _, rfl, rfl⟩
    simp [tD] at start
    refine ws_loop _ J start (fun _ _ _ _ => trivial) ?_ ?_
    · intro i d ds h' hd hj
      rw [hJ] at hj
      obtain ⟨r, b, c, rfl, rfl⟩ := hj
      obtain ⟨u, hu, rfl⟩ := tDs_get hd
      have mu := List.mem_of_getElem? hu
      have du := depth_mem mu
      have ku := knots_mem mu
      have ih := blanks_of_ok n (h ++ (.lst ((blanksL [] (ps.take i)).map D.int) :: r)) u (by omega) (by omega)
      have e1 : ps.take (i + 1) = ps.take i ++ [u] := by rw [List.take_add_one, hu]; rfl
      have e2 : blanksL [] (ps.take (i + 1)) = addNew (blanksL [] (ps.take i)) u.blanks := by rw [e1, blanksL_snoc]
      have al : (blanksL [] (ps.take i)).length ≤ 1000000 := by
        have a1 := blanks_len (.bk s (ps.take i))
        rw [Tr.blanks, Tr.knots] at a1
        have a2 : knotsL (ps.take i) ≤ knotsL ps := by
          rw [knotsL_sum, knotsL_sum]
          have : (ps.map Tr.knots).sum = ((ps.take i).map Tr.knots).sum + ((ps.drop i).map Tr.knots).sum := by
            rw [← List.sum_append, ← List.map_append, List.take_append_drop]
          omega
        omega
      have bl := blanks_len u
      generalize blanksL [] (ps.take i) = acc at ih e2 al ⊢
      have gi : ∀ (x : AO), (h ++ (x :: (r ++ [AO.lst (u.blanks.map D.int)])))[h.length + (r.length + 1)]? = some (.lst (u.blanks.map D.int)) := fun x => by simp
      have ii := its_lst (gi (.lst (acc.map D.int)))
      simp at ih
      simp [wp_v, ih, ii]
      obtain ⟨G, hG⟩ : ∃ G : Nat → Sl → Hs → Prop, G = fun k ds h' => ∃ c, h' = h ++ (.lst ((addNew acc (u.blanks.take k)).map D.int) :: (r ++ [AO.lst (u.blanks.map D.int)])) ∧ ds = [some (tD (.bk s ps)), some (.loc h.length), some (tD u), c] := ⟨_, rfl⟩
      have startG : G 0 [some (tD (.bk s ps)), some (.loc h.length), some (tD u), c] (h ++ (.lst (acc.map D.int) :: (r ++ [AO.lst (u.blanks.map D.int)]))) := by rw [hG]; exact ⟨_, rfl, rfl⟩
      refine ws_loop _ G startG (fun k ds h' j => by rw [hG] at j; obtain ⟨_, rfl, _⟩ := j; exact gi _) ?_ ?_
      · intro k d ds h' hd hj
        rw [hG] at hj
        obtain ⟨c, rfl, rfl⟩ := hj
        rw [List.getElem?_map] at hd
        cases q : u.blanks[k]? with
        | none => rw [q] at hd; cases hd
        | some x =>
          rw [q] at hd
          cases hd
          have e3 : u.blanks.take (k + 1) = u.blanks.take k ++ [x] := by rw [List.take_add_one, q]; rfl
          have e4 : addNew acc (u.blanks.take (k + 1)) = if x ∈ addNew acc (u.blanks.take k) then addNew acc (u.blanks.take k) else addNew acc (u.blanks.take k) ++ [x] := by rw [e3, addNew_app]; rfl
          have ln := addNew_len (u.blanks.take k) acc
          rw [List.length_take] at ln
          generalize addNew acc (u.blanks.take k) = A at e4 ln ⊢
          have gA : (h ++ (AO.lst (A.map D.int) :: (r ++ [AO.lst (u.blanks.map D.int)])))[h.length]? = some (.lst (A.map D.int)) := by simp
          have ck := ck_lst gA
          have app := append_lst (v := .int x) gA (by simp; omega)
          simp at app
          by_cases z : x ∈ A
          · have fin : G (k + 1) [some (tD (.bk s ps)), some (.loc h.length), some (tD u), some (.int x)] (h ++ (.lst (A.map D.int) :: (r ++ [AO.lst (u.blanks.map D.int)]))) := by
              rw [hG]; exact ⟨_, by rw [e4, if_pos z], rfl⟩
            simp [wp_v, nin_ints gA, z]
            exact fin
          · have fin : G (k + 1) [some (tD (.bk s ps)), some (.loc h.length), some (tD u), some (.int x)] (h ++ (.lst (A.map D.int ++ [.int x]) :: (r ++ [AO.lst (u.blanks.map D.int)]))) := by
              rw [hG]; exact ⟨_, by rw [e4, if_neg z, List.map_append]; rfl, rfl⟩
            simp [wp_v, nin_ints gA, z, ck, app]
            exact fin
      · intro ds h' hj
        rw [hG] at hj
        obtain ⟨c, rfl, rfl⟩ := hj
        rw [List.length_map, List.take_length, ← e2]
        rw [hJ]
        exact ⟨_, _, _, rfl, rfl⟩
    · intro ds h' hj
      rw [hJ] at hj
      obtain ⟨r, b, c, rfl, rfl⟩ := hj
      rw [tDs_len, List.take_length]
      simp [wp_v, nolocO, noloc_ints, Tr.blanks]
end DV
namespace DV
open PySem PySem.Spec PyProof.Rows L2
section
variable {α : Type}
def mD (f : α → D) (fs : List (Int × α)) : List (Key × D) := fs.map fun p => (.inl p.1, f p.2)
def mAt (fs : List (Int × α)) (k : Int) : Option α := (fs.find? fun p => decide (p.1 = k)).map (·.2)
def mPut (fs : List (Int × α)) (k : Int) (t : α) : List (Int × α) := if (fs.any fun p => decide (p.1 = k)) = true then fs.map (fun p => if p.1 = k then (p.1, t) else p) else fs ++ [(k, t)]
@[simp] theorem mD_len (f : α → D) (fs : List (Int × α)) : (mD f fs).length = fs.length := List.length_map _
theorem val_mD (f : α → D) (k : Int) : ∀ fs : List (Int × α), valD (mD f fs) (.inl k : Key) = (mAt fs k).map f
  | [] => rfl
  | (j, a) :: fs => by
    have ih := val_mD f k fs
    unfold valD mAt mD at ih ⊢
    rw [List.map_cons, List.find?_cons, List.find?_cons]
    by_cases c : j = k
    · subst c; simp
    · simp only [c, Sum.inl.injEq, decide_false]
      exact ih
theorem put_mD (f : α → D) (fs : List (Int × α)) (k : Int) (t : α) : putD (mD f fs) (.inl k : Key) (f t) = mD f (mPut fs k t) := by
  have e : ((mD f fs).any fun p => decide (p.1 = (.inl k : Key))) = fs.any fun p => decide (p.1 = k) := by
    unfold mD
    rw [List.any_map]
    congr 1
    funext p
    simp
  unfold putD mPut
  rw [e]
  split
  · unfold mD
    rw [List.map_map, List.map_map]
    congr 1
    funext p
    simp only [Function.comp_apply, Sum.inl.injEq]
    split <;> rfl
  · unfold mD
    rw [List.map_append]; rfl
theorem mAt_cons (j k : Int) (a : α) (fs : List (Int × α)) : mAt ((j, a) :: fs) k = if j = k then some a else mAt fs k := by
  unfold mAt
  rw [List.find?_cons]
  by_cases c : j = k
  · simp [c]
  · simp [c]
theorem mAt_app (xs ys : List (Int × α)) (k : Int) : mAt (xs ++ ys) k = (mAt xs k).or (mAt ys k) := by
  induction xs with
  | nil => simp [mAt]
  | cons p xs ih =>
    obtain ⟨j, a⟩ := p
    rw [List.cons_append, mAt_cons, mAt_cons, ih]
    split <;> rfl
theorem mAt_none {fs : List (Int × α)} {k : Int} : mAt fs k = none ↔ k ∉ fs.map (·.1) := by
  induction fs with
  | nil => simp [mAt]
  | cons p fs ih =>
    obtain ⟨j, a⟩ := p
    rw [mAt_cons]
    by_cases c : j = k
    · simp [c]
    · have : ¬ k = j := fun e => c e.symm
      simp [c, ih, this]
theorem mAt_mem {fs : List (Int × α)} {k : Int} {a : α} (h : mAt fs k = some a) : (k, a) ∈ fs := by
  induction fs with
  | nil => simp [mAt] at h
  | cons p fs ih =>
    obtain ⟨j, b⟩ := p
    rw [mAt_cons] at h
    split at h
    · rename_i c
      cases h
      rw [c]; exact List.mem_cons_self
    · exact List.mem_cons_of_mem _ (ih h)
theorem mAt_of {fs : List (Int × α)} {k : Int} {a : α} (nd : (fs.map (·.1)).Nodup) (h : (k, a) ∈ fs) : mAt fs k = some a := by
  induction fs with
  | nil => cases h
  | cons p fs ih =>
    obtain ⟨j, b⟩ := p
    rw [mAt_cons]
    rw [List.map_cons, List.nodup_cons] at nd
    rcases List.mem_cons.mp h with e | h
    · cases e; simp
    · have : j ≠ k := fun e => nd.1 (List.mem_map.mpr ⟨(k, a), h, e.symm⟩)
      rw [if_neg this]
      exact ih nd.2 h
theorem mAt_isSome {fs : List (Int × α)} {k : Int} : (mAt fs k).isSome = decide (k ∈ fs.map (·.1)) := by
  by_cases c : k ∈ fs.map (·.1)
  · rw [decide_eq_true c]
    cases e : mAt fs k with
    | none => exact absurd c (mAt_none.mp e)
    | some _ => rfl
  · rw [decide_eq_false c, mAt_none.mpr c]; rfl
theorem any_key {fs : List (Int × α)} {k : Int} : (fs.any fun p => decide (p.1 = k)) = decide (k ∈ fs.map (·.1)) := by
  induction fs with
  | nil => rfl
  | cons p fs ih =>
    rw [List.any_cons, ih]
    by_cases c : p.1 = k
    · simp [c]
    · have : ¬ k = p.1 := fun e => c e.symm
      simp [c, this]
theorem mPut_new {fs : List (Int × α)} {k : Int} {a : α} (h : k ∉ fs.map (·.1)) : mPut fs k a = fs ++ [(k, a)] := by
  unfold mPut
  rw [any_key, decide_eq_false h]; rfl
theorem mPut_keys (fs : List (Int × α)) (k : Int) (a : α) : (mPut fs k a).map (·.1) = if k ∈ fs.map (·.1) then fs.map (·.1) else fs.map (·.1) ++ [k] := by
  unfold mPut
  rw [any_key]
  by_cases c : k ∈ fs.map (·.1)
  · rw [decide_eq_true c, if_pos rfl, if_pos c, List.map_map]
    congr 1
    funext p
    simp only [Function.comp_apply]
    split <;> rfl
  · rw [decide_eq_false c, if_neg (by simp), if_neg c, List.map_append]; rfl
theorem mPut_nodup {fs : List (Int × α)} (k : Int) (a : α) (nd : (fs.map (·.1)).Nodup) : ((mPut fs k a).map (·.1)).Nodup := by
  rw [mPut_keys]
  split
  · exact nd
  · rename_i c
    refine List.nodup_append.mpr ⟨nd, by simp, fun x hx y hy e => c ?_⟩
    have : y = k := by simpa using hy
    rw [← this, ← e]; exact hx
theorem mPut_len (fs : List (Int × α)) (k : Int) (a : α) : (mPut fs k a).length ≤ fs.length + 1 := by
  unfold mPut
  split <;> simp
theorem mAt_put (fs : List (Int × α)) (k j : Int) (a : α) : mAt (mPut fs k a) j = if j = k then some a else mAt fs j := by
  unfold mPut
  rw [any_key]
  by_cases c : k ∈ fs.map (·.1)
  · rw [decide_eq_true c, if_pos rfl]
    induction fs with
    | nil => cases c
    | cons p fs ih =>
      obtain ⟨i, b⟩ := p
      rw [List.map_cons, mAt_cons]
      by_cases ci : i = k
      · simp only [ci, if_true]
        rw [mAt_cons]
        by_cases cj : k = j
        · simp [cj]
        · rw [if_neg cj]
          have : ¬ j = k := fun e => cj e.symm
          rw [if_neg this, if_neg cj]
          by_cases c2 : k ∈ fs.map (·.1)
          · rw [ih c2, if_neg this]
          · congr 1
            refine (List.map_congr_left fun p hp => ?_).trans (List.map_id _)
            have : p.1 ≠ k := fun e => c2 (List.mem_map.mpr ⟨p, hp, e⟩)
            simp [this]
      · have c2 : k ∈ fs.map (·.1) := by
          rcases List.mem_cons.mp c with e | e
          · exact absurd e.symm ci
          · exact e
        simp only [if_neg ci]
        rw [mAt_cons, ih c2]
        by_cases cj : i = j
        · have : ¬ j = k := fun e => ci (cj.trans e)
          simp [cj, this]
        · simp [cj]
  · rw [decide_eq_false c, if_neg (by simp), mAt_app, mAt_cons]
    by_cases cj : j = k
    · rw [if_pos cj, cj, mAt_none.mpr c]; simp
    · have : ¬ k = j := fun e => cj e.symm
      rw [if_neg cj, if_neg this]
      cases mAt fs j <;> rfl
end
mutual
def Tr.fill (f : Int → Option Tr) : Tr → Tr
  | .bl k => (f k).getD (.bl k)
  | .bk s ps => .bk s (fillL f ps)
def fillL (f : Int → Option Tr) : List Tr → List Tr
  | [] => []
  | t :: ts => t.fill f :: fillL f ts
end
theorem fillL_map (f : Int → Option Tr) : ∀ ts : List Tr, fillL f ts = ts.map (Tr.fill f)
  | [] => rfl
  | t :: ts => by rw [fillL, fillL_map f ts]; rfl
@[simp] theorem fillL_len (f : Int → Option Tr) (ts : List Tr) : (fillL f ts).length = ts.length := by rw [fillL_map, List.length_map]
/-- one filling behind the other -/
def behind (f g : Int → Option Tr) : Int → Option Tr := fun k => match f k with
  | some u => some (u.fill g)
  | none => g k
mutual
theorem fill_good {f : Int → Option Tr} : ∀ t : Tr, t.good → (∀ k ∈ t.allB, ∀ u, f k = some u → u.good) → (t.fill f).good
  | .bl k, g, h => by
    rw [Tr.fill]
    cases e : f k with
    | none => exact g
    | some u => exact h k (by simp [Tr.allB]) u e
  | .bk s ps, g, h => by
    rw [Tr.fill]
    exact ⟨g.1, by rw [fillL_len]; exact g.2.1, fillL_good ps g.2.2 fun k hk => h k (by rw [Tr.allB]; exact hk)⟩
theorem fillL_good {f : Int → Option Tr} : ∀ ts : List Tr, goodL ts → (∀ k ∈ allBL ts, ∀ u, f k = some u → u.good) → goodL (fillL f ts)
  | [], _, _ => trivial
  | t :: ts, g, h => by
    rw [fillL]
    exact ⟨fill_good t g.1 fun k hk => h k (by rw [allBL]; exact List.mem_append_left _ hk), fillL_good ts g.2 fun k hk => h k (by rw [allBL]; exact List.mem_append_right _ hk)⟩
end
theorem tDs_mapF (f : Int → Option Tr) (ts : List Tr) : tDs (fillL f ts) = ts.map fun t => tD (t.fill f) := by
  rw [fillL_map, tDs_map, List.map_map]; rfl
theorem exchanged_ok : ∀ (n : Nat) (h : Hs) (l : Nat) (fs : List (Int × Tr)) (t : Tr), h[l]? = some (.dct (mD tD fs)) → t.depth ≤ n → t.knots ≤ 1000000 → F_exchanged n [tD t, .loc l] h = .ok (tD (t.fill (mAt fs))) h
  | 0, h, l, fs, t, _, hn, _ => by rw [depth_parts] at hn; omega
  | n + 1, h, l, fs, .bl k, e, _, _ => by
    rw [S_exchanged]
    refine R.wp_eq.mp ?_
    have g := get_dct (x := tD (.bl k)) (k := .int k) (kk := .inl k) e rfl
    rw [val_mD] at g
    have e2 : ((mAt fs k).map tD).getD (tD (.bl k)) = tD ((Tr.bl k).fill (mAt fs)) := by
      rw [Tr.fill]
      cases mAt fs k <;> rfl
    rw [e2] at g
    have nl := noloc_tD ((Tr.bl k).fill (mAt fs))
    generalize tD ((Tr.bl k).fill (mAt fs)) = d at g nl ⊢
    simp [tD] at g
    simp [wp_pure, wp_run, m_exchanged, startD, wp_v, tD, ck_dct e, g, nl]
  | n + 1, h, l, fs, .bk s ps, e, hn, hk => by
    have hl := len_knotsL ps
    rw [Tr.depth] at hn
    rw [Tr.knots] at hk
    have lc := lc_map1 (h0 := h) (gd := fun _ => True) (i := 2) (ds := [some (tD (.bk s ps)), some (.loc l), none]) (A := callM (F_exchanged n) (consA (vM 2) (consA (vM 1) nilA))) (tDs ps) (ps.map fun t => tD (t.fill (mAt fs))) (by simp) (by simp; omega) (fun _ => trivial) (fun k d y acc e1 e2 => by
      obtain ⟨p, hp, rfl⟩ := tDs_get e1
      rw [List.getElem?_map, hp] at e2
      cases e2
      have hm := List.mem_of_getElem? hp
      have := depth_mem hm
      have := knots_mem hm
      have ih := exchanged_ok n (h ++ [.lst acc]) l fs p (get_app e) (by omega) (by omega)
      refine R.wp_eq.mp ?_
      simp [wp_v, ih])
    rw [← tDs_mapF] at lc
    rw [S_exchanged]
    refine R.wp_eq.mp ?_
    rw [Tr.fill]
    have nl := noloc_tDs (fillL (mAt fs) ps)
    have tl : ∀ x, tupT [.loc h.length] (h ++ [AO.lst x]) = some (.tup x, h ++ [AO.lst x]) := fun x => tup_loc (by simp)
    simp [tD] at lc
    simp [wp_pure, wp_run, m_exchanged, startD, wp_v, tD, lc, tl, noloc, nolocL, nl]
theorem law_exchanged_eq : ∀ n, F__law_exchanged n = F_exchanged n
  | 0 => rfl
  | n + 1 => by
    rw [S__law_exchanged, S_exchanged, law_exchanged_eq n]; rfl
def numF (i : Nat) : List Int → List (Int × Tr)
  | [] => []
  | b :: bs => (b, .bl ((i : Int) + 1)) :: numF (i + 1) bs
@[simp] theorem numF_len : ∀ (bs : List Int) (i : Nat), (numF i bs).length = bs.length
  | [], _ => rfl
  | b :: bs, i => by rw [numF, List.length_cons, numF_len bs]; rfl
end DV
namespace DV
open PySem PySem.Spec PyProof.Rows L2
theorem mem_blanks {t : Tr} {k : Int} : k ∈ t.blanks ↔ k ∈ t.allB := by rw [blanks_all, mem_addNew]; simp
end DV
namespace DV
open PySem PySem.Spec PyProof.Rows L2
def szD (p : Nat × Nat) : D := .tup [.int (p.1 : Int), .int (p.2 : Int)]
def Tr.size (t : Tr) : Nat × Nat := (t.knots, t.depth)
theorem knotsL_snoc (u : Tr) : ∀ ts : List Tr, knotsL (ts ++ [u]) = knotsL ts + u.knots
  | [] => by simp [knotsL]
  | t :: ts => by rw [List.cons_append, knotsL, knotsL, knotsL_snoc u ts]; omega
theorem depthL_snoc (u : Tr) : ∀ ts : List Tr, depthL (ts ++ [u]) = max (depthL ts) u.depth
  | [] => by simp [depthL]
  | t :: ts => by rw [List.cons_append, depthL, depthL, depthL_snoc u ts]; omega
theorem allB_mem {u : Tr} {ts : List Tr} {k : Int} (h : u ∈ ts) (hk : k ∈ u.allB) : k ∈ allBL ts := by
  induction ts with
  | nil => cases h
  | cons t ts ih =>
    rw [allBL]
    rcases List.mem_cons.mp h with e | h
    · rw [← e]; exact List.mem_append_left _ hk
    · exact List.mem_append_right _ (ih h)
theorem size_filled_ok : ∀ (n : Nat) (h : Hs) (l : Nat) (ss : List (Int × (Nat × Nat))) (f : Int → Option Tr) (t : Tr), h[l]? = some (.dct (mD szD ss)) → (∀ k ∈ t.allB, mAt ss k = (f k).map Tr.size) → t.depth ≤ n →
    F_size_filled n [tD t, .loc l] h = .ok (szD (t.fill f).size) h
  | 0, h, l, ss, f, t, _, _, hn => by rw [depth_parts] at hn; omega
  | n + 1, h, l, ss, f, .bl k, e, hs, _ => by
    rw [S_size_filled]
    refine R.wp_eq.mp ?_
    have g := get_dct (x := szD (1, 1)) (k := .int k) (kk := .inl k) e rfl
    rw [val_mD, hs k (by simp [Tr.allB])] at g
    have e2 : (((f k).map Tr.size).map szD).getD (szD (1, 1)) = szD ((Tr.bl k).fill f).size := by
      rw [Tr.fill]
      cases f k <;> rfl
    rw [e2] at g
    generalize ((Tr.bl k).fill f).size = z at g ⊢
    simp [szD] at g
    simp [wp_pure, wp_run, m_size_filled, startD, wp_v, tD, ck_dct e, g, szD, noloc, nolocL]
  | n + 1, h, l, ss, f, .bk s ps, e, hs, hn => by
    rw [Tr.depth] at hn
    rw [S_size_filled]
    refine R.wp_eq.mp ?_
    rw [wp_pure, wp_run]
    refine ⟨rfl, ?_⟩
    unfold m_size_filled
    simp only [startD, List.map_cons, List.map_nil, List.length_cons, List.length_nil]
    simp [wp_v, tD]
    obtain ⟨J, hJ⟩ : ∃ J : Nat → Sl → Hs → Prop, J = fun i ds h' => h' = h ∧ ∃ a b, ds = [some (tD (.bk s ps)), some (.loc l), some (.int ((1 + knotsL (fillL f (ps.take i)) : Nat) : Int)), some (.int (depthL (fillL f (ps.take i)) : Int)), a, b] := ⟨_, rfl⟩
    refine ws_loop _ J (by rw [hJ]; exact ⟨rfl, _, _, rfl⟩) (fun _ _ _ _ => trivial) ?_ ?_
    · intro i d ds h' hd hj
      rw [hJ] at hj
      obtain ⟨rfl, a, b, rfl⟩ := hj
      obtain ⟨u, hu, rfl⟩ := tDs_get hd
      have mu := List.mem_of_getElem? hu
      have du := depth_mem mu
      have ih := size_filled_ok n h' l ss f u e (fun k hk => hs k (by rw [Tr.allB]; exact allB_mem mu hk)) (by omega)
      have e1 : ps.take (i + 1) = ps.take i ++ [u] := by rw [List.take_add_one, hu]; rfl
      have e2 : fillL f (ps.take (i + 1)) = fillL f (ps.take i) ++ [u.fill f] := by rw [fillL_map, fillL_map, e1, List.map_append]; rfl
      have fin : ∀ (x y : Int) (b : Option D), x = ((1 + knotsL (fillL f (ps.take (i + 1))) : Nat) : Int) → y = (depthL (fillL f (ps.take (i + 1))) : Int) → J (i + 1) [some (tD (.bk s ps)), some (.loc l), some (.int x), some (.int y), some (tD u), b] h' := fun x y b ex ey => by rw [hJ]; exact ⟨rfl, _, _, by rw [ex, ey]⟩
      rw [e2, knotsL_snoc, depthL_snoc] at fin
      generalize knotsL (fillL f (ps.take i)) = A at fin ⊢
      generalize depthL (fillL f (ps.take i)) = B at fin ⊢
      simp [tD] at fin
      simp [wp_v, ih, szD, Tr.size, tD]
      refine fin _ _ _ (by omega) ?_
      split <;> omega
    · intro ds h' hj
      rw [hJ] at hj
      obtain ⟨rfl, a, b, rfl⟩ := hj
      rw [tDs_len, List.take_length]
      simp [wp_v, szD, Tr.size, Tr.fill, Tr.knots, Tr.depth, noloc, nolocL]
      omega
def Tr.great (t : Tr) : Prop := 400 < t.knots ∨ 60 < t.depth
instance (t : Tr) : Decidable t.great := inferInstanceAs (Decidable (_ ∨ _))
def filR (u : Tr) (h : Hs) : R D := if u.great then .exc "TooLong" h else .ok (tD u) h
theorem mem_take_succ {bs : List Int} {i : Nat} {b k : Int} (e : bs[i]? = some b) : k ∈ bs.take (i + 1) ↔ k ∈ bs.take i ∨ k = b := by
  have e1 : bs.take (i + 1) = bs.take i ++ [b] := by rw [List.take_add_one, e]; rfl
  rw [e1]; simp
theorem filled_ok (n : Nat) (h : Hs) (l : Nat) (fs : List (Int × Tr)) (t : Tr) (e : h[l]? = some (.dct (mD tD fs))) (hn : t.depth ≤ n) (hk : t.knots ≤ 1000000) (hu : ∀ k ∈ t.allB, ∀ u, mAt fs k = some u → u.knots ≤ 1000000 ∧ u.depth + 1 ≤ n) :
    F_filled (n + 1) [tD t, .loc l] h = filR (t.fill (mAt fs)) h := by
  have main : (kPure.f (runM 2 6 (m_filled (F_exchanged n) (F_size_filled n) (F_blanks_of n) (F_depth_of n) (F_knots_of n))) [tD t, .loc l] h).wp (fun d h' => ¬ (t.fill (mAt fs)).great ∧ d = tD (t.fill (mAt fs)) ∧ h' = h) (fun c h' => (t.fill (mAt fs)).great ∧ c = "TooLong" ∧ h' = h) := by
    rw [wp_pure, wp_run]
    refine ⟨rfl, ?_⟩
    unfold m_filled
    simp only [startD, List.map_cons, List.map_nil, List.length_cons, List.length_nil]
    refine st_set (.loc h.length) (h ++ [.dct []]) ⟨rfl, rfl⟩ ?_
    have bo : ∀ h, F_blanks_of n [tD t] h = .ok (.loc h.length) (h ++ [.lst (t.blanks.map D.int)]) := fun h => blanks_of_ok n h t (by omega) (by omega)
    have bl := blanks_len t
    have mb : ∀ k, k ∈ t.blanks ↔ k ∈ t.allB := fun k => mem_blanks
    generalize t.blanks = bs at bo bl mb
    rw [ws_seq]
    simp [wp_v, bo, itsF]
    have el : ∀ x y : AO, (h ++ [x, y])[l]? = some (.dct (mD tD fs)) := fun x y => get_app e
    obtain ⟨J, hJ⟩ : ∃ J : Nat → Sl → Hs → Prop, J = fun i ds h' => ∃ ss : List (Int × (Nat × Nat)), ss.length ≤ i ∧ (∀ k, mAt ss k = if k ∈ bs.take i then (mAt fs k).map Tr.size else none) ∧ h' = h ++ [.dct (mD szD ss), .lst (bs.map D.int)] ∧ ∃ a, ds = [some (tD t), some (.loc l), some (.loc h.length), a, none, none] := ⟨_, rfl⟩
    refine ws_loop _ J (by rw [hJ]; exact ⟨[], by simp, by simp [mAt], rfl, _, rfl⟩) (fun i ds h' j => by rw [hJ] at j; obtain ⟨_, _, _, rfl, _⟩ := j; simp) ?_ ?_
    · intro i d ds h' hd hj
      rw [hJ] at hj
      obtain ⟨ss, sl, sv, rfl, a, rfl⟩ := hj
      rw [List.getElem?_map] at hd
      cases q : bs[i]? with
      | none => rw [q] at hd; cases hd
      | some b =>
        rw [q] at hd
        cases hd
        have il : i < bs.length := (List.getElem?_eq_some_iff.mp q).1
        have mk := fun k => mem_take_succ (k := k) q
        have inb := in_dct (k := .int b) (kk := .inl b) (el (.dct (mD szD ss)) (.lst (bs.map D.int))) rfl
        rw [val_mD] at inb
        have ix := ix_dct (k := .int b) (kk := .inl b) (el (.dct (mD szD ss)) (.lst (bs.map D.int))) rfl
        rw [val_mD] at ix
        cases z : mAt fs b with
        | none =>
          rw [z] at inb
          simp at inb
          simp [wp_v, inb]
          rw [hJ]
          refine ⟨ss, by omega, fun k => ?_, rfl, _, rfl⟩
          rw [sv k]
          by_cases c : k ∈ bs.take i
          · rw [if_pos c, if_pos ((mk k).mpr (.inl c))]
          · by_cases c2 : k = b
            · rw [if_neg c, if_pos ((mk k).mpr (.inr c2)), c2, z]; rfl
            · rw [if_neg c, if_neg fun m => ((mk k).mp m).elim c c2]
        | some u =>
          rw [z] at inb ix
          simp at inb ix
          obtain ⟨u1, u2⟩ := hu b ((mb b).mp (List.mem_of_getElem? q)) u z
          have ko := fun h => knots_of_ok h n u u2 u1
          have do_ := fun h => depth_of_ok h n u u2 u1
          have st := set_dct (h := h ++ [AO.dct (mD szD ss), AO.lst (bs.map D.int)]) (l := h.length) (kvs := mD szD ss) (k := .int b) (kk := .inl b) (v := szD u.size) (by simp) rfl (by rw [mD_len]; omega)
          rw [put_mD] at st
          simp [szD, Tr.size] at st
          simp [wp_v, inb, ix, ko, do_, st]
          rw [hJ]
          refine ⟨mPut ss b u.size, by have := mPut_len ss b u.size; omega, fun k => ?_, rfl, _, rfl⟩
          rw [mAt_put, sv k]
          by_cases c2 : k = b
          · rw [if_pos c2, if_pos ((mk k).mpr (.inr c2)), c2, z]; rfl
          · rw [if_neg c2]
            by_cases c : k ∈ bs.take i
            · rw [if_pos c, if_pos ((mk k).mpr (.inl c))]
            · rw [if_neg c, if_neg fun m => ((mk k).mp m).elim c c2]
    · intro ds h' hj
      rw [hJ] at hj
      obtain ⟨ss, sl, sv, rfl, a, rfl⟩ := hj
      rw [List.length_map, List.take_length] at sv
      have so := size_filled_ok n (h ++ [.dct (mD szD ss), .lst (bs.map D.int)]) h.length ss (mAt fs) t (by simp) (fun k hk => by rw [sv k, if_pos ((mb k).mpr hk)]) hn
      have ex := exchanged_ok n (h ++ [.dct (mD szD ss), .lst (bs.map D.int)]) l fs t (el _ _) hn hk
      have nl := noloc_tD (t.fill (mAt fs))
      generalize t.fill (mAt fs) = r at so ex nl ⊢
      simp [szD, Tr.size] at so
      simp [wp_v, so]
      by_cases c1 : (400 : Int) < (r.knots : Int)
      · have c : r.great := .inl (by omega)
        simp [c1, c]
      · by_cases c2 : (60 : Int) < (r.depth : Int)
        · have c : r.great := .inr (by omega)
          simp [c1, c2, c, wp_v]
        · have c : ¬ r.great := by unfold Tr.great; omega
          simp [c1, c2, c, wp_v, ex, nl]
  rw [S_filled]
  unfold filR
  cases q : kPure.f (runM 2 6 (m_filled (F_exchanged n) (F_size_filled n) (F_blanks_of n) (F_depth_of n) (F_knots_of n))) [tD t, .loc l] h with
  | ok d h' => rw [q] at main; obtain ⟨c, rfl, rfl⟩ := main; rw [if_neg c]
  | exc c h' => rw [q] at main; obtain ⟨c, rfl, rfl⟩ := main; rw [if_pos c]
  | bad => rw [q] at main; exact main.elim
end DV
namespace DV
open PySem PySem.Spec PyProof.Rows L2
mutual
/-- the longest place -/
theorem place_deep : ∀ t : Tr, ∃ p ∈ t.places, p.1.length + 1 = t.depth
  | .bl b => ⟨([], .bl b), by simp [Tr.places], by simp [Tr.depth]⟩
  | .bk s ps => by
    rcases placeL_deep ps 0 with e | ⟨p, hp, e⟩
    · exact ⟨([], .bk s ps), by simp [Tr.places], by rw [Tr.depth, e]; rfl⟩
    · exact ⟨p, by rw [Tr.places]; exact List.mem_cons_of_mem _ hp, by rw [Tr.depth]; omega⟩
theorem placeL_deep : ∀ (ts : List Tr) (k : Nat), depthL ts = 0 ∨ ∃ p ∈ placesL k ts, p.1.length = depthL ts
  | [], k => .inl rfl
  | t :: ts, k => by
    refine .inr ?_
    rw [depthL, placesL]
    obtain ⟨p, hp, e⟩ := place_deep t
    by_cases c : depthL ts ≤ t.depth
    · exact ⟨(k :: p.1, p.2), List.mem_append_left _ (List.mem_map.mpr ⟨p, hp, rfl⟩), by simp only [List.length_cons]; omega⟩
    · rcases placeL_deep ts (k + 1) with e | ⟨q, hq, e⟩
      · omega
      · exact ⟨q, List.mem_append_right _ hq, by omega⟩
end
theorem max_places (t : Tr) : ∃ n ns, (t.places.map fun p => (p.1.length : Int)) = n :: ns ∧ 1 + maxI n ns = t.depth := by
  have e : (t.places.map fun p => (p.1.length : Int)) = 0 :: (placesL 0 t.parts).map fun p => (p.1.length : Int) := by rw [places_parts]; rfl
  refine ⟨_, _, e, ?_⟩
  obtain ⟨h1, h2, h3⟩ := maxI_spec ((placesL 0 t.parts).map fun p => (p.1.length : Int)) 0
  obtain ⟨p, hp, pd⟩ := place_deep t
  have up : ∀ q ∈ t.places, q.1.length + 1 ≤ t.depth := fun q hq => by
    have := place_len t q hq
    have : 1 ≤ q.2.depth := by rw [depth_parts]; omega
    omega
  have lo : (p.1.length : Int) ≤ maxI 0 ((placesL 0 t.parts).map fun p => (p.1.length : Int)) := by
    have : (p.1.length : Int) ∈ (t.places.map fun p => (p.1.length : Int)) := List.mem_map.mpr ⟨p, hp, rfl⟩
    rw [e] at this
    rcases List.mem_cons.mp this with z | z
    · rw [z]; exact h2
    · exact h3 _ z
  have hi : maxI 0 ((placesL 0 t.parts).map fun p => (p.1.length : Int)) + 1 ≤ (t.depth : Int) := by
    rcases h1 with z | z
    · rw [z]; have := depth_parts t; omega
    · obtain ⟨q, hq, e2⟩ := List.mem_map.mp z
      have := up q (by rw [places_parts]; exact List.mem_cons_of_mem _ hq)
      omega
  omega
end DV
namespace DV
open PySem PySem.Spec PyProof.Rows L2
theorem set_back {h : Hs} {l : Nat} {o x : AO} (e : h[l]? = some o) : (h.set l x).set l o = h := by
  rw [List.set_set]
  obtain ⟨q, e⟩ := List.getElem?_eq_some_iff.mp e
  rw [← e]
  exact List.set_getElem_self q
theorem lc_places {n0 n1 : Int} {ns1 : List Int} (h0 : Hs) (lp i j : Nat) (ds : Sl) (t : Tr) (hij : i < ds.length) (hne : i ≠ j) (hp : h0[lp]? = some (.lst (t.places.map plD))) (hk : t.knots ≤ 1000000) :
    lcLoop (fun h => h[lp]? = some (.lst (t.places.map plD))) h0.length (tupG 2 (consG (nameG i) (consG (nameG j) nilG))) yesM (argM lenF (consA (vM i) nilA)) ds (t.places.map plD) (h0 ++ [.lst []]) = .ok (.loc h0.length) (h0 ++ [.lst (t.places.map fun q => .int (q.1.length : Int))]) := by
  have tl := places_len t
  refine lc_map (gd := fun h => h[lp]? = some (.lst (t.places.map plD))) (its := t.places.map plD) (ys := t.places.map fun q => .int (q.1.length : Int)) (by simp) (by rw [List.length_map]; omega) (fun acc => get_app hp) (fun k d o acc e3 e4 => ?_)
  rw [List.getElem?_map] at e3 e4
  cases q : t.places[k]? with
  | none => rw [q] at e3; cases e3
  | some q' =>
    rw [q] at e3 e4
    cases e3
    cases e4
    unfold LcTurn
    simp [wp_v, plD, hij, List.getElem_set, hne.symm, plInts]
theorem intsOf_places (t : Tr) : intsOf (t.places.map fun q => D.int (q.1.length : Int)) = some (t.places.map fun q => (q.1.length : Int)) := by
  have := intsOf_map (t.places.map fun q => (q.1.length : Int))
  rw [List.map_map] at this
  exact this
theorem max_len_places {h : Hs} {l : Nat} (t : Tr) (e : h[l]? = some (.lst (t.places.map fun q => D.int (q.1.length : Int)))) : ∃ z : Int, max1F [.loc l] h = some (.int z, h) ∧ 1 + z = t.depth := by
  obtain ⟨n0, n1, hn, hm⟩ := max_places t
  refine ⟨maxI n0 n1, ?_, hm⟩
  simp only [max1F, e, intsOf_places, hn]
/-- the knots and the depth of a filled tree, over its places -/
def sizeAt (f : Int → Option Tr) : List Nat × Tr → Nat × Nat
  | (p, .bl k) => (((Tr.bl k).fill f).knots, p.length + ((Tr.bl k).fill f).depth)
  | (p, .bk _ _) => (1, p.length + 1)
def sumK (f : Int → Option Tr) (l : List (List Nat × Tr)) : Nat := (l.map fun q => (sizeAt f q).1).sum
def maxK (f : Int → Option Tr) (l : List (List Nat × Tr)) : Nat := (l.map fun q => (sizeAt f q).2).foldl max 0
theorem maxK_app (f : Int → Option Tr) (a b : List (List Nat × Tr)) : maxK f (a ++ b) = max (maxK f a) (maxK f b) := by
  unfold maxK
  rw [List.map_append, List.foldl_append, foldl_max' (b.map fun q => (sizeAt f q).2)]
where foldl_max' : ∀ (l : List Nat) (a : Nat), l.foldl max a = max a (l.foldl max 0)
  | [], a => by simp
  | x :: l, a => by rw [List.foldl_cons, List.foldl_cons, foldl_max' l (max a x), foldl_max' l (max 0 x)]; omega
theorem sumK_app (f : Int → Option Tr) (a b : List (List Nat × Tr)) : sumK f (a ++ b) = sumK f a + sumK f b := by
  unfold sumK; rw [List.map_append, List.sum_append]
theorem sumK_shift (f : Int → Option Tr) (j : Nat) (l : List (List Nat × Tr)) : sumK f (l.map fun p => (j :: p.1, p.2)) = sumK f l := by
  unfold sumK
  rw [List.map_map]
  congr 1
  refine List.map_congr_left fun ⟨p, u⟩ _ => ?_
  cases u <;> rfl
theorem maxK_shift (f : Int → Option Tr) (j : Nat) : ∀ (l : List (List Nat × Tr)), l ≠ [] → maxK f (l.map fun p => (j :: p.1, p.2)) = maxK f l + 1
  | [], h => absurd rfl h
  | q :: l, _ => by
    have e0 : ∀ (q : List Nat × Tr) l, maxK f (q :: l) = max (sizeAt f q).2 (maxK f l) := fun q l => by
      have := maxK_app f [q] l
      rw [List.singleton_append] at this
      rw [this]; simp [maxK]
    rw [List.map_cons, e0, e0]
    have eq : (sizeAt f (j :: q.1, q.2)).2 = (sizeAt f q).2 + 1 := by
      obtain ⟨p, u⟩ := q
      cases u <;> simp [sizeAt] <;> omega
    rw [eq]
    cases l with
    | nil => simp [maxK]
    | cons q2 l => rw [maxK_shift f j (q2 :: l) (by simp)]; omega
mutual
theorem size_places (f : Int → Option Tr) : ∀ t : Tr, sumK f t.places = (t.fill f).knots ∧ maxK f t.places = (t.fill f).depth
  | .bl k => by simp [Tr.places, sumK, maxK, sizeAt]
  | .bk s ps => by
    obtain ⟨h1, h2⟩ := sizeL_places f ps 0
    have e : (Tr.bk s ps).places = [([], .bk s ps)] ++ placesL 0 ps := by rw [Tr.places]; rfl
    rw [e, sumK_app, maxK_app, h1, h2, Tr.fill, Tr.knots, Tr.depth]
    refine ⟨by simp [sumK, sizeAt], ?_⟩
    by_cases c : ps = []
    · rw [if_pos c, c]; simp [maxK, sizeAt, fillL, depthL]
    · rw [if_neg c]; simp [maxK, sizeAt]; omega
theorem sizeL_places (f : Int → Option Tr) : ∀ (ts : List Tr) (k : Nat), sumK f (placesL k ts) = knotsL (fillL f ts) ∧ maxK f (placesL k ts) = if ts = [] then 0 else depthL (fillL f ts) + 1
  | [], k => by simp [placesL, sumK, maxK, fillL, knotsL]
  | t :: ts, k => by
    obtain ⟨h1, h2⟩ := size_places f t
    obtain ⟨h3, h4⟩ := sizeL_places f ts (k + 1)
    have ne : t.places ≠ [] := by rw [places_parts]; simp
    rw [placesL, sumK_app, maxK_app, sumK_shift, maxK_shift f k _ ne, h1, h2, h3, h4, fillL, knotsL, depthL]
    refine ⟨rfl, ?_⟩
    rw [if_neg (show ¬ (t :: ts = []) by simp)]
    by_cases c : ts = []
    · rw [if_pos c, c]; simp [fillL, depthL]
    · rw [if_neg c]; omega
end
theorem mAt_take {α : Type} {fs : List (Int × α)} (nd : (fs.map (·.1)).Nodup) {i : Nat} {k : Int} {a : α} (e : fs[i]? = some (k, a)) (j : Int) : mAt (fs.take (i + 1)) j = if j = k then some a else mAt (fs.take i) j := by
  have e1 : fs.take (i + 1) = fs.take i ++ [(k, a)] := by rw [List.take_add_one, e]; rfl
  have nk : k ∉ (fs.take i).map (·.1) := by
    intro m
    have il := (List.getElem?_eq_some_iff.mp e).1
    have h2 := List.drop_eq_getElem_cons il
    rw [List.getElem?_eq_getElem il] at e
    have q2 : fs[i] = (k, a) := Option.some.inj e
    rw [q2] at h2
    have h1 : fs = fs.take i ++ (k, a) :: fs.drop (i + 1) := by rw [← h2, List.take_append_drop]
    rw [h1, List.map_append, List.map_cons] at nd
    exact (List.nodup_append.mp nd).2.2 _ m _ List.mem_cons_self rfl
  rw [e1, mAt_app, mAt_cons]
  by_cases c : j = k
  · rw [if_pos c, c, mAt_none.mpr nk]; simp
  · have : ¬ k = j := fun z => c z.symm
    rw [if_neg c, if_neg this]
    cases mAt (fs.take i) j <;> rfl
theorem too_great_ok (n : Nat) (h : Hs) (l : Nat) (fs : List (Int × Tr)) (t : Tr) (e : h[l]? = some (.dct (mD tD fs))) (nd : (fs.map (·.1)).Nodup) (hl : fs.length ≤ 1000000) (hk : t.knots ≤ 99999) (hu : ∀ p ∈ fs, p.2.knots ≤ 99999) :
    F__law_too_great (n + 2) [tD t, .loc l] h = .ok (.bl (decide (t.fill (mAt fs)).great)) h := by
  rw [S__law_too_great]
  refine R.wp_eq.mp ?_
  rw [wp_pure, wp_run]
  refine ⟨rfl, ?_⟩
  unfold m__law_too_great
  simp only [startD, List.map_cons, List.map_nil, List.length_cons, List.length_nil]
  refine st_set (.loc h.length) (h ++ [.dct []]) ⟨rfl, rfl⟩ ?_
  rw [ws_seq]
  have e0 : (h ++ [AO.dct []])[l]? = some (.dct (mD tD fs)) := get_app e
  have lt : l < h.length := (List.getElem?_eq_some_iff.mp e).1
  refine ws_lock (i := 1) (l := l) (kvs := mD tD fs) rfl e0 ?_
  rw [set_app lt]
  obtain ⟨H, hH⟩ : ∃ H, H = h.set l (.fdc (mD tD fs)) := ⟨_, rfl⟩
  have Hl : H.length = h.length := by rw [hH, List.length_set]
  have He : H[l]? = some (.fdc (mD tD fs)) := by rw [hH]; simp [lt]
  have Hb : H.set l (.dct (mD tD fs)) = h := by rw [hH]; exact set_back e
  rw [← hH]
  simp only [List.set_cons_succ, List.set_cons_zero, List.replicate]
  rw [ws_for]
  rw [wp_fdI (l := l) (kvs := mD tD fs) rfl (get_app He)]
  obtain ⟨J, hJ⟩ : ∃ J : Nat → Sl → Hs → Prop, J = fun i ds h' => ∃ (ss : List (Int × (Nat × Nat))) (r : Hs), ss.length ≤ i ∧ (∀ k, mAt ss k = (mAt (fs.take i) k).map Tr.size) ∧ h' = H ++ (.dct (mD szD ss) :: r) ∧ ∃ a b, ds = [some (tD t), some (.loc l), some (.loc h.length), a, b, none, none, none, none, none] := ⟨_, rfl⟩
  refine ws_loop _ J (by rw [hJ]; exact ⟨[], [], by simp, by simp [mAt], rfl, _, _, rfl⟩) (fun _ _ _ _ => trivial) ?_ ?_
  · intro i d ds h' hd hj
    rw [hJ] at hj
    obtain ⟨ss, r, sl, sv, rfl, a, b, rfl⟩ := hj
    unfold mD at hd
    rw [List.map_map, List.getElem?_map] at hd
    cases q : fs[i]? with
    | none => rw [q] at hd; cases hd
    | some q' =>
      obtain ⟨k, u⟩ := q'
      rw [q] at hd
      cases hd
      have il : i < fs.length := (List.getElem?_eq_some_iff.mp q).1
      have mu := List.mem_of_getElem? q
      have ku := hu _ mu
      simp only at ku
      have ix := ix_fdc (k := .int k) (kk := .inl k) (h := H ++ (AO.dct (mD szD ss) :: r)) (l := l) (get_app He) rfl
      rw [val_mD, mAt_of nd mu] at ix
      simp at ix
      have pl := law_places_ok n (H ++ (AO.dct (mD szD ss) :: r)) u (by omega)
      simp at pl
      have tl := places_len u
      obtain ⟨h2, hh2⟩ : ∃ h2, h2 = H ++ (AO.dct (mD szD ss) :: (r ++ [AO.lst (u.places.map plD)])) := ⟨_, rfl⟩
      rw [← hh2] at pl
      have h2l : h2[H.length + (r.length + 1)]? = some (.lst (u.places.map plD)) := by rw [hh2]; simp
      have lc := lc_places (n0 := 0) (n1 := 0) (ns1 := []) h2 (H.length + (r.length + 1)) 5 6 [some (tD t), some (.loc l), some (.loc h.length), some (.int k), some (.loc (H.length + (r.length + 1))), none, none, none, none, none] u (by simp) (by simp) h2l (by omega)
      obtain ⟨z, mx, zd⟩ := max_len_places (h := h2 ++ [AO.lst (u.places.map fun q => D.int (q.1.length : Int))]) (l := h2.length) u (by simp)
      have st := set_dct (h := h2 ++ [AO.lst (u.places.map fun q => D.int (q.1.length : Int))]) (l := H.length) (kvs := mD szD ss) (k := .int k) (kk := .inl k) (v := szD u.size) (by rw [hh2]; simp) rfl (by rw [mD_len]; omega)
      rw [put_mD] at st
      simp [szD, Tr.size] at st
      rw [Hl] at st
      have le := len_lst h2l
      rw [List.length_map, tl] at le
      have fin : ∀ (ss2 : List (Int × (Nat × Nat))) (r2 : Hs) (a b : Option D), ss2 = mPut ss k u.size → J (i + 1) [some (tD t), some (.loc l), some (.loc h.length), a, b, none, none, none, none, none] (H ++ (AO.dct (mD szD ss2) :: r2)) := fun ss2 r2 a b es => by
        rw [hJ]
        refine ⟨ss2, r2, by rw [es]; have := mPut_len ss k u.size; omega, fun j => ?_, rfl, _, _, rfl⟩
        rw [es, mAt_put, sv j, mAt_take nd q]
        split <;> rfl
      have il2 := its_lst h2l
      have e9 : dK (.inl k) = D.int k := rfl
      simp [wp_v, dK, ix, pl, le, il2, lc, mx, zd, st]
      rw [hh2]
      simp only [← Hl] at fin ⊢
      simp
      exact fin _ _ _ _ rfl
  · intro ds h' hj
    rw [hJ] at hj
    obtain ⟨ss, r, sl, sv, rfl, a, b, rfl⟩ := hj
    have kl : ((mD tD fs).map fun p => dK p.1).length = fs.length := by simp
    rw [kl, List.take_length] at sv
    refine ⟨get_app He, ?_⟩
    have lH : l < H.length := by omega
    rw [set_app lH, Hb]
    have pl := law_places_ok n (h ++ (AO.dct (mD szD ss) :: r)) t (by omega)
    have tl := places_len t
    obtain ⟨Hc, hHc⟩ : ∃ Hc, Hc = h ++ (AO.dct (mD szD ss) :: r) := ⟨_, rfl⟩
    have Hd : Hc[h.length]? = some (.dct (mD szD ss)) := by rw [hHc]; simp
    rw [← hHc] at pl ⊢
    refine st_set (.int 0) Hc ⟨rfl, rfl⟩ ?_
    refine st_set (.int 0) Hc ⟨rfl, rfl⟩ ?_
    simp only [List.set_cons_succ, List.set_cons_zero]
    rw [ws_seq]
    simp [wp_v, pl, itsF]
    obtain ⟨G, hG⟩ : ∃ G : Nat → Sl → Hs → Prop, G = fun i ds h' => h' = Hc ++ [.lst (t.places.map plD)] ∧ ∃ a b c d e, ds = [some (tD t), some (.loc l), some (.loc h.length), a, b, c, d, some (.int (sumK (mAt fs) (t.places.take i) : Int)), some (.int (maxK (mAt fs) (t.places.take i) : Int)), e] := ⟨_, rfl⟩
    refine ws_loop _ G (by rw [hG]; exact ⟨rfl, _, _, _, _, _, rfl⟩) (fun i ds h' j => by rw [hG] at j; rw [j.1]; simp) ?_ ?_
    · intro i d ds h' hd hj
      rw [hG] at hj
      obtain ⟨rfl, a, b, c, d', e', rfl⟩ := hj
      rw [List.getElem?_map] at hd
      cases q : t.places[i]? with
      | none => rw [q] at hd; cases hd
      | some q' =>
        rw [q] at hd
        cases hd
        obtain ⟨p, u⟩ := q'
        have e1 : t.places.take (i + 1) = t.places.take i ++ [(p, u)] := by rw [List.take_add_one, q]; rfl
        have fin : ∀ (x y : Int) (a b c d e : Option D), x = (sumK (mAt fs) (t.places.take (i + 1)) : Int) → y = (maxK (mAt fs) (t.places.take (i + 1)) : Int) → G (i + 1) [some (tD t), some (.loc l), some (.loc h.length), a, b, c, d, some (.int x), some (.int y), e] (Hc ++ [.lst (t.places.map plD)]) := fun x y a b c d e ex ey => by rw [hG]; exact ⟨rfl, _, _, _, _, _, by rw [ex, ey]⟩
        rw [e1, sumK_app, maxK_app] at fin
        have s1 : sumK (mAt fs) [(p, u)] = (sizeAt (mAt fs) (p, u)).1 := by simp [sumK]
        have s2 : maxK (mAt fs) [(p, u)] = (sizeAt (mAt fs) (p, u)).2 := by simp [maxK]
        rw [s1, s2] at fin
        generalize sumK (mAt fs) (t.places.take i) = A at fin ⊢
        generalize maxK (mAt fs) (t.places.take i) = B at fin ⊢
        cases u with
        | bk s ps =>
          simp only [sizeAt] at fin
          simp [wp_v, plD, tD]
          refine fin _ _ _ _ _ _ _ (by omega) ?_
          try simp [plInts]
          split <;> omega
        | bl k =>
          have g := get_dct (h := Hc ++ [AO.lst (t.places.map plD)]) (l := h.length) (x := szD (1, 1)) (k := .int k) (kk := .inl k) (get_app Hd) rfl
          have ck := ck_dct (h := Hc ++ [AO.lst (t.places.map plD)]) (l := h.length) (get_app Hd)
          have e2 : ((valD (mD szD ss) (.inl k : Key)).getD (szD (1, 1))) = szD ((Tr.bl k).fill (mAt fs)).size := by
            rw [val_mD, sv k, Tr.fill]
            cases mAt fs k <;> rfl
          rw [e2] at g
          simp only [sizeAt] at fin
          generalize (Tr.bl k).fill (mAt fs) = v at g fin
          simp [szD, Tr.size] at g
          simp [wp_v, plD, tD, g, ck]
          refine fin _ _ _ _ _ _ _ (by omega) ?_
          try simp [plInts]
          split <;> omega
    · intro ds h' hj
      rw [hG] at hj
      obtain ⟨rfl, a, b, c, d', e', rfl⟩ := hj
      obtain ⟨z1, z2⟩ := size_places (mAt fs) t
      rw [List.length_map, List.take_length, z1, z2]
      have ed : decide (t.fill (mAt fs)).great = (decide ((400 : Int) < ((t.fill (mAt fs)).knots : Int)) || decide ((60 : Int) < ((t.fill (mAt fs)).depth : Int))) := by
        by_cases c : (t.fill (mAt fs)).great
        · rw [decide_eq_true c]; symm; rw [Bool.or_eq_true, decide_eq_true_eq, decide_eq_true_eq]; unfold Tr.great at c; omega
        · rw [decide_eq_false c]; symm; rw [Bool.or_eq_false_iff, decide_eq_false_iff_not, decide_eq_false_iff_not]; unfold Tr.great at c; omega
      have tk : (Hc ++ [AO.lst (t.places.map plD)]).take h.length = h := by rw [hHc]; simp
      rw [ed]
      by_cases c1 : (400 : Int) < ((t.fill (mAt fs)).knots : Int)
      · simp [wp_v, c1, noloc, tk]; exact .inl (by omega)
      · simp [wp_v, c1, noloc, tk]
end DV
namespace DV
open PySem PySem.Spec PyProof.Rows L2
def Tr.setPart : Tr → Nat → Tr → Tr
  | .bl k, _, _ => .bl k
  | .bk s ps, k, w => .bk s (ps.set k w)
def Tr.put : Tr → List Int → Tr → Option Tr
  | _, [], u => some u
  | t, k :: p, u => if 0 ≤ k ∧ k < t.parts.length then (t.parts[k.toNat]?).bind fun v => (v.put p u).map fun w => t.setPart k.toNat w else none
@[simp] theorem plZ_len (p : List Int) : (plZ p).length = p.length := by simp [plZ]
end DV
namespace DV
open PySem PySem.Spec PyProof.Rows L2
@[simp] theorem xn_FormError_NoPlace : (("FormError" : Str) = "NoPlace") = False := eq_false (by decide +kernel)
@[simp] theorem xn_FormError_BadText : (("FormError" : Str) = "BadText") = False := eq_false (by decide +kernel)
@[simp] theorem xn_FormError_TooLong : (("FormError" : Str) = "TooLong") = False := eq_false (by decide +kernel)
@[simp] theorem xn_FormError_BadPaper : (("FormError" : Str) = "BadPaper") = False := eq_false (by decide +kernel)
@[simp] theorem xn_FormError_BadName : (("FormError" : Str) = "BadName") = False := eq_false (by decide +kernel)
@[simp] theorem xn_FormError_Twice : (("FormError" : Str) = "Twice") = False := eq_false (by decide +kernel)
@[simp] theorem xn_FormError_NoForm : (("FormError" : Str) = "NoForm") = False := eq_false (by decide +kernel)
@[simp] theorem xn_NoPlace_FormError : (("NoPlace" : Str) = "FormError") = False := eq_false (by decide +kernel)
@[simp] theorem xn_NoPlace_BadText : (("NoPlace" : Str) = "BadText") = False := eq_false (by decide +kernel)
@[simp] theorem xn_NoPlace_TooLong : (("NoPlace" : Str) = "TooLong") = False := eq_false (by decide +kernel)
@[simp] theorem xn_NoPlace_BadPaper : (("NoPlace" : Str) = "BadPaper") = False := eq_false (by decide +kernel)
@[simp] theorem xn_NoPlace_BadName : (("NoPlace" : Str) = "BadName") = False := eq_false (by decide +kernel)
@[simp] theorem xn_NoPlace_Twice : (("NoPlace" : Str) = "Twice") = False := eq_false (by decide +kernel)
@[simp] theorem xn_NoPlace_NoForm : (("NoPlace" : Str) = "NoForm") = False := eq_false (by decide +kernel)
@[simp] theorem xn_BadText_FormError : (("BadText" : Str) = "FormError") = False := eq_false (by decide +kernel)
@[simp] theorem xn_BadText_NoPlace : (("BadText" : Str) = "NoPlace") = False := eq_false (by decide +kernel)
@[simp] theorem xn_BadText_TooLong : (("BadText" : Str) = "TooLong") = False := eq_false (by decide +kernel)
@[simp] theorem xn_BadText_BadPaper : (("BadText" : Str) = "BadPaper") = False := eq_false (by decide +kernel)
@[simp] theorem xn_BadText_BadName : (("BadText" : Str) = "BadName") = False := eq_false (by decide +kernel)
@[simp] theorem xn_BadText_Twice : (("BadText" : Str) = "Twice") = False := eq_false (by decide +kernel)
@[simp] theorem xn_BadText_NoForm : (("BadText" : Str) = "NoForm") = False := eq_false (by decide +kernel)
@[simp] theorem xn_TooLong_FormError : (("TooLong" : Str) = "FormError") = False := eq_false (by decide +kernel)
@[simp] theorem xn_TooLong_NoPlace : (("TooLong" : Str) = "NoPlace") = False := eq_false (by decide +kernel)
@[simp] theorem xn_TooLong_BadText : (("TooLong" : Str) = "BadText") = False := eq_false (by decide +kernel)
@[simp] theorem xn_TooLong_BadPaper : (("TooLong" : Str) = "BadPaper") = False := eq_false (by decide +kernel)
@[simp] theorem xn_TooLong_BadName : (("TooLong" : Str) = "BadName") = False := eq_false (by decide +kernel)
@[simp] theorem xn_TooLong_Twice : (("TooLong" : Str) = "Twice") = False := eq_false (by decide +kernel)
@[simp] theorem xn_TooLong_NoForm : (("TooLong" : Str) = "NoForm") = False := eq_false (by decide +kernel)
@[simp] theorem xn_BadPaper_FormError : (("BadPaper" : Str) = "FormError") = False := eq_false (by decide +kernel)
@[simp] theorem xn_BadPaper_NoPlace : (("BadPaper" : Str) = "NoPlace") = False := eq_false (by decide +kernel)
@[simp] theorem xn_BadPaper_BadText : (("BadPaper" : Str) = "BadText") = False := eq_false (by decide +kernel)
@[simp] theorem xn_BadPaper_TooLong : (("BadPaper" : Str) = "TooLong") = False := eq_false (by decide +kernel)
@[simp] theorem xn_BadPaper_BadName : (("BadPaper" : Str) = "BadName") = False := eq_false (by decide +kernel)
@[simp] theorem xn_BadPaper_Twice : (("BadPaper" : Str) = "Twice") = False := eq_false (by decide +kernel)
@[simp] theorem xn_BadPaper_NoForm : (("BadPaper" : Str) = "NoForm") = False := eq_false (by decide +kernel)
@[simp] theorem xn_BadName_FormError : (("BadName" : Str) = "FormError") = False := eq_false (by decide +kernel)
@[simp] theorem xn_BadName_NoPlace : (("BadName" : Str) = "NoPlace") = False := eq_false (by decide +kernel)
@[simp] theorem xn_BadName_BadText : (("BadName" : Str) = "BadText") = False := eq_false (by decide +kernel)
@[simp] theorem xn_BadName_TooLong : (("BadName" : Str) = "TooLong") = False := eq_false (by decide +kernel)
@[simp] theorem xn_BadName_BadPaper : (("BadName" : Str) = "BadPaper") = False := eq_false (by decide +kernel)
@[simp] theorem xn_BadName_Twice : (("BadName" : Str) = "Twice") = False := eq_false (by decide +kernel)
@[simp] theorem xn_BadName_NoForm : (("BadName" : Str) = "NoForm") = False := eq_false (by decide +kernel)
@[simp] theorem xn_Twice_FormError : (("Twice" : Str) = "FormError") = False := eq_false (by decide +kernel)
@[simp] theorem xn_Twice_NoPlace : (("Twice" : Str) = "NoPlace") = False := eq_false (by decide +kernel)
@[simp] theorem xn_Twice_BadText : (("Twice" : Str) = "BadText") = False := eq_false (by decide +kernel)
@[simp] theorem xn_Twice_TooLong : (("Twice" : Str) = "TooLong") = False := eq_false (by decide +kernel)
@[simp] theorem xn_Twice_BadPaper : (("Twice" : Str) = "BadPaper") = False := eq_false (by decide +kernel)
@[simp] theorem xn_Twice_BadName : (("Twice" : Str) = "BadName") = False := eq_false (by decide +kernel)
@[simp] theorem xn_Twice_NoForm : (("Twice" : Str) = "NoForm") = False := eq_false (by decide +kernel)
@[simp] theorem xn_NoForm_FormError : (("NoForm" : Str) = "FormError") = False := eq_false (by decide +kernel)
@[simp] theorem xn_NoForm_NoPlace : (("NoForm" : Str) = "NoPlace") = False := eq_false (by decide +kernel)
@[simp] theorem xn_NoForm_BadText : (("NoForm" : Str) = "BadText") = False := eq_false (by decide +kernel)
@[simp] theorem xn_NoForm_TooLong : (("NoForm" : Str) = "TooLong") = False := eq_false (by decide +kernel)
@[simp] theorem xn_NoForm_BadPaper : (("NoForm" : Str) = "BadPaper") = False := eq_false (by decide +kernel)
@[simp] theorem xn_NoForm_BadName : (("NoForm" : Str) = "BadName") = False := eq_false (by decide +kernel)
@[simp] theorem xn_NoForm_Twice : (("NoForm" : Str) = "Twice") = False := eq_false (by decide +kernel)
@[simp] theorem tabF_nil {c : Str} : tabF [] c = none := rfl
@[simp] theorem tabF_cons {x c : Str} {b : Bool} {r : List (Str × Bool)} : tabF ((x, b) :: r) c = if x = c then some b else tabF r c := by
  unfold tabF
  rw [List.find?_cons]
  by_cases e : x = c
  · rw [if_pos e]; simp [e]
  · rw [if_neg e]; simp [e]
@[simp] theorem isX_exn {tb : List (Str × Bool)} {c : Str} {h : Hs} : isXF tb (.exn c) h = (tabF tb c).map fun b => (.bl b, h) := rfl
end DV
namespace DV
open PySem PySem.Spec PyProof.Rows L2
end DV
namespace DV
open PySem PySem.Spec PyProof.Rows L2
theorem pickL_len {α : Type} (xs : List α) (lo st : Option Int) : (pickL xs lo st).length ≤ xs.length := by
  have := slicePick_size_le (xs.map fun _ => Value.none).toArray lo none st
  rw [slicePick_eq, pickL_map] at this
  simpa using this
theorem step_ro {h : Hs} {ns : List Int} {lo : Option Int} {k : Nat} (hk : 1 ≤ k) (hl : ns.length ≤ 63) : ∃ cs : List Int, stepF (.ro ns) lo (k : Int) h = some (.loc h.length, h ++ [.lst (cs.map D.int)]) ∧ cs.length ≤ 63 := by
  have := pickL_len ns lo (some (k : Int))
  refine ⟨pickL ns lo (some (k : Int)), ?_, by omega⟩
  unfold stepF
  simp only
  rw [if_pos (by show _ ≤ 16777216; omega)]
end DV
namespace DV
open PySem PySem.Spec PyProof.Rows L2
mutual
theorem pyOk_tD : ∀ {t : Tr}, t.good → pyOk (tD t) = true
  | .bl k, _ => by simp only [tD, pyOk, pyOkL, Bool.and_true]; decide +kernel
  | .bk s ps, g => by
    obtain ⟨g1, g2, g3⟩ := g
    have e : PyData.strOk "block" = true := by decide +kernel
    simp only [tD, pyOk, pyOkL, Bool.and_true, e, strOk_name g1, pyOk_tDs g3]
theorem pyOk_tDs : ∀ {ts : List Tr}, goodL ts → pyOkL (tDs ts) = true
  | [], _ => rfl
  | t :: ts, g => by simp [tDs, pyOkL, pyOk_tD g.1, pyOk_tDs g.2]
end
theorem hitsD_same {h : Hs} {kb : List (Key × D)} : ∀ ka : List (Key × D), (∀ p ∈ ka, valD kb p.1 = some p.2 ∧ pyOk p.2 = true ∧ depD p.2 ≤ 189) → hitsD h kb ka = some true
  | [], _ => rfl
  | (k, v) :: ka, H => by
    obtain ⟨h1, h2, h3⟩ := H (k, v) List.mem_cons_self
    have ih := hitsD_same (h := h) (kb := kb) ka fun p hp => H p (List.mem_cons_of_mem _ hp)
    have e1 : pyH h v = some (toPy v) := pyW_of _ h2
    unfold hitsD
    simp only [h1, e1]
    rw [if_pos ⟨canLay_of h2, canLay_of h2, by rw [dep_toPy]; exact h3⟩, ih, (eqv_iff h2 h2).mpr rfl]
    rfl
/-- what the law's filling is -/
structure FilOk (fs : List (Int × Tr)) : Prop where
  nd : (fs.map (·.1)).Nodup
  len : fs.length ≤ 6
  ok : ∀ p ∈ fs, p.2.good ∧ p.2.knots ≤ 190 ∧ p.2.depth ≤ 28
theorem FilOk.at_ {fs : List (Int × Tr)} (F : FilOk fs) {k : Int} {u : Tr} (e : mAt fs k = some u) : u.good ∧ u.knots ≤ 190 ∧ u.depth ≤ 28 := F.ok _ (mAt_mem e)
theorem eqDB_same {h : Hs} {a b : Nat} {fs : List (Int × Tr)} (nd : (fs.map (·.1)).Nodup) (ok : ∀ p ∈ fs, p.2.good ∧ p.2.depth ≤ 94) (ha : dctA h (.loc a) = some (mD tD fs)) (hb : dctA h (.loc b) = some (mD tD fs)) : eqDB (.loc a) (.loc b) h = some true := by
  unfold eqDB
  simp only [ha, hb]
  rw [hitsD_same]
  · simp
  · intro p hp
    obtain ⟨q, hq, rfl⟩ := List.mem_map.mp hp
    refine ⟨?_, pyOk_tD (ok q hq).1, ?_⟩
    · rw [val_mD, mAt_of nd hq]; rfl
    · have := dep_tD q.2
      have := (ok q hq).2
      show depD (tD q.2) ≤ 189
      omega
theorem noloc_mD {α : Type} {f : α → D} (hf : ∀ a, noloc (f a) = true) : ∀ fs : List (Int × α), nolocL ((mD f fs).map (·.2)) = true
  | [] => rfl
  | p :: fs => by
    have := noloc_mD hf fs
    simp only [mD, List.map_cons, nolocL, hf, Bool.true_and] at this ⊢
    exact this
theorem step_lst {h : Hs} {l : Nat} {cs : List Int} {lo : Option Int} {k : Nat} (e : h[l]? = some (.lst (cs.map D.int))) (hl : cs.length ≤ 63) : ∃ cs' : List Int, stepF (.loc l) lo (k : Int) h = some (.loc h.length, h ++ [.lst (cs'.map D.int)]) ∧ cs'.length ≤ 63 := by
  have := pickL_len cs lo (some (k : Int))
  refine ⟨pickL cs lo (some (k : Int)), ?_, by omega⟩
  unfold stepF
  simp only [e, pickL_map, List.length_map]
  rw [if_pos (by show _ ≤ 16777216; omega)]
theorem small_ok (n : Nat) (h : Hs) (l : Nat) (cs : List Int) (first way : Int) (hw : -100000 ≤ way ∧ way ≤ 100000) (e : h[l]? = some (.lst (cs.map D.int))) :
    ∃ u : Tr, F__law_small (n + 4) [.loc l, .int first, .int way] h = .ok (tD u) h ∧ u.good ∧ u.knots ≤ 190 ∧ u.depth ≤ 28 := by
  have dr : ∀ (cell k many : Int) (h : Hs), 0 < many → -1000000 ≤ k ∧ k ≤ 1000000 → F__law_draw (n + 3) [.int cell, .int k, .int many] h = .ok (.int (drawI cell k many)) h := fun cell k many h a b => draw_ok (n + 2) h cell k many a b
  have d7 := fun h => dr first (way + 7) 4 h (by decide) (by omega)
  have d8 := fun h => dr first (way + 8) 6 h (by decide) (by omega)
  have w7 : cPow 10 9 = true := cPow_of (by decide) (by decide) (by decide)
  have m9 : ∀ i, cMod i 1000000000 = true := fun _ => cMod_of (by decide)
  rw [S__law_small]
  by_cases c0 : drawI first (way + 7) 4 = 0
  · obtain ⟨z, hz, hz2⟩ := atI_of (zs := [D.int 1, .int 2, .int 7, .int 1000000000, .int 5, .int (1 + first % 1000000000)]) (drawI_lt first (way + 8) (by decide : (0 : Int) < 6)).1 (drawI_lt first (way + 8) (by decide : (0 : Int) < 6)).2
    obtain ⟨k, rfl, kg⟩ : ∃ k : Int, z = .int k ∧ (Tr.bl k).good := by
      have f0 := Int.emod_nonneg first (show (1000000000 : Int) ≠ 0 by decide)
      have f1 := Int.emod_lt_of_pos first (show (0 : Int) < 1000000000 by decide)
      have := List.mem_of_getElem? hz2
      simp only [List.mem_cons, List.not_mem_nil, or_false] at this
      rcases this with rfl | rfl | rfl | rfl | rfl | rfl <;> exact ⟨_, rfl, by constructor <;> omega⟩
    refine ⟨.bl k, R.wp_eq.mp ?_, kg, bl_small k⟩
    have ixl : ∀ xs i, ixF (.loc h.length) (.int i) (h ++ [AO.lst xs]) = (atI xs i).map fun d => (d, h ++ [AO.lst xs]) := fun xs i => ix_lst (by simp)
    simp [wp_pure, wp_run, m__law_small, startD, wp_v, d7, d8, c0, w7, m9, ixl, hz, tD, noloc, nolocL]
  · by_cases c1 : drawI first (way + 7) 4 = 1
    · obtain ⟨u, hu, g, k, d⟩ := start_tree n (h ++ [AO.lst ((cs.take 3).map D.int)]) h.length (cs.take 3) first 2 (by simp)
      refine ⟨u, R.wp_eq.mp ?_, g, k, d⟩
      have sl : slF (.loc l) none (some 3) h = some (.loc h.length, h ++ [AO.lst ((cs.take 3).map D.int)]) := by
        rw [slF_lst e]
        have := cut_to (cs.map D.int) 3
        rw [List.map_take]
        exact congrArg (fun z => some (D.loc h.length, h ++ [AO.lst z])) this
      simp at hu sl
      simp [wp_pure, wp_run, m__law_small, startD, wp_v, d7, c0, c1, sl, hu, noloc_tD]
    · obtain ⟨u, hu, g, k, d⟩ := start_tree n h l cs first 3 e
      refine ⟨u, R.wp_eq.mp ?_, g, k, d⟩
      simp [wp_pure, wp_run, m__law_small, startD, wp_v, d7, c0, c1, hu, noloc_tD]
theorem filling_ok (n : Nat) (h : Hs) (l : Nat) (cs : List Int) (first way : Int) (hw : -10000 ≤ way ∧ way ≤ 10000) (e : h[l]? = some (.lst (cs.map D.int))) (hc : cs.length ≤ 63) :
    ∃ fs : List (Int × Tr), F__law_filling (n + 5) [.loc l, .int first, .int way] h = .ok (.loc h.length) (h ++ [.dct (mD tD fs)]) ∧ FilOk fs := by
  have dr : ∀ (cell k many : Int) (h : Hs), 0 < many → -1000000 ≤ k ∧ k ≤ 1000000 → F__law_draw (n + 4) [.int cell, .int k, .int many] h = .ok (.int (drawI cell k many)) h := fun cell k many h a b => draw_ok (n + 3) h cell k many a b
  have w7 : cPow 10 9 = true := cPow_of (by decide) (by decide) (by decide)
  have m9 : ∀ i, cMod i 1000000000 = true := fun _ => cMod_of (by decide)
  have main : (kNew.f (runM 3 6 (m__law_filling (F__law_draw (n + 4)) (F__law_small (n + 4)))) [.loc l, .int first, .int way] h).wp (fun d h' => ∃ fs : List (Int × Tr), d = .loc h.length ∧ h' = h ++ [.dct (mD tD fs)] ∧ FilOk fs) xF := by
    refine wp_new ?_
    rw [wp_run]
    refine ⟨rfl, ?_⟩
    unfold m__law_filling
    simp only [startD, List.map_cons, List.map_nil, List.length_cons, List.length_nil]
    obtain ⟨N, hN⟩ : ∃ N, N = [D.int 1, .int 2, .int 7, .int 1000000000, .int (1 + first % 1000000000), .int 3] := ⟨_, rfl⟩
    refine st_set (.loc h.length) (h ++ [.lst N]) ?_ ?_
    · rw [hN]; simp [wp_v, w7, m9]
    refine st_set (.loc (h.length + 1)) (h ++ [.lst N, .dct []]) ?_ ?_
    · simp
    rw [ws_seq]
    have ir : inR 6 = true := inR_of (by decide) (by decide)
    simp [wp_v, ir]
    obtain ⟨J, hJ⟩ : ∃ J : Nat → Sl → Hs → Prop, J = fun i ds h' => ∃ (fs : List (Int × Tr)) (r : Hs), fs.length ≤ i ∧ (fs.map (·.1)).Nodup ∧ (∀ p ∈ fs, p.2.good ∧ p.2.knots ≤ 190 ∧ p.2.depth ≤ 28) ∧ h' = h ++ (.lst N :: .dct (mD tD fs) :: r) ∧ ∃ a, ds = [some (.loc l), some (.int first), some (.int way), some (.loc h.length), some (.loc (h.length + 1)), a] := ⟨_, rfl⟩
    refine ws_loop _ J (by rw [hJ]; exact ⟨[], [], by simp, by simp, by simp, rfl, _, rfl⟩) (fun _ _ _ _ => trivial) ?_ ?_
    · intro i d ds h' hd hj
      rw [hJ] at hj
      obtain ⟨fs, r, fl, nd, ok, rfl, a, rfl⟩ := hj
      obtain ⟨k, rfl, k6⟩ : ∃ k : Nat, d = .int k ∧ k < 6 := by
        have := List.mem_of_getElem? hd
        obtain ⟨x, hx, rfl⟩ := List.mem_map.mp this
        exact ⟨x, rfl, by simpa using hx⟩
      have i6 : i < 6 := by
        have := (List.getElem?_eq_some_iff.mp hd).1
        simpa using this
      have dk := fun h => dr first (way + (k : Int)) 3 h (by decide) (by omega)
      have fin : ∀ (fs : List (Int × Tr)) (r : Hs) (a : Option D), fs.length ≤ i + 1 → (fs.map (·.1)).Nodup → (∀ p ∈ fs, p.2.good ∧ p.2.knots ≤ 190 ∧ p.2.depth ≤ 28) → J (i + 1) [some (.loc l), some (.int first), some (.int way), some (.loc h.length), some (.loc (h.length + 1)), a] (h ++ (.lst N :: .dct (mD tD fs) :: r)) := fun fs r a h1 h2 h3 => by rw [hJ]; exact ⟨fs, r, h1, h2, h3, rfl, _, rfl⟩
      by_cases c : 0 < drawI first (way + (k : Int)) 3
      · obtain ⟨cs2, st2, l2⟩ := step_lst (h := h ++ (.lst N :: .dct (mD tD fs) :: r)) (l := l) (lo := some (k : Int)) (k := 6) (get_app e) hc
        obtain ⟨u, hu, gu, ku, du⟩ := small_ok n (h ++ (.lst N :: .dct (mD tD fs) :: r) ++ [.lst (cs2.map D.int)]) (h ++ (.lst N :: .dct (mD tD fs) :: r)).length cs2 first (way + (k : Int)) (by omega) (by simp)
        obtain ⟨z, hz⟩ : ∃ z : Int, atI N (k : Int) = some (.int z) := by
          rw [hN]
          have k6 : k = 0 ∨ k = 1 ∨ k = 2 ∨ k = 3 ∨ k = 4 ∨ k = 5 := by omega
          rcases k6 with rfl | rfl | rfl | rfl | rfl | rfl <;> exact ⟨_, rfl⟩
        have ixN : ∀ x r, ixF (.loc h.length) (.int (k : Int)) (h ++ (.lst N :: x :: r)) = some (.int z, h ++ (.lst N :: x :: r)) := fun x r => by rw [ix_lst (xs := N) (by simp), hz]; rfl
        have st := set_dct (h := h ++ (.lst N :: .dct (mD tD fs) :: (r ++ [.lst (cs2.map D.int)]))) (l := h.length + 1) (kvs := mD tD fs) (k := .int z) (kk := .inl z) (v := tD u) (by simp) rfl (by rw [mD_len]; omega)
        rw [put_mD] at st
        have fin := fin (mPut fs z u) (r ++ [.lst (cs2.map D.int)]) (some (.int k)) (by have := mPut_len fs z u; omega) (mPut_nodup z u nd) (fun p hp => by
          unfold mPut at hp
          split at hp
          · obtain ⟨q, hq, rfl⟩ := List.mem_map.mp hp
            split
            · exact ⟨gu, ku, du⟩
            · exact ok q hq
          · rcases List.mem_append.mp hp with hp | hp
            · exact ok p hp
            · have : p = (z, u) := by simpa using hp
              rw [this]; exact ⟨gu, ku, du⟩)
        simp at st2 hu st
        simp [wp_v, dk, c, st2, hu, ixN, st, fin]
      · have fin := fin fs r (some (.int k)) (by omega) nd ok
        simp [wp_v, dk, c, fin]
    · intro ds h' hj
      rw [hJ] at hj
      obtain ⟨fs, r, fl, nd, ok, rfl, a, rfl⟩ := hj
      simp [wp_v, nolocO]
      refine ⟨noloc_mD noloc_tD fs, fs, rfl, nd, by simpa using fl, ok⟩
  rw [S__law_filling]
  obtain ⟨d, h', e, fs, rfl, rfl, F⟩ := R.wp_ex main
  exact ⟨fs, e, F⟩
end DV
namespace DV
open PySem PySem.Spec PyProof.Rows L2
theorem fill_good_of {fs : List (Int × Tr)} (ok : ∀ p ∈ fs, p.2.good) {t : Tr} (g : t.good) : (t.fill (mAt fs)).good := fill_good t g fun k _ u e => ok _ (mAt_mem e)
theorem dict_dct {h : Hs} {l : Nat} {kvs : List (Key × D)} (e : h[l]? = some (.dct kvs)) : dictT [.loc l] h = some (.loc h.length, h ++ [.dct kvs]) := by simp [dictT, e]
end DV
namespace DV
open PySem PySem.Spec PyProof.Rows L2
def behL (as bs : List (Int × Tr)) : List (Int × Tr) := as.map (fun p => (p.1, p.2.fill (mAt bs))) ++ bs.filter fun p => decide (p.1 ∉ as.map (·.1))
theorem mAt_map (f : Tr → Tr) (k : Int) : ∀ as : List (Int × Tr), mAt (as.map fun p => (p.1, f p.2)) k = (mAt as k).map f
  | [] => rfl
  | (j, a) :: as => by
    rw [List.map_cons, mAt_cons, mAt_cons, mAt_map f k as]
    split <;> rfl
theorem mAt_filter (q : Int → Bool) (k : Int) : ∀ bs : List (Int × Tr), mAt (bs.filter fun p => q p.1) k = if q k = true then mAt bs k else none
  | [] => by simp [mAt]
  | (j, b) :: bs => by
    have ih := mAt_filter q k bs
    rw [List.filter_cons]
    by_cases c : q j = true
    · rw [if_pos c, mAt_cons, mAt_cons, ih]
      by_cases e : j = k
      · rw [if_pos e, if_pos e, ← e, if_pos c]
      · rw [if_neg e, if_neg e]
    · rw [if_neg c, mAt_cons, ih]
      by_cases e : j = k
      · rw [← e, if_neg c, if_neg c]
      · rw [if_neg e]
theorem mAt_behL (as bs : List (Int × Tr)) (k : Int) : mAt (behL as bs) k = behind (mAt as) (mAt bs) k := by
  unfold behL behind
  have e := mAt_filter (fun j => decide (j ∉ as.map (·.1))) k bs
  rw [mAt_app, mAt_map (fun u => u.fill (mAt bs)), e]
  cases h : mAt as k with
  | some u => rfl
  | none => rw [if_pos (decide_eq_true (mAt_none.mp h))]; rfl
theorem behL_keys (as bs : List (Int × Tr)) : (behL as bs).map (·.1) = as.map (·.1) ++ (bs.map (·.1)).filter fun k => decide (k ∉ as.map (·.1)) := by
  unfold behL
  rw [List.map_append, List.map_map]
  congr 1
  rw [List.filter_map]; rfl
theorem behL_nodup {as bs : List (Int × Tr)} (ha : (as.map (·.1)).Nodup) (hb : (bs.map (·.1)).Nodup) : ((behL as bs).map (·.1)).Nodup := by
  rw [behL_keys]
  refine List.nodup_append.mpr ⟨ha, hb.filter _, fun x hx y hy e => ?_⟩
  have := (List.mem_filter.mp hy).2
  simp only [decide_eq_true_eq] at this
  exact this (e ▸ hx)
theorem behL_len (as bs : List (Int × Tr)) : (behL as bs).length ≤ as.length + bs.length := by
  unfold behL
  rw [List.length_append, List.length_map]
  have := List.length_filter_le (fun p : Int × Tr => decide (p.1 ∉ as.map (·.1))) bs
  omega
theorem not_mem_take {fs : List (Int × Tr)} (nd : (fs.map (·.1)).Nodup) {i : Nat} {k : Int} {a : Tr} (e : fs[i]? = some (k, a)) : k ∉ (fs.take i).map (·.1) := by
  intro m
  have il := (List.getElem?_eq_some_iff.mp e).1
  have h2 := List.drop_eq_getElem_cons il
  rw [List.getElem?_eq_getElem il] at e
  have q2 : fs[i] = (k, a) := Option.some.inj e
  rw [q2] at h2
  have h1 : fs = fs.take i ++ (k, a) :: fs.drop (i + 1) := by rw [← h2, List.take_append_drop]
  rw [h1, List.map_append, List.map_cons] at nd
  exact (List.nodup_append.mp nd).2.2 _ m _ List.mem_cons_self rfl
theorem one_behind_ok (n : Nat) (h : Hs) (a b : Nat) (as bs : List (Int × Tr)) (hab : a ≠ b) (ea : h[a]? = some (.dct (mD tD as))) (eb : h[b]? = some (.dct (mD tD bs))) (na : (as.map (·.1)).Nodup) (nb : (bs.map (·.1)).Nodup)
    (la : as.length ≤ 1000000) (lb : bs.length ≤ 1000000) (ha : ∀ p ∈ as, p.2.depth ≤ n ∧ p.2.knots ≤ 1000000) (hb : ∀ p ∈ bs, p.2.depth + 1 ≤ n ∧ p.2.knots ≤ 1000000) :
    (F_one_behind (n + 2) [.loc a, .loc b] h).wp (fun d h' => (∀ p ∈ as, ¬ (p.2.fill (mAt bs)).great) ∧ d = .loc h.length ∧ h' = h ++ [.dct (mD tD (behL as bs))])
      (fun c h' => (∃ p ∈ as, (p.2.fill (mAt bs)).great) ∧ c = "TooLong" ∧ ∃ r, h' = h.set a (.fdc (mD tD as)) ++ r) := by
  rw [S_one_behind]
  show (runM 2 4 (m_one_behind (F_filled (n + 1))) [.loc a, .loc b] h).wp _ _
  rw [wp_run]
  refine ⟨rfl, ?_⟩
  unfold m_one_behind
  simp only [startD, List.map_cons, List.map_nil, List.length_cons, List.length_nil]
  refine st_set (.loc h.length) (h ++ [.dct []]) ⟨rfl, rfl⟩ ?_
  rw [ws_seq]
  have lta : a < h.length := (List.getElem?_eq_some_iff.mp ea).1
  have ltb : b < h.length := (List.getElem?_eq_some_iff.mp eb).1
  refine ws_lock (i := 0) (l := a) (kvs := mD tD as) rfl (get_app ea) ?_
  rw [set_app lta]
  obtain ⟨H, hH⟩ : ∃ H, H = h.set a (.fdc (mD tD as)) := ⟨_, rfl⟩
  have Hl : H.length = h.length := by rw [hH, List.length_set]
  have Ha : H[a]? = some (.fdc (mD tD as)) := by rw [hH]; simp [lta]
  have Hb : H[b]? = some (.dct (mD tD bs)) := by rw [hH, List.getElem?_set_ne hab]; exact eb
  have Hk : H.set a (.dct (mD tD as)) = h := by rw [hH]; exact set_back ea
  rw [← hH]
  simp only [List.set_cons_succ, List.set_cons_zero, List.replicate]
  rw [ws_for]
  rw [wp_fdI (l := a) (kvs := mD tD as) rfl (get_app Ha)]
  obtain ⟨J, hJ⟩ : ∃ J : Nat → Sl → Hs → Prop, J = fun i ds h' => (∀ p ∈ as.take i, ¬ (p.2.fill (mAt bs)).great) ∧ h' = H ++ [.dct (mD tD ((as.take i).map fun p => (p.1, p.2.fill (mAt bs))))] ∧ ∃ x, ds = [some (.loc a), some (.loc b), some (.loc h.length), x] := ⟨_, rfl⟩
  refine ws_loop _ J (by rw [hJ]; exact ⟨by simp, rfl, _, rfl⟩) (fun _ _ _ _ => trivial) ?_ ?_
  · intro i d ds h' hd hj
    rw [hJ] at hj
    obtain ⟨ng, rfl, x, rfl⟩ := hj
    unfold mD at hd
    rw [List.map_map, List.getElem?_map] at hd
    cases q : as[i]? with
    | none => rw [q] at hd; cases hd
    | some q' =>
      obtain ⟨k, u⟩ := q'
      rw [q] at hd
      cases hd
      have il : i < as.length := (List.getElem?_eq_some_iff.mp q).1
      have mu := List.mem_of_getElem? q
      have hu := ha _ mu
      simp only at hu
      have e1 : as.take (i + 1) = as.take i ++ [(k, u)] := by rw [List.take_add_one, q]; rfl
      have nk := not_mem_take na q
      generalize hT : (as.take i).map (fun p => (p.1, p.2.fill (mAt bs))) = T
      have ix := ix_fdc (k := .int k) (kk := .inl k) (h := H ++ [AO.dct (mD tD T)]) (l := a) (get_app Ha) rfl
      rw [val_mD, mAt_of na mu] at ix
      have fo := filled_ok n (H ++ [AO.dct (mD tD T)]) b bs u (get_app Hb) hu.1 hu.2 (fun j _ v e => by have := hb _ (mAt_mem e); simp only at this; omega)
      simp at ix
      by_cases c : (u.fill (mAt bs)).great
      · rw [filR, if_pos c] at fo
        simp [wp_v, dK, ix, fo]
        exact ⟨k, u, mu, c⟩
      · rw [filR, if_neg c] at fo
        have st := set_dct (h := H ++ [AO.dct (mD tD T)]) (l := H.length) (kvs := mD tD T) (k := .int k) (kk := .inl k) (v := tD (u.fill (mAt bs))) (by simp) rfl (by rw [mD_len, ← hT, List.length_map, List.length_take]; omega)
        have nk2 : k ∉ T.map (·.1) := by
          rw [← hT, List.map_map]
          exact nk
        rw [put_mD, mPut_new nk2] at st
        have e2 : (as.take (i + 1)).map (fun p => (p.1, p.2.fill (mAt bs))) = T ++ [(k, u.fill (mAt bs))] := by rw [e1, List.map_append, hT]; rfl
        have fin : J (i + 1) [some (.loc a), some (.loc b), some (.loc h.length), some (.int k)] (H ++ [.dct (mD tD (T ++ [(k, u.fill (mAt bs))]))]) := by
          rw [hJ]
          refine ⟨fun p hp => ?_, by rw [e2], _, rfl⟩
          rw [e1] at hp
          rcases List.mem_append.mp hp with hp | hp
          · exact ng p hp
          · have : p = (k, u) := by simpa using hp
            rw [this]; exact c
        rw [← Hl] at fin ⊢
        simp at st
        simp [wp_v, dK, ix, fo, st, fin]
  · intro ds h' hj
    rw [hJ] at hj
    obtain ⟨ng, rfl, x, rfl⟩ := hj
    have kl : ((mD tD as).map fun p => dK p.1).length = as.length := by simp
    rw [kl, List.take_length] at ng ⊢
    refine ⟨get_app Ha, ?_⟩
    rw [set_app (by omega), Hk]
    rw [ws_seq]
    refine ws_lock (i := 1) (l := b) (kvs := mD tD bs) rfl (get_app eb) ?_
    rw [set_app ltb]
    obtain ⟨G, hG⟩ : ∃ G, G = h.set b (.fdc (mD tD bs)) := ⟨_, rfl⟩
    have Gl : G.length = h.length := by rw [hG, List.length_set]
    have Gb : G[b]? = some (.fdc (mD tD bs)) := by rw [hG]; simp [ltb]
    have Gk : G.set b (.dct (mD tD bs)) = h := by rw [hG]; exact set_back eb
    rw [← hG]
    rw [ws_for]
    rw [wp_fdI (l := b) (kvs := mD tD bs) rfl (get_app Gb)]
    generalize hT : as.map (fun p => (p.1, p.2.fill (mAt bs))) = T
    have Tk : T.map (·.1) = as.map (·.1) := by rw [← hT, List.map_map]; rfl
    obtain ⟨I, hI⟩ : ∃ I : Nat → Sl → Hs → Prop, I = fun i ds h' => h' = G ++ [.dct (mD tD (T ++ (bs.take i).filter fun p => decide (p.1 ∉ as.map (·.1))))] ∧ ∃ x, ds = [some (.loc a), some (.loc b), some (.loc h.length), x] := ⟨_, rfl⟩
    refine ws_loop _ I (by rw [hI]; exact ⟨by simp, _, rfl⟩) (fun _ _ _ _ => trivial) ?_ ?_
    · intro i d ds h' hd hj
      rw [hI] at hj
      obtain ⟨rfl, x, rfl⟩ := hj
      unfold mD at hd
      rw [List.map_map, List.getElem?_map] at hd
      cases q : bs[i]? with
      | none => rw [q] at hd; cases hd
      | some q' =>
        obtain ⟨k, u⟩ := q'
        rw [q] at hd
        cases hd
        have il : i < bs.length := (List.getElem?_eq_some_iff.mp q).1
        have mu := List.mem_of_getElem? q
        have e1 : bs.take (i + 1) = bs.take i ++ [(k, u)] := by rw [List.take_add_one, q]; rfl
        have nk := not_mem_take nb q
        have e2 : (bs.take (i + 1)).filter (fun p => decide (p.1 ∉ as.map (·.1))) = (bs.take i).filter (fun p => decide (p.1 ∉ as.map (·.1))) ++ if k ∈ as.map (·.1) then [] else [(k, u)] := by
          rw [e1, List.filter_append]
          congr 1
          rw [List.filter_cons]
          by_cases c : k ∈ as.map (·.1)
          · rw [if_pos c, if_neg (by simpa using c)]; rfl
          · rw [if_neg c, if_pos (by simpa using c)]; rfl
        have nkf : k ∉ ((bs.take i).filter (fun p => decide (p.1 ∉ as.map (·.1)))).map (·.1) := by
          intro m
          obtain ⟨p, hp, e⟩ := List.mem_map.mp m
          exact nk (List.mem_map.mpr ⟨p, (List.mem_filter.mp hp).1, e⟩)
        have fl := List.length_filter_le (fun p : Int × Tr => decide (p.1 ∉ as.map (·.1))) (bs.take i)
        rw [List.length_take] at fl
        generalize hW : (bs.take i).filter (fun p => decide (p.1 ∉ as.map (·.1))) = W at e2 nkf fl
        have fin : ∀ W2 x, W2 = (bs.take (i + 1)).filter (fun p => decide (p.1 ∉ as.map (·.1))) → I (i + 1) [some (.loc a), some (.loc b), some (.loc h.length), x] (G ++ [.dct (mD tD (T ++ W2))]) := fun W2 x e => by
          rw [hI]; exact ⟨by rw [e], _, rfl⟩
        have ni := nin_dct (h := G ++ [AO.dct (mD tD (T ++ W))]) (l := G.length) (kvs := mD tD (T ++ W)) (k := .int k) (kk := .inl k) (by simp) rfl
        rw [val_mD] at ni
        by_cases c : k ∈ as.map (·.1)
        · have fin := fin W (some (.int k)) (by rw [e2, if_pos c, List.append_nil])
          have is : ((mAt (T ++ W) k).map tD).isSome = true := by
            rw [Option.isSome_map, mAt_isSome, List.map_append, Tk]
            exact decide_eq_true (List.mem_append_left _ c)
          rw [is] at ni
          rw [← Gl] at fin ⊢
          simp at ni
          simp [wp_v, dK, ni, fin]
        · have fin := fin (W ++ [(k, u)]) (some (.int k)) (by rw [e2, if_neg c])
          have nk3 : k ∉ (T ++ W).map (·.1) := by
            rw [List.map_append, Tk]
            intro m
            rcases List.mem_append.mp m with m | m
            · exact c m
            · exact nkf m
          have is : ((mAt (T ++ W) k).map tD).isSome = false := by
            rw [Option.isSome_map, mAt_isSome]
            exact decide_eq_false nk3
          rw [is] at ni
          have ix := ix_fdc (k := .int k) (kk := .inl k) (h := G ++ [AO.dct (mD tD (T ++ W))]) (l := b) (get_app Gb) rfl
          rw [val_mD, mAt_of nb mu] at ix
          have st := set_dct (h := G ++ [AO.dct (mD tD (T ++ W))]) (l := G.length) (kvs := mD tD (T ++ W)) (k := .int k) (kk := .inl k) (v := tD u) (by simp) rfl (by rw [mD_len, List.length_append, ← hT, List.length_map]; omega)
          rw [put_mD, mPut_new nk3, List.append_assoc] at st
          rw [← Gl] at fin ⊢
          simp at ni ix st
          simp [wp_v, dK, ni, ix, st, fin]
    · intro ds h' hj
      rw [hI] at hj
      obtain ⟨rfl, x, rfl⟩ := hj
      have kl : ((mD tD bs).map fun p => dK p.1).length = bs.length := by simp
      rw [kl, List.take_length]
      refine ⟨get_app Gb, ?_⟩
      rw [set_app (by omega), Gk]
      have eL : T ++ bs.filter (fun p => decide (p.1 ∉ as.map (·.1))) = behL as bs := by rw [← hT]; rfl
      rw [eL]
      simp [wp_v]
      intro k u hp
      exact ng (k, u) hp
end DV
namespace DV
open PySem PySem.Spec PyProof.Rows L2
end DV
namespace DV
open PySem PySem.Spec PyProof.Rows L2
end DV
namespace DV
open PySem PySem.Spec PyProof.Rows L2
mutual
def Tr.nam : Tr → Prop
  | .bl _ => True
  | .bk s ps => nameB s = true ∧ ps.length ≤ 9 ∧ namL ps
def namL : List Tr → Prop
  | [] => True
  | t :: ts => t.nam ∧ namL ts
end
noncomputable instance : DecidableEq Tr := fun _ _ => Classical.propDecidable _
end DV
namespace DV
open PySem PySem.Spec PyProof.Rows L2
end DV
namespace DV
open PySem PySem.Spec PyProof.Rows L2
end DV
namespace DV
open PySem PySem.Spec PyProof.Rows L2
end DV
namespace DV
open PySem PySem.Spec PyProof.Rows L2
structure Okt (s : Str) (n : Nat) : Prop where
  len : s.length ≤ n
  sg : ∀ c ∈ s.cps.toList, c < 0x110000
theorem Okt.strOk {s : Str} {n : Nat} (h : Okt s n) : PyData.strOk s = true := by
  unfold PyData.strOk
  rw [Array.all_eq_true]
  intro i hi
  exact decide_eq_true (h.sg _ (by simp))
theorem Okt.app {a b : Str} {n m : Nat} (h : Okt a n) (g : Okt b m) : Okt (a ++ b) (n + m) := by
  refine ⟨by rw [app_len]; have := h.len; have := g.len; omega, fun c hc => ?_⟩
  have e : (a ++ b).cps.toList = a.cps.toList ++ b.cps.toList := Array.toList_append
  rw [e] at hc
  rcases List.mem_append.mp hc with hc | hc
  · exact h.sg c hc
  · exact g.sg c hc
theorem Okt.cut {a : Str} {n : Nat} (lo hi : Option Int) (h : Okt a n) : Okt (cutS a lo hi) n := by
  refine ⟨Nat.le_trans (cut_len a lo hi) h.len, fun c hc => h.sg c ?_⟩
  have e : (cutS a lo hi).cps.toList = cutL a.cps.toList lo hi := by
    unfold cutL
    simp [cutS]
    rfl
  rw [e] at hc
  exact List.mem_of_mem_drop (List.mem_of_mem_take hc)
theorem Okt.rep {a : Str} {n : Nat} (k : Nat) (h : Okt a n) : Okt (repS a k) (n * k) := by
  refine ⟨by rw [rep_size]; exact Nat.mul_le_mul_right _ h.len, fun c hc => h.sg c ?_⟩
  have e : (repS a k).cps.toList = (List.replicate k a.cps.toList).flatten := by simp [repS]
  rw [e] at hc
  obtain ⟨l, hl, hc⟩ := List.mem_flatten.mp hc
  rw [List.eq_of_mem_replicate hl] at hc
  exact hc
theorem Okt.mono {a : Str} {n m : Nat} (h : Okt a n) (l : n ≤ m) : Okt a m := ⟨Nat.le_trans h.len l, h.sg⟩
end DV
namespace DV
open PySem PySem.Spec PyProof.Rows L2
end DV
namespace DV
open PySem PySem.Spec PyProof.Rows L2
end DV
namespace DV
open PySem PySem.Spec PyProof.Rows L2
end DV
namespace DV
open PySem PySem.Spec PyProof.Rows L2
end DV
namespace DV
open PySem PySem.Spec PyProof.Rows L2
end DV
namespace DV
open PySem PySem.Spec PyProof.Rows L2
end DV
namespace DV
open PySem PySem.Spec PyProof.Rows L2
end DV
namespace DV
open PySem PySem.Spec PyProof.Rows L2
noncomputable def badL (as bs : List (Int × Tr)) : List (Int × Tr) := open Classical in as.filter fun p => decide (p.2.fill (mAt bs)).great
theorem badL_nil {as bs : List (Int × Tr)} : badL as bs = [] ↔ ∀ p ∈ as, ¬ (p.2.fill (mAt bs)).great := by
  unfold badL
  rw [List.filter_eq_nil_iff]
  simp
theorem great_lc (n : Nat) (h : Hs) (i j k a b : Nat) (ds : Sl) (as bs : List (Int × Tr)) (hi : ds[i]? = some (some (.loc a))) (hj : ds[j]? = some (some (.loc b))) (hik : i ≠ k) (hjk : j ≠ k) (hk : k < ds.length) (hab : a ≠ b)
    (ea : h[a]? = some (.dct (mD tD as))) (eb : h[b]? = some (.dct (mD tD bs))) (na : (as.map (·.1)).Nodup) (nb : (bs.map (·.1)).Nodup) (la : as.length ≤ 1000000) (lb : bs.length ≤ 1000000) (ka : ∀ p ∈ as, p.2.knots ≤ 99999) (kb : ∀ p ∈ bs, p.2.knots ≤ 99999) :
    lockE i (lcM [k] (fdI i) (nameG k) (truM (callM (F__law_too_great (n + 2)) (consA (binM ixF (vM i) (vM k)) (consA (vM j) nilA)))) (vM k)) ds h = .ok (.loc h.length) (h ++ [.lst ((badL as bs).map fun p => .int p.1)]) := by
  refine R.wp_eq.mp ?_
  refine wp_lock hi ea ?_
  have lta : a < h.length := (List.getElem?_eq_some_iff.mp ea).1
  obtain ⟨H, hH⟩ : ∃ H, H = h.set a (.fdc (mD tD as)) := ⟨_, rfl⟩
  have Hl : H.length = h.length := by rw [hH, List.length_set]
  have Ha : ∀ q : Hs, (H ++ q)[a]? = some (.fdc (mD tD as)) := fun q => get_app (by rw [hH]; simp [lta])
  have Hb : ∀ q : Hs, (H ++ q)[b]? = some (.dct (mD tD bs)) := fun q => get_app (by rw [hH, List.getElem?_set_ne hab]; exact eb)
  have Hk : H.set a (.dct (mD tD as)) = h := by rw [hH]; exact set_back ea
  rw [← hH]
  have H0 := Ha []
  rw [List.append_nil] at H0
  rw [wp_lc, wp_fdI hi H0]
  classical
  have lc := lc_loop (h0 := H) (gd := fun _ => True) (T := nameG k) (C := truM (callM (F__law_too_great (n + 2)) (consA (binM ixF (vM i) (vM k)) (consA (vM j) nilA)))) (A := vM k) (ds := wipeD ds [k]) ((mD tD as).map fun p => dK p.1)
    (as.map fun p => if decide (p.2.fill (mAt bs)).great = true then some (D.int p.1) else none) (by simp) [] (by simp; omega) (fun _ => trivial) (fun m d o acc e1 e2 => by
      unfold mD at e1
      rw [List.map_map, List.getElem?_map] at e1
      rw [List.getElem?_map] at e2
      cases q : as[m]? with
      | none => rw [q] at e1; cases e1
      | some q' =>
        obtain ⟨key, u⟩ := q'
        rw [q] at e1 e2
        cases e1
        cases e2
        have mu := List.mem_of_getElem? q
        have ix := ix_fdc (k := .int key) (kk := .inl key) (Ha [.lst acc]) rfl
        rw [val_mD, mAt_of na mu] at ix
        have tg := too_great_ok n (H ++ [.lst acc]) b bs u (Hb _) nb lb (ka _ mu) kb
        have v1 : ∀ d h, vM i ((wipeD ds [k]).set k d) h = .ok (.loc a) h := fun d h => by
          have : ((wipeD ds [k]).set k d)[i]? = some (some (.loc a)) := by
            rw [List.getElem?_set_ne (Ne.symm hik)]
            show ((wipeD ds []).set k none)[i]? = _
            rw [List.getElem?_set_ne (Ne.symm hik)]
            exact hi
          unfold vM; rw [this]
        have v2 : ∀ d h, vM j ((wipeD ds [k]).set k d) h = .ok (.loc b) h := fun d h => by
          have : ((wipeD ds [k]).set k d)[j]? = some (some (.loc b)) := by
            rw [List.getElem?_set_ne (Ne.symm hjk)]
            show ((wipeD ds []).set k none)[j]? = _
            rw [List.getElem?_set_ne (Ne.symm hjk)]
            exact hj
          unfold vM; rw [this]
        have v3 : ∀ d h, vM k ((wipeD ds [k]).set k (some d)) h = .ok d h := fun d h => by
          have : ((wipeD ds [k]).set k (some d))[k]? = some (some d) := by
            rw [List.getElem?_set_self]
            show k < ((wipeD ds []).set k none).length
            rw [List.length_set]; exact hk
          unfold vM; rw [this]
        simp at ix
        generalize wipeD ds [k] = W at v1 v2 v3
        unfold LcTurn
        by_cases c : (u.fill (mAt bs)).great
        · rw [decide_eq_true c] at tg
          simp [dK, v1, v2, v3, ix, tg, truD, c]
        · rw [decide_eq_false c] at tg
          simp [dK, v1, v2, v3, ix, tg, truD, c])
  rw [lc]
  rw [wp_ok]
  have ef : (as.map fun p => if decide (p.2.fill (mAt bs)).great = true then some (D.int p.1) else none).filterMap id = (badL as bs).map fun p => .int p.1 := by
    have := filterMap_if (p := fun p : Int × Tr => decide (p.2.fill (mAt bs)).great) (f := fun p : Int × Tr => D.int p.1) as
    unfold badL
    exact this
  rw [ef, List.nil_append]
  refine ⟨Ha _, by rw [Hl], ?_⟩
  rw [set_app (by omega), Hk]
end DV
namespace DV
open PySem PySem.Spec PyProof.Rows L2
theorem is_due_ok (n : Nat) (h : Hs) (f d : Nat) (F Du : List (Int × Tr)) (hfd : f ≠ d) (ef : h[f]? = some (.dct (mD tD F))) (ed : h[d]? = some (.dct (mD tD Du))) (nd : (Du.map (·.1)).Nodup) (hl : F.length = Du.length) (hz : Du.length ≤ 1000000)
    (hs : ∀ p ∈ Du, mAt F p.1 = some p.2) (hk : ∀ p ∈ Du, p.2.good ∧ 2 * p.2.depth + 1 ≤ n) : F__law_is_due (n + 1) [.loc f, .loc d] h = .ok (.bl true) h := by
  rw [S__law_is_due]
  refine R.wp_eq.mp ?_
  rw [wp_pure, wp_run]
  refine ⟨rfl, ?_⟩
  unfold m__law_is_due
  simp only [startD, List.map_cons, List.map_nil, List.length_cons, List.length_nil]
  simp only [List.replicate, List.cons_append, List.nil_append]
  have ty : isF "dict" (.loc f) h = some (.bl true, h) := by simp [isF, tyD, ef, isB]
  have l1 := len_dct ef
  have l2 := len_dct ed
  rw [mD_len] at l1 l2
  refine st_guard h (by simp [wp_v, ty, truD, l1, l2, hl]) ?_
  rw [ws_ret, wp_bin]
  refine wp_lock (i := 1) (l := d) (kvs := mD tD Du) rfl ed ?_
  have ltd : d < h.length := (List.getElem?_eq_some_iff.mp ed).1
  obtain ⟨H, hH⟩ : ∃ H, H = h.set d (.fdc (mD tD Du)) := ⟨_, rfl⟩
  have Hl : H.length = h.length := by rw [hH, List.length_set]
  have Hd : ∀ q : Hs, (H ++ q)[d]? = some (.fdc (mD tD Du)) := fun q => get_app (by rw [hH]; simp [ltd])
  have Hf : ∀ q : Hs, (H ++ q)[f]? = some (.dct (mD tD F)) := fun q => get_app (by rw [hH, List.getElem?_set_ne hfd.symm]; exact ef)
  have Hk : H.set d (.dct (mD tD Du)) = h := by rw [hH]; exact set_back ed
  rw [← hH]
  have H0 := Hd []
  rw [List.append_nil] at H0
  rw [wp_lc, wp_fdI (l := d) (kvs := mD tD Du) rfl H0]
  have lc := lc_loop (h0 := H) (gd := fun _ => True) (T := nameG 2) (C := orM (tbM (binM ninF (vM 2) (vM 0))) (notM (truM (callM (F__law_alike n) (consA (binM ixF (vM 0) (vM 2)) (consA (binM ixF (vM 1) (vM 2)) nilA)))))) (A := vM 2) (ds := wipeD [some (.loc f), some (.loc d), none] [2]) ((mD tD Du).map fun p => dK p.1)
    (Du.map fun _ => none) (by simp) [] (by simp; omega) (fun _ => trivial) (fun m d0 o acc e1 e2 => by
      unfold mD at e1
      rw [List.map_map, List.getElem?_map] at e1
      rw [List.getElem?_map] at e2
      cases q : Du[m]? with
      | none => rw [q] at e1; cases e1
      | some q' =>
        obtain ⟨key, u⟩ := q'
        rw [q] at e1 e2
        cases e1
        cases e2
        have mu := List.mem_of_getElem? q
        have su := hs _ mu
        have gu := hk _ mu
        simp only at su gu
        have ix := ix_fdc (k := .int key) (kk := .inl key) (Hd [.lst acc]) rfl
        rw [val_mD, mAt_of nd mu] at ix
        have ix2 := ix_dct (k := .int key) (kk := .inl key) (Hf [.lst acc]) rfl
        rw [val_mD, su] at ix2
        have ni := nin_dct (k := .int key) (kk := .inl key) (Hf [.lst acc]) rfl
        rw [val_mD, su] at ni
        have al := fun h => alike_tree h (n := n) gu.1 gu.2
        simp at ix ix2 ni
        unfold LcTurn
        simp [wp_v, wipeD, dK, ni, ix, ix2, al, truD])
  rw [lc, wp_ok]
  have ef2 : (Du.map fun _ => (none : Option D)).filterMap id = [] := by
    clear lc hs hk nd hl hz ed l2 Hd Hk H0 hH
    induction Du with
    | nil => rfl
    | cons p r ih => simp [List.filterMap_cons]
  rw [ef2, List.append_nil]
  refine ⟨Hd _, ?_⟩
  rw [set_app (by omega), Hk]
  have eq : eqF (.loc h.length) (.loc (h.length + 1)) (h ++ [AO.lst [], AO.lst []]) = some (.bl true, h ++ [AO.lst [], AO.lst []]) := by
    have := eqB_empty (h := h ++ [AO.lst []]) (l := h.length) (xs := []) (by simp)
    unfold eqF
    simp at this
    rw [this]; rfl
  simp [wp_v, Hl, eq, noloc]
/-- the law's own filling that is both -/
def duL (as bs : List (Int × Tr)) : List (Int × Tr) := as.foldl (fun acc p => mPut acc p.1 (p.2.fill (mAt bs))) bs
theorem mPut_memK {acc : List (Int × Tr)} {k : Int} {u : Tr} (x : Int) : x ∈ (mPut acc k u).map (·.1) ↔ x ∈ acc.map (·.1) ∨ x = k := by
  rw [mPut_keys]
  by_cases c : k ∈ acc.map (·.1)
  · rw [if_pos c]
    exact ⟨.inl, fun h => h.elim id fun e => e ▸ c⟩
  · rw [if_neg c, List.mem_append, List.mem_singleton]
theorem duL_gen (bs : List (Int × Tr)) : ∀ (as acc : List (Int × Tr)), (acc.map (·.1)).Nodup → (as.map (·.1)).Nodup →
    ((as.foldl (fun acc p => mPut acc p.1 (p.2.fill (mAt bs))) acc).map (·.1)).Nodup ∧ (∀ x, x ∈ (as.foldl (fun acc p => mPut acc p.1 (p.2.fill (mAt bs))) acc).map (·.1) ↔ x ∈ acc.map (·.1) ∨ x ∈ as.map (·.1)) ∧
    ∀ x, mAt (as.foldl (fun acc p => mPut acc p.1 (p.2.fill (mAt bs))) acc) x = match mAt as x with | some u => some (u.fill (mAt bs)) | none => mAt acc x
  | [], acc, na, _ => by simp [na, mAt]
  | (k, u) :: as, acc, na, nb => by
    rw [List.map_cons, List.nodup_cons] at nb
    obtain ⟨h1, h2, h3⟩ := duL_gen bs as (mPut acc k (u.fill (mAt bs))) (mPut_nodup k _ na) nb.2
    rw [List.foldl_cons]
    refine ⟨h1, fun x => ?_, fun x => ?_⟩
    · rw [h2 x, mPut_memK, List.map_cons, List.mem_cons]
      constructor
      · rintro ((h | h) | h)
        · exact .inl h
        · exact .inr (.inl h)
        · exact .inr (.inr h)
      · rintro (h | h | h)
        · exact .inl (.inl h)
        · exact .inl (.inr h)
        · exact .inr h
    · rw [h3 x, mAt_cons, mAt_put]
      by_cases c : k = x
      · have : mAt as x = none := mAt_none.mpr (by rw [← c]; exact nb.1)
        rw [this, if_pos c, if_pos c.symm]
      · rw [if_neg c]
        cases mAt as x with
        | some v => rfl
        | none => rw [if_neg fun z => c z.symm]
theorem duL_ok {as bs : List (Int × Tr)} (na : (as.map (·.1)).Nodup) (nb : (bs.map (·.1)).Nodup) : ((duL as bs).map (·.1)).Nodup ∧ (behL as bs).length = (duL as bs).length ∧ ∀ p ∈ duL as bs, mAt (behL as bs) p.1 = some p.2 := by
  obtain ⟨h1, h2, h3⟩ := duL_gen bs as bs nb na
  refine ⟨h1, ?_, fun p hp => ?_⟩
  · have n2 := behL_nodup na nb
    have mem : ∀ x, x ∈ (behL as bs).map (·.1) ↔ x ∈ (duL as bs).map (·.1) := fun x => by
      rw [show (duL as bs).map (·.1) = _ from rfl]
      unfold duL
      rw [h2 x, behL_keys, List.mem_append, List.mem_filter, decide_eq_true_eq]
      constructor
      · rintro (h | ⟨h, _⟩)
        · exact .inr h
        · exact .inl h
      · intro h
        by_cases c : x ∈ as.map (·.1)
        · exact .inl c
        · rcases h with h | h
          · exact .inr ⟨h, c⟩
          · exact .inl h
    have pm := (List.perm_ext_iff_of_nodup n2 h1).mpr mem
    have := pm.length_eq
    rw [List.length_map] at this
    rw [this]
    exact List.length_map _
  · have m := mAt_of h1 hp
    have := h3 p.1
    rw [this] at m
    rw [mAt_behL]
    unfold behind
    cases e : mAt as p.1 with
    | some u => rw [e] at m; exact m
    | none => rw [e] at m; exact m
theorem duL_mem {as bs : List (Int × Tr)} (na : (as.map (·.1)).Nodup) (nb : (bs.map (·.1)).Nodup) {p : Int × Tr} (hp : p ∈ duL as bs) : (∃ q ∈ as, p.2 = q.2.fill (mAt bs)) ∨ ∃ q ∈ bs, p.2 = q.2 := by
  obtain ⟨h1, h2, h3⟩ := duL_gen bs as bs nb na
  have m := mAt_of h1 hp
  rw [h3 p.1] at m
  cases e : mAt as p.1 with
  | some u => rw [e] at m; exact .inl ⟨_, mAt_mem e, (Option.some.inj m).symm⟩
  | none => rw [e] at m; exact .inr ⟨_, mAt_mem m, rfl⟩
end DV
namespace DV
open PySem PySem.Spec PyProof.Rows L2
theorem neempty17 {h : Hs} {l : Nat} {xs : List D} (e : h[l]? = some (.lst xs)) : neF (.loc l) (.loc h.length) (h ++ [AO.lst []]) = some (.bl (!xs.isEmpty), h ++ [AO.lst []]) := by
  unfold neF; rw [eqB_empty e]; rfl
theorem law_k17_ok (ns : List Int) (hl : ns.length ≤ 63) : ∃ h, F_law_k17x 230 [.ro ns] [] = .ok (.bl true) h := by
  have w : (F_law_k17x (229 + 1) [.ro ns] []).wp (fun d _ => d = .bl true) xF := by
    rw [S_law_k17x]
    have c0 := fun h => cell0_ok 228 h ns
    generalize cellI ns 0 = first at c0
    obtain ⟨c1, s1, l1⟩ := step_ro (h := []) (ns := ns) (lo := some 1) (k := 2) (by decide) hl
    obtain ⟨as, ea, A⟩ := filling_ok 224 [AO.lst (c1.map D.int)] 0 c1 first 30 (by decide) rfl l1
    obtain ⟨c2, s2, l2⟩ := step_ro (h := [AO.lst (c1.map D.int), .dct (mD tD as)]) (ns := ns) (lo := some 2) (k := 2) (by decide) hl
    obtain ⟨bs, eb, B⟩ := filling_ok 224 [AO.lst (c1.map D.int), .dct (mD tD as), AO.lst (c2.map D.int)] 2 c2 first 44 (by decide) rfl l2
    rw [wp_pure, wp_run]
    refine ⟨rfl, ?_⟩
    unfold m_law_k17x
    simp only [startD, List.map_cons, List.map_nil, List.length_cons, List.length_nil]
    refine st_set (.int first) [] (by simp [wp_v, c0]) ?_
    refine st_set (.loc 1) [AO.lst (c1.map D.int), .dct (mD tD as)] ?_ ?_
    · simp at s1 ea
      simp [wp_v, s1, ea]
    refine st_set (.loc 3) [AO.lst (c1.map D.int), .dct (mD tD as), AO.lst (c2.map D.int), .dct (mD tD bs)] ?_ ?_
    · simp at s2 eb
      simp [wp_v, s2, eb]
    clear s1 s2 ea eb
    generalize AO.lst (c1.map D.int) = b0
    generalize AO.lst (c2.map D.int) = b2
    have q1 := dict_dct (h := [b0, .dct (mD tD as), b2, .dct (mD tD bs)]) (l := 1) (kvs := mD tD as) rfl
    have q2 := dict_dct (h := [b0, .dct (mD tD as), b2, .dct (mD tD bs), .dct (mD tD as)]) (l := 3) (kvs := mD tD bs) rfl
    refine st_set (.loc 6) [b0, .dct (mD tD as), b2, .dct (mD tD bs), .dct (mD tD as), .dct (mD tD bs), .lst [.loc 4, .loc 5]] ?_ ?_
    · simp at q1 q2
      simp [wp_v, q1, q2]
    clear q1 q2
    refine st_set .non _ ⟨rfl, rfl⟩ ?_
    refine st_set (.bl false) _ ⟨rfl, rfl⟩ ?_
    simp only [List.set_cons_succ, List.set_cons_zero, List.replicate, List.cons_append, List.nil_append]
    obtain ⟨N, hN⟩ : ∃ N : Hs, N = [b0, .dct (mD tD as), b2, .dct (mD tD bs), .dct (mD tD as), .dct (mD tD bs), .lst [.loc 4, .loc 5]] := ⟨_, rfl⟩
    have Nl : N.length = 7 := by rw [hN]; rfl
    have ob := one_behind_ok 227 N 4 5 as bs (by decide) (by rw [hN]; rfl) (by rw [hN]; rfl) A.nd B.nd (by have := A.len; omega) (by have := B.len; omega) (fun p hp => by have := (A.ok p hp).2; omega) (fun p hp => by have := (B.ok p hp).2; omega)
    have i0 : ixF (.loc 6) (.int 0) N = some (.loc 4, N) := by rw [hN]; rfl
    have i1 : ixF (.loc 6) (.int 1) N = some (.loc 5, N) := by rw [hN]; rfl
    have eA : ∀ p ∈ as, p.2.good ∧ p.2.depth ≤ 94 := fun p hp => ⟨(A.ok p hp).1, by have := (A.ok p hp).2; omega⟩
    have eBq : ∀ p ∈ bs, p.2.good ∧ p.2.depth ≤ 94 := fun p hp => ⟨(B.ok p hp).1, by have := (B.ok p hp).2; omega⟩
    /- the look at what was handed in -/
    have eqs : ∀ (H : Hs) (o1 o4 : AO), dctO o1 = some (mD tD as) → dctO o4 = some (mD tD as) → H[1]? = some o1 → H[3]? = some (.dct (mD tD bs)) → H[4]? = some o4 → H[5]? = some (.dct (mD tD bs)) → pairsEq H [.loc 4, .loc 5] [.loc 1, .loc 3] := by
      intro H o1 o4 d1 d4 h1 h3 h4 h5
      unfold pairsEq
      refine ⟨eqDB_same A.nd eA (by show (H[4]?).bind dctO = _; rw [h4]; exact d4) (by show (H[1]?).bind dctO = _; rw [h1]; exact d1), ?_⟩
      unfold pairsEq
      exact ⟨eqDB_same B.nd eBq (by show (H[5]?).bind dctO = _; rw [h5]; rfl) (by show (H[3]?).bind dctO = _; rw [h3]; rfl), by unfold pairsEq; trivial⟩
    rw [← hN]
    by_cases gr : ∃ p ∈ as, (p.2.fill (mAt bs)).great
    · have er : ∃ r, F_one_behind 229 [.loc 4, .loc 5] N = .exc "TooLong" (N.set 4 (.fdc (mD tD as)) ++ r) := by
        cases e : F_one_behind 229 [.loc 4, .loc 5] N with
        | ok d h => rw [e] at ob; obtain ⟨p, hp, g⟩ := gr; exact absurd g (ob.1 p hp)
        | exc c h => rw [e] at ob; obtain ⟨_, rfl, r, rfl⟩ := ob; exact ⟨r, rfl⟩
        | bad => rw [e] at ob; exact ob.elim
      obtain ⟨r, er⟩ := er
      obtain ⟨H, hH⟩ : ∃ H : Hs, H = N.set 4 (.fdc (mD tD as)) ++ r := ⟨_, rfl⟩
      have H1 : ∀ q : Hs, (H ++ q)[1]? = some (.dct (mD tD as)) := fun q => by rw [hH, hN]; rfl
      have H3 : ∀ q : Hs, (H ++ q)[3]? = some (.dct (mD tD bs)) := fun q => by rw [hH, hN]; rfl
      have H4 : ∀ q : Hs, (H ++ q)[4]? = some (.fdc (mD tD as)) := fun q => by rw [hH, hN]; rfl
      have H5 : ∀ q : Hs, (H ++ q)[5]? = some (.dct (mD tD bs)) := fun q => by rw [hH, hN]; rfl
      have H6 : ∀ q : Hs, (H ++ q)[6]? = some (.lst [.loc 4, .loc 5]) := fun q => by rw [hH, hN]; rfl
      rw [← hH] at er
      refine st_seq [some (.ro ns), some (.int first), some (.loc 1), some (.loc 3), some (.loc 6), some .non, some (.bl true), none, none] H ?_ ?_
      · rw [ws_try]
        have : setM 5 (callM (F_one_behind 229) (consA (binM ixF (vM 4) (cM (.int 0))) (consA (binM ixF (vM 4) (cM (.int 1))) nilA))) [some (.ro ns), some (.int first), some (.loc 1), some (.loc 3), some (.loc 6), some .non, some (.bl false), none, none] N = .exc "TooLong" [some (.ro ns), some (.int first), some (.loc 1), some (.loc 3), some (.loc 6), some .non, some (.bl false), none, none] H := by
          simp [callM, consA, nilA, vM, binM, setM, cM, lift, i0, i1, er]
        rw [this]
        have tb : tabF [("FormError", false), ("TooLong", true)] "TooLong" = some true := rfl
        simp only [tb]
        refine ws_suite _ _ ?_
        simp [wp_v, nameM, dropS]
      have ne := (eqLD_of (h := H ++ [.lst [.loc 1, .loc 3]]) (a := 6) (b := H.length) (H6 _) (by simp) (eqs _ _ _ rfl rfl (H1 _) (H3 _) (H4 _) (H5 _))).2
      have lc := great_lc 227 (H ++ [.lst [.loc 1, .loc 3]]) 2 3 7 1 3 [some (.ro ns), some (.int first), some (.loc 1), some (.loc 3), some (.loc 6), some .non, some (.bl true), none, none] as bs rfl rfl (by decide) (by decide) (by simp) (by decide) (H1 _) (H3 _) A.nd B.nd (by have := A.len; omega) (by have := B.len; omega) (fun p hp => by have := (A.ok p hp).2; omega) (fun p hp => by have := (B.ok p hp).2; omega)
      have cb : badL as bs ≠ [] := fun z => by obtain ⟨p, hp, g⟩ := gr; exact absurd g (badL_nil.mp z p hp)
      obtain ⟨BL, hBL⟩ : ∃ BL, BL = (badL as bs).map fun p : Int × Tr => D.int p.1 := ⟨_, rfl⟩
      rw [← hBL] at lc
      have ne2 := neempty17 (h := H ++ [.lst [.loc 1, .loc 3], .lst BL]) (l := H.length + 1) (xs := BL) (by simp)
      have e0 : BL.isEmpty = false := by
        rw [hBL]
        cases q : badL as bs with
        | nil => exact absurd q cb
        | cons p r => rfl
      rw [e0] at ne2
      simp at ne lc ne2
      simp [wp_v, ne, lc, ne2, noloc]
    · have ng : ∀ p ∈ as, ¬ (p.2.fill (mAt bs)).great := fun p hp g => gr ⟨p, hp, g⟩
      have er : F_one_behind 229 [.loc 4, .loc 5] N = .ok (.loc 7) (N ++ [.dct (mD tD (behL as bs))]) := by
        cases e : F_one_behind 229 [.loc 4, .loc 5] N with
        | ok d h => rw [e] at ob; obtain ⟨_, rfl, rfl⟩ := ob; rw [Nl]
        | exc c h => rw [e] at ob; exact absurd ob.1 gr
        | bad => rw [e] at ob; exact ob.elim
      obtain ⟨H, hH⟩ : ∃ H : Hs, H = N ++ [.dct (mD tD (behL as bs))] := ⟨_, rfl⟩
      have H1 : ∀ q : Hs, (H ++ q)[1]? = some (.dct (mD tD as)) := fun q => by rw [hH, hN]; rfl
      have H3 : ∀ q : Hs, (H ++ q)[3]? = some (.dct (mD tD bs)) := fun q => by rw [hH, hN]; rfl
      have H4 : ∀ q : Hs, (H ++ q)[4]? = some (.dct (mD tD as)) := fun q => by rw [hH, hN]; rfl
      have H5 : ∀ q : Hs, (H ++ q)[5]? = some (.dct (mD tD bs)) := fun q => by rw [hH, hN]; rfl
      have H6 : ∀ q : Hs, (H ++ q)[6]? = some (.lst [.loc 4, .loc 5]) := fun q => by rw [hH, hN]; rfl
      have H7 : ∀ q : Hs, (H ++ q)[7]? = some (.dct (mD tD (behL as bs))) := fun q => by rw [hH, hN]; rfl
      have Hl : H.length = 8 := by rw [hH, List.length_append, Nl]; rfl
      rw [← hH] at er
      refine st_seq [some (.ro ns), some (.int first), some (.loc 1), some (.loc 3), some (.loc 6), some (.loc 7), some (.bl false), none, none] H ?_ ?_
      · rw [ws_try]
        have : setM 5 (callM (F_one_behind 229) (consA (binM ixF (vM 4) (cM (.int 0))) (consA (binM ixF (vM 4) (cM (.int 1))) nilA))) [some (.ro ns), some (.int first), some (.loc 1), some (.loc 3), some (.loc 6), some .non, some (.bl false), none, none] N = .nx [some (.ro ns), some (.int first), some (.loc 1), some (.loc 3), some (.loc 6), some (.loc 7), some (.bl false), none, none] H := by
          simp [callM, consA, nilA, vM, binM, setM, cM, lift, i0, i1, er]
        rw [this]
        exact ⟨rfl, rfl⟩
      have ne := (eqLD_of (h := H ++ [.lst [.loc 1, .loc 3]]) (a := 6) (b := H.length) (H6 _) (by simp) (eqs _ _ _ rfl rfl (H1 _) (H3 _) (H4 _) (H5 _))).2
      refine st_guard (H ++ [.lst [.loc 1, .loc 3]]) (by simp [wp_v, ne]) ?_
      have lc := great_lc 227 (H ++ [.lst [.loc 1, .loc 3]]) 2 3 7 1 3 [some (.ro ns), some (.int first), some (.loc 1), some (.loc 3), some (.loc 6), some (.loc 7), some (.bl false), none, none] as bs rfl rfl (by decide) (by decide) (by simp) (by decide) (H1 _) (H3 _) A.nd B.nd (by have := A.len; omega) (by have := B.len; omega) (fun p hp => by have := (A.ok p hp).2; omega) (fun p hp => by have := (B.ok p hp).2; omega)
      rw [badL_nil.mpr ng, List.map_nil] at lc
      have ne2 := neempty17 (h := H ++ [.lst [.loc 1, .loc 3], .lst []]) (l := H.length + 1) (xs := []) (by simp)
      try simp at lc
      try simp at ne2
      refine st_guard (H ++ [.lst [.loc 1, .loc 3], .lst [], .lst []]) (by simp [wp_v, lc, ne2]) ?_
      obtain ⟨G, hG⟩ : ∃ G : Hs, G = H ++ [.lst [.loc 1, .loc 3], .lst [], .lst []] := ⟨_, rfl⟩
      have G1 : ∀ q : Hs, (G ++ q)[1]? = some (.dct (mD tD as)) := fun q => by rw [hG, List.append_assoc]; exact H1 _
      have G3 : ∀ q : Hs, (G ++ q)[3]? = some (.dct (mD tD bs)) := fun q => by rw [hG, List.append_assoc]; exact H3 _
      have G4 : ∀ q : Hs, (G ++ q)[4]? = some (.dct (mD tD as)) := fun q => by rw [hG, List.append_assoc]; exact H4 _
      have G5 : ∀ q : Hs, (G ++ q)[5]? = some (.dct (mD tD bs)) := fun q => by rw [hG, List.append_assoc]; exact H5 _
      have G6 : ∀ q : Hs, (G ++ q)[6]? = some (.lst [.loc 4, .loc 5]) := fun q => by rw [hG, List.append_assoc]; exact H6 _
      have G7 : ∀ q : Hs, (G ++ q)[7]? = some (.dct (mD tD (behL as bs))) := fun q => by rw [hG, List.append_assoc]; exact H7 _
      have Gl : G.length = 11 := by rw [hG, List.length_append, Hl]; rfl
      rw [← hG]
      clear lc ne ne2 er ob hG hH hN H1 H3 H4 H5 H6 H7 i0 i1 Hl Nl
      have q3 := dict_dct (h := G) (l := 3) (kvs := mD tD bs) (by have := G3 []; rw [List.append_nil] at this; exact this)
      refine st_set (.loc 11) (G ++ [.dct (mD tD bs)]) ?_ ?_
      · rw [Gl] at q3
        simp [wp_v, q3]
      simp only [List.set_cons_succ, List.set_cons_zero]
      rw [ws_seq]
      refine ws_lock (i := 2) (l := 1) (kvs := mD tD as) rfl (G1 _) ?_
      rw [set_app (by omega)]
      obtain ⟨K, hK⟩ : ∃ K, K = G.set 1 (.fdc (mD tD as)) := ⟨_, rfl⟩
      have Kl : K.length = 11 := by rw [hK, List.length_set, Gl]
      have K1 : ∀ q : Hs, (K ++ q)[1]? = some (.fdc (mD tD as)) := fun q => get_app (by rw [hK, List.getElem?_set_self (by omega)])
      have K3 : ∀ q : Hs, (K ++ q)[3]? = some (.dct (mD tD bs)) := fun q => get_app (by
        have := G3 []
        rw [List.append_nil] at this
        rw [hK, List.getElem?_set_ne (by decide)]; exact this)
      have Kb : K.set 1 (.dct (mD tD as)) = G := by
        have := G1 []
        rw [List.append_nil] at this
        rw [hK]; exact set_back this
      rw [← hK, ws_for, wp_fdI (l := 1) (kvs := mD tD as) rfl (K1 _)]
      obtain ⟨J, hJ⟩ : ∃ J : Nat → Sl → Hs → Prop, J = fun i ds h' => h' = K ++ [.dct (mD tD (duL (as.take i) bs))] ∧ ∃ x, ds = [some (.ro ns), some (.int first), some (.loc 1), some (.loc 3), some (.loc 6), some (.loc 7), some (.bl false), x, some (.loc 11)] := ⟨_, rfl⟩
      refine ws_loop _ J (by rw [hJ]; exact ⟨by simp [duL], _, rfl⟩) (fun _ _ _ _ => trivial) ?_ ?_
      · intro i d ds h' hd hj
        rw [hJ] at hj
        obtain ⟨rfl, x, rfl⟩ := hj
        unfold mD at hd
        rw [List.map_map, List.getElem?_map] at hd
        cases q : as[i]? with
        | none => rw [q] at hd; cases hd
        | some q' =>
          obtain ⟨k, u⟩ := q'
          rw [q] at hd
          cases hd
          have mu := List.mem_of_getElem? q
          have il := (List.getElem?_eq_some_iff.mp q).1
          have uo := (A.ok _ mu).2
          simp only at uo
          have e1 : as.take (i + 1) = as.take i ++ [(k, u)] := by rw [List.take_add_one, q]; rfl
          have e2 : duL (as.take (i + 1)) bs = mPut (duL (as.take i) bs) k (u.fill (mAt bs)) := by rw [e1]; unfold duL; rw [List.foldl_append]; rfl
          have ix := ix_fdc (k := .int k) (kk := .inl k) (K1 [.dct (mD tD (duL (as.take i) bs))]) rfl
          rw [val_mD, mAt_of A.nd mu] at ix
          have ex := exchanged_ok 229 (K ++ [.dct (mD tD (duL (as.take i) bs))]) 3 bs u (K3 _) (by omega) (by omega)
          rw [← law_exchanged_eq] at ex
          have dl : (duL (as.take i) bs).length ≤ 1000 := by
            have gen : ∀ (l acc : List (Int × Tr)), (l.foldl (fun acc p => mPut acc p.1 (p.2.fill (mAt bs))) acc).length ≤ acc.length + l.length := by
              intro l
              induction l with
              | nil => intro acc; simp
              | cons p l ih =>
                intro acc
                have h1 := ih (mPut acc p.1 (p.2.fill (mAt bs)))
                have h2 := mPut_len acc p.1 (p.2.fill (mAt bs))
                rw [List.foldl_cons, List.length_cons]; omega
            have := gen (as.take i) bs
            rw [List.length_take] at this
            have := A.len
            have := B.len
            unfold duL
            omega
          have st := set_dct (h := K ++ [.dct (mD tD (duL (as.take i) bs))]) (l := 11) (kvs := mD tD (duL (as.take i) bs)) (k := .int k) (kk := .inl k) (v := tD (u.fill (mAt bs))) (by rw [List.getElem?_append_right (by omega), Kl]; rfl) rfl (by rw [mD_len]; omega)
          rw [put_mD, ← e2] at st
          have sa : (K ++ [AO.dct (mD tD (duL (as.take i) bs))]).set 11 (.dct (mD tD (duL (as.take (i + 1)) bs))) = K ++ [.dct (mD tD (duL (as.take (i + 1)) bs))] := by rw [List.set_append_right _ _ (by omega), Kl]; rfl
          rw [sa] at st
          have fin : ∀ x, J (i + 1) [some (.ro ns), some (.int first), some (.loc 1), some (.loc 3), some (.loc 6), some (.loc 7), some (.bl false), x, some (.loc 11)] (K ++ [.dct (mD tD (duL (as.take (i + 1)) bs))]) := fun x => by
            rw [hJ]; exact ⟨rfl, _, rfl⟩
          generalize mD tD (duL (as.take (i + 1)) bs) = L1' at st fin
          generalize mD tD (duL (as.take i) bs) = L0' at ix ex st ⊢
          simp at ix st
          simp [wp_v, dK, ix, ex, st, fin]
      · intro ds h' hj
        rw [hJ] at hj
        obtain ⟨rfl, x, rfl⟩ := hj
        have kl : ((mD tD as).map fun p => dK p.1).length = as.length := by simp
        rw [kl, List.take_length]
        refine ⟨K1 _, ?_⟩
        rw [set_app (by omega), Kb]
        obtain ⟨d1, d2, d3⟩ := duL_ok A.nd B.nd
        have dz : (duL as bs).length ≤ 1000 := by
          rw [← d2]
          have := behL_len as bs
          have := A.len
          have := B.len
          omega
        have dok : ∀ p ∈ duL as bs, p.2.good ∧ 2 * p.2.depth + 1 ≤ 228 := fun p hp => by
          rcases duL_mem A.nd B.nd hp with ⟨q, hq, e⟩ | ⟨q, hq, e⟩
          · have := ng q hq
            unfold Tr.great at this
            rw [e]
            exact ⟨fill_good_of (fun p hp => (B.ok p hp).1) (A.ok q hq).1, by omega⟩
          · rw [e]
            have := B.ok q hq
            exact ⟨this.1, by omega⟩
        generalize hDU : duL as bs = DU at d1 d2 d3 dz dok ⊢
        have V11 : ∀ q : Hs, (G ++ (.dct (mD tD DU) :: q))[11]? = some (.dct (mD tD DU)) := fun q => by rw [List.getElem?_append_right (by omega), Gl]; rfl
        have id1 := is_due_ok 228 (G ++ [.dct (mD tD DU)]) 7 11 (behL as bs) DU (by decide) (G7 _) (V11 []) d1 d2 (by omega) d3 dok
        refine st_guard (G ++ [.dct (mD tD DU)]) (by simp [wp_v, id1, truD]) ?_
        obtain ⟨V, hV⟩ : ∃ V : Hs, V = (G ++ [AO.dct (mD tD DU)]).set 7 (.dct []) := ⟨_, rfl⟩
        have Vl : V.length = 12 := by rw [hV, List.length_set, List.length_append, Gl]; rfl
        have Vg : ∀ (i : Nat) (o : AO), i ≠ 7 → (G ++ [AO.dct (mD tD DU)])[i]? = some o → ∀ q : Hs, (V ++ q)[i]? = some o := fun i o hi e q => get_app (by rw [hV, List.getElem?_set_ne (Ne.symm hi)]; exact e)
        have cl : clearF (.loc 7) [] (G ++ [.dct (mD tD DU)]) = some (.non, V) := by
          have := G7 [.dct (mD tD DU)]
          simp [clearF, this, hV]
        have ck := ck_dct (G7 [.dct (mD tD DU)])
        refine st_seq [some (.ro ns), some (.int first), some (.loc 1), some (.loc 3), some (.loc 6), some (.loc 7), some (.bl false), x, some (.loc 11)] V (by simp [wp_v, ck, cl]) ?_
        have V1 := Vg 1 _ (by decide) (G1 _)
        have V3 := Vg 3 _ (by decide) (G3 _)
        have V4 := Vg 4 _ (by decide) (G4 _)
        have V5 := Vg 5 _ (by decide) (G5 _)
        have V6 := Vg 6 _ (by decide) (G6 _)
        have VD := Vg 11 _ (by decide) (V11 [])
        have eq := (eqLD_of (h := V ++ [.lst [.loc 1, .loc 3]]) (a := 6) (b := V.length) (V6 _) (by simp) (eqs _ _ _ rfl rfl (V1 _) (V3 _) (V4 _) (V5 _))).1
        have ob2 := one_behind_ok 227 (V ++ [.lst [.loc 1, .loc 3]]) 1 3 as bs (by decide) (V1 _) (V3 _) A.nd B.nd (by have := A.len; omega) (by have := B.len; omega) (fun p hp => by have := (A.ok p hp).2; omega) (fun p hp => by have := (B.ok p hp).2; omega)
        have er2 : F_one_behind 229 [.loc 1, .loc 3] (V ++ [.lst [.loc 1, .loc 3]]) = .ok (.loc 13) (V ++ [.lst [.loc 1, .loc 3], .dct (mD tD (behL as bs))]) := by
          cases e : F_one_behind 229 [.loc 1, .loc 3] (V ++ [.lst [.loc 1, .loc 3]]) with
          | ok d h =>
            rw [e] at ob2
            obtain ⟨_, rfl, rfl⟩ := ob2
            simp [Vl]
          | exc c h => rw [e] at ob2; exact absurd ob2.1 gr
          | bad => rw [e] at ob2; exact ob2.elim
        have id2 := is_due_ok 228 (V ++ [.lst [.loc 1, .loc 3], .dct (mD tD (behL as bs))]) 13 11 (behL as bs) DU (by decide) (by rw [List.getElem?_append_right (by omega), Vl]; rfl) (VD _) d1 d2 (by omega) d3 dok
        simp [wp_v, eq, er2, id2, noloc]
  obtain ⟨d, h, e, rfl⟩ := R.wp_ex w
  exact ⟨h, e⟩
end DV
namespace Hd
open PySem PySem.Spec PyProof.Rows L2 DV
def top (i : Nat) : Stmt := PySem.Challenge.pw_commonform_k17_one_filling_behind_anothe.main.body.getD i (.Pass ⟨0, 0, 0, 0⟩)
abbrev s_parts_of : Stmt := top 4
def d_parts_of : He.DefD := ⟨("parts_of", none), "parts_of", "parts_of", defArgs s_parts_of, defBody s_parts_of, defScope s_parts_of, [], []⟩
abbrev s_knots_of : Stmt := top 5
def d_knots_of : He.DefD := ⟨("knots_of", none), "knots_of", "knots_of", defArgs s_knots_of, defBody s_knots_of, defScope s_knots_of, [], []⟩
abbrev s_depth_of : Stmt := top 6
def d_depth_of : He.DefD := ⟨("depth_of", none), "depth_of", "depth_of", defArgs s_depth_of, defBody s_depth_of, defScope s_depth_of, [], []⟩
abbrev s_blanks_of : Stmt := top 7
def d_blanks_of : He.DefD := ⟨("blanks_of", none), "blanks_of", "blanks_of", defArgs s_blanks_of, defBody s_blanks_of, defScope s_blanks_of, [], []⟩
abbrev s_size_filled : Stmt := top 11
def d_size_filled : He.DefD := ⟨("size_filled", none), "size_filled", "size_filled", defArgs s_size_filled, defBody s_size_filled, defScope s_size_filled, [], []⟩
abbrev s_exchanged : Stmt := top 12
def d_exchanged : He.DefD := ⟨("exchanged", none), "exchanged", "exchanged", defArgs s_exchanged, defBody s_exchanged, defScope s_exchanged, [], []⟩
abbrev s_filled : Stmt := top 13
def d_filled : He.DefD := ⟨("filled", none), "filled", "filled", defArgs s_filled, defBody s_filled, defScope s_filled, [], []⟩
abbrev s_one_behind : Stmt := top 14
def d_one_behind : He.DefD := ⟨("one_behind", none), "one_behind", "one_behind", defArgs s_one_behind, defBody s_one_behind, defScope s_one_behind, [], []⟩
abbrev s__law_cell_at : Stmt := top 16
def d__law_cell_at : He.DefD := ⟨("_law_cell_at", none), "_law_cell_at", "_law_cell_at", defArgs s__law_cell_at, defBody s__law_cell_at, defScope s__law_cell_at, [], []⟩
abbrev s__law_draw : Stmt := top 17
def d__law_draw : He.DefD := ⟨("_law_draw", none), "_law_draw", "_law_draw", defArgs s__law_draw, defBody s__law_draw, defScope s__law_draw, [], []⟩
abbrev s__law_alike : Stmt := top 18
def d__law_alike : He.DefD := ⟨("_law_alike", none), "_law_alike", "_law_alike", defArgs s__law_alike, defBody s__law_alike, defScope s__law_alike, [], []⟩
abbrev s__law_names : Stmt := top 19
def d__law_names : He.DefD := ⟨("_law_names", none), "_law_names", "_law_names", defArgs s__law_names, defBody s__law_names, defScope s__law_names, [], []⟩
abbrev s__law_leaf : Stmt := top 20
def d__law_leaf : He.DefD := ⟨("_law_leaf", none), "_law_leaf", "_law_leaf", defArgs s__law_leaf, defBody s__law_leaf, defScope s__law_leaf, [], []⟩
abbrev s__law_tree : Stmt := top 21
def d__law_tree : He.DefD := ⟨("_law_tree", none), "_law_tree", "_law_tree", defArgs s__law_tree, defBody s__law_tree, defScope s__law_tree, [], []⟩
abbrev s__law_places : Stmt := top 22
def d__law_places : He.DefD := ⟨("_law_places", none), "_law_places", "_law_places", defArgs s__law_places, defBody s__law_places, defScope s__law_places, [], []⟩
abbrev s__law_filling : Stmt := top 23
def d__law_filling : He.DefD := ⟨("_law_filling", none), "_law_filling", "_law_filling", defArgs s__law_filling, defBody s__law_filling, defScope s__law_filling, [], []⟩
abbrev s__law_small : Stmt := top 24
def d__law_small : He.DefD := ⟨("_law_small", none), "_law_small", "_law_small", defArgs s__law_small, defBody s__law_small, defScope s__law_small, [], []⟩
abbrev s__law_exchanged : Stmt := top 25
def d__law_exchanged : He.DefD := ⟨("_law_exchanged", none), "_law_exchanged", "_law_exchanged", defArgs s__law_exchanged, defBody s__law_exchanged, defScope s__law_exchanged, [], []⟩
abbrev s__law_too_great : Stmt := top 26
def d__law_too_great : He.DefD := ⟨("_law_too_great", none), "_law_too_great", "_law_too_great", defArgs s__law_too_great, defBody s__law_too_great, defScope s__law_too_great, [], []⟩
abbrev s__law_is_due : Stmt := top 27
def d__law_is_due : He.DefD := ⟨("_law_is_due", none), "_law_is_due", "_law_is_due", defArgs s__law_is_due, defBody s__law_is_due, defScope s__law_is_due, [], []⟩
abbrev s_law : Stmt := top 28
def d_law : He.DefD := ⟨("law", none), "law", "law", defArgs s_law, defBody s_law, defScope s_law, [], []⟩
def fn : List He.DefD := [d_parts_of, d_knots_of, d_depth_of, d_blanks_of, d_size_filled, d_exchanged, d_filled, d_one_behind, d__law_cell_at, d__law_draw, d__law_alike, d__law_names, d__law_leaf, d__law_tree, d__law_places, d__law_filling, d__law_small, d__law_exchanged, d__law_too_great, d__law_is_due, d_law]
def fa : List Fx := [.he (.glo "parts_of"), .he (.glo "knots_of"), .he (.glo "depth_of"), .he (.glo "blanks_of"), .he (.glo "size_filled"), .he (.glo "exchanged"), .he (.glo "filled"), .he (.glo "one_behind"), .he (.glo "_law_cell_at"), .he (.glo "_law_draw"), .he (.glo "_law_alike"), .he (.glo "_law_names"), .he (.glo "_law_leaf"), .he (.glo "_law_tree"), .he (.glo "_law_places"), .he (.glo "_law_filling"), .he (.glo "_law_small"), .he (.glo "_law_exchanged"), .he (.glo "_law_too_great"), .he (.glo "_law_is_due"), .he (.glo "law"), .he (.glo "FormError"), .he (.glo "TooLong"), .he (.free "len"), .he (.free "range"), .he (.free "int"), .he (.free "str"), .he (.free "sum"), .he (.free "max"), .he (.free "min"), .he (.free "enumerate"), .he (.free "isinstance"), .he (.free "tuple"), .he (.free "list"), .he (.free "dict"), .he (.free "sorted"), .he (.free "abs"), .he (.free "all"), .he (.free "set"), .he (.free "bool"), .he (.free "ValueError"), .he (.int "MOST_FILLED" (400)), .he (.int "DEEPEST_FILLED" (60)), .he (.exc "FormError"), .kx "FormError", .he (.exm "FormError" "TooLong" false), .he (.exc "TooLong"), .kx "TooLong", .he (.exm "TooLong" "TooLong" true)]
abbrev R : PySem.W.OpenRow := PySem.W.OpenLaw.row PySem.Challenge.rw_commonform_k17_one_filling_behind_anothe
abbrev hk : PySem.W.Hook := hookX 5 fa fn
def ob (s : PySem.W.SharedT) : He.AlD := obsXG 5 fa fn (HandSHeadRun.getT s)
theorem ob_eq (s : PySem.W.SharedT) : ob s = hk.obs s.abs := obsXG_eq (HandSHeadRun.getT_eq s)
def ls0 : List PySem.Str := ["FormError", "TooLong", "parts_of", "knots_of", "depth_of", "blanks_of", "MOST_FILLED", "DEEPEST_FILLED", "size_filled", "exchanged", "filled", "one_behind", "_law_cell_at", "_law_draw", "_law_alike", "_law_names", "_law_leaf", "_law_tree", "_law_places", "_law_filling", "_law_small", "_law_exchanged", "_law_too_great", "_law_is_due"]
def ls : List PySem.Str := ls0
theorem run (w : World) : HandSHeadRun.RunEq R (PySem.W.view R.prog [28]) hk ob 6610 ls w := by
  intro os
  kernel_rfl
end Hd
namespace Wk
open PySem PySem.Spec PyProof.Rows L2 DV Hd
section
variable {P : Program} {w : World} {K : PySem.W.Frag} {mg : Str → Option Value} {base : Heap} {n : Nat} {f : Addr} {fd : FuncData}
theorem sc_parts_of : FnScope ["tree"] ["tree"] (defScope s_parts_of) := ⟨rfl, rfl, rfl, by decide +kernel, rfl, by decide +kernel, by decide +kernel⟩
theorem ok_parts_of (F : FunD K "parts_of" "parts_of" (defArgs s_parts_of) (defBody s_parts_of) (defScope s_parts_of) [] [] f fd) (B : Blt mg) :
    FnOk P w K mg base (L2.CX P w) (n + 1) f fd ["tree"] (spM K 1 (kPure.f (runM 1 1 (m_parts_of)))) :=
  def_ok (N := ["tree"]) kPure F sc_parts_of fun cdv A outer s H E W hr tk =>
    sms_cons (sm_if (tm_cmp (o_eq (hu195 hr)) (em_ix (o_ix (hu1 hr)) (em_v (pv 0)) (em_int) (fun _ _ => rfl)) (em_str) (nomark _)) (sms_one (sm_ret (em_tup (am_nil)))) (sms_nil))
    (sms_one (sm_ret (em_ix (o_ix (hu1 hr)) (em_v (pv 0)) (em_int) (fun _ _ => rfl))))
theorem sc_knots_of : FnScope ["tree", "part"] ["tree"] (defScope s_knots_of) := ⟨rfl, rfl, rfl, by decide +kernel, rfl, by decide +kernel, by decide +kernel⟩
theorem ok_knots_of (F : FunD K "knots_of" "knots_of" (defArgs s_knots_of) (defBody s_knots_of) (defScope s_knots_of) [] [] f fd) (B : Blt mg) {f_parts_of f_knots_of : Fm} (A_parts_of : FnAt P w K mg base n "parts_of" ["tree"] f_parts_of) (A_knots_of : FnAt P w K mg base n "knots_of" ["tree"] f_knots_of) :
    FnOk P w K mg base (L2.CX P w) (n + 1) f fd ["tree"] (spM K 1 (kPure.f (runM 1 2 (m_knots_of f_parts_of f_knots_of)))) :=
  def_ok (N := ["tree", "part"]) kPure F sc_knots_of fun cdv A outer s H E W hr tk =>
    sms_one (sm_ret (em_bin o_add (em_int) (em_callB (c_sum rfl) rfl B.z_sum (by decide +kernel) (am_cons (em_lc (own := [("part", 1)]) rfl sc_knots_of.nd (im_val rfl (em_call A_parts_of rfl hr tk rfl (am_cons (em_v (pv 0)) (am_nil)))) (blkOk_by (own := [("part", 1)]) (N := ["tree", "part"]) (sc := defScope s_knots_of) (by decide +kernel)) (ct_name _ 1) (fun _ _ _ _ _ => pg_name (i := 1) sc_knots_of.nd rfl (Or.inl rfl)) (fun _ _ _ _ _ => tms_nil) (fun _ _ _ _ _ => em_call A_knots_of rfl hr takes0 rfl (am_cons (em_v (pv 1)) (am_nil)))) (am_nil)))))
theorem sc_depth_of : FnScope ["tree", "part"] ["tree"] (defScope s_depth_of) := ⟨rfl, rfl, rfl, by decide +kernel, rfl, by decide +kernel, by decide +kernel⟩
theorem ok_depth_of (F : FunD K "depth_of" "depth_of" (defArgs s_depth_of) (defBody s_depth_of) (defScope s_depth_of) [] [] f fd) (B : Blt mg) {f_parts_of f_depth_of : Fm} (A_parts_of : FnAt P w K mg base n "parts_of" ["tree"] f_parts_of) (A_depth_of : FnAt P w K mg base n "depth_of" ["tree"] f_depth_of) :
    FnOk P w K mg base (L2.CX P w) (n + 1) f fd ["tree"] (spM K 1 (kPure.f (runM 1 2 (m_depth_of f_parts_of f_depth_of)))) :=
  def_ok (N := ["tree", "part"]) kPure F sc_depth_of fun cdv A outer s H E W hr tk =>
    sms_one (sm_ret (em_bin o_add (em_int) (em_maxd rfl rfl (hu1 hr) rfl B.z_max (em_lc (own := [("part", 1)]) rfl sc_depth_of.nd (im_val rfl (em_call A_parts_of rfl hr tk rfl (am_cons (em_v (pv 0)) (am_nil)))) (blkOk_by (own := [("part", 1)]) (N := ["tree", "part"]) (sc := defScope s_depth_of) (by decide +kernel)) (ct_name _ 1) (fun _ _ _ _ _ => pg_name (i := 1) sc_depth_of.nd rfl (Or.inl rfl)) (fun _ _ _ _ _ => tms_nil) (fun _ _ _ _ _ => em_call A_depth_of rfl hr takes0 rfl (am_cons (em_v (pv 1)) (am_nil)))) (em_int))))
theorem sc_blanks_of : FnScope ["tree", "found", "part", "number"] ["tree"] (defScope s_blanks_of) := ⟨rfl, rfl, rfl, by decide +kernel, rfl, by decide +kernel, by decide +kernel⟩
theorem ok_blanks_of (F : FunD K "blanks_of" "blanks_of" (defArgs s_blanks_of) (defBody s_blanks_of) (defScope s_blanks_of) [] [] f fd) (B : Blt mg) {f_blanks_of : Fm} (A_blanks_of : FnAt P w K mg base n "blanks_of" ["tree"] f_blanks_of) :
    FnOk P w K mg base (L2.CX P w) (n + 1) f fd ["tree"] (spM K 1 (kNew.f (runM 1 4 (m_blanks_of f_blanks_of)))) :=
  def_ok (N := ["tree", "found", "part", "number"]) kNew F sc_blanks_of fun cdv A outer s H E W hr tk =>
    sms_cons (sm_if (tm_cmp (o_eq (hu195 hr)) (em_ix (o_ix (hu1 hr)) (em_v (pv 0)) (em_int) (fun _ _ => rfl)) (em_str) (nomark _)) (sms_one (sm_ret (em_lst (am_cons (em_ix (o_ix (hu1 hr)) (em_v (pv 0)) (em_int) (fun _ _ => rfl)) (am_nil))))) (sms_nil))
    (sms_cons (sm_set (i := 1) sc_blanks_of.nd rfl (by first | exact Or.inl rfl | exact Or.inr rfl) (em_lst (am_nil)))
    (sms_cons (sm_for (passes_of rfl) rfl (im_val rfl (em_ix (o_ix (hu1 hr)) (em_v (pv 0)) (em_int) (fun _ _ => rfl))) (gm_name (i := 2) (pg_name (i := 2) sc_blanks_of.nd rfl (by first | exact Or.inl rfl | exact Or.inr rfl))) (sms_one (sm_for (passes_of rfl) rfl (im_val rfl (em_call A_blanks_of rfl hr tk rfl (am_cons (em_v (pv 2)) (am_nil)))) (gm_name (i := 3) (pg_name (i := 3) sc_blanks_of.nd rfl (by first | exact Or.inl rfl | exact Or.inr rfl))) (sms_one (sm_if (tm_cmp (o_nin (hu195 hr)) (em_v (pv 3)) (em_v (pv 1)) rfl) (sms_one (sm_expr (em_bm rfl PySem.F.plainAttrs_list PySem.F.slot_list_append PySem.F.type_list_append k_append (fun _ _ _ _ _ => ckList_ty) (em_v (pv 1)) (am_cons (em_v (pv 3)) (am_nil))))) (sms_nil))))))
    (sms_one (sm_ret (em_v (pv 1))))))
theorem sc_size_filled : FnScope ["tree", "sizes", "many", "deep", "part", "size"] ["tree", "sizes"] (defScope s_size_filled) := ⟨rfl, rfl, rfl, by decide +kernel, rfl, by decide +kernel, by decide +kernel⟩
theorem ok_size_filled (F : FunD K "size_filled" "size_filled" (defArgs s_size_filled) (defBody s_size_filled) (defScope s_size_filled) [] [] f fd) (B : Blt mg) {f_size_filled : Fm} (A_size_filled : FnAt P w K mg base n "size_filled" ["tree", "sizes"] f_size_filled) :
    FnOk P w K mg base (L2.CX P w) (n + 1) f fd ["tree", "sizes"] (spM K 2 (kPure.f (runM 2 6 (m_size_filled f_size_filled)))) :=
  def_ok (N := ["tree", "sizes", "many", "deep", "part", "size"]) kPure F sc_size_filled fun cdv A outer s H E W hr tk =>
    sms_cons (sm_if (tm_cmp (o_eq (hu195 hr)) (em_ix (o_ix (hu1 hr)) (em_v (pv 0)) (em_int) (fun _ _ => rfl)) (em_str) (nomark _)) (sms_one (sm_ret (em_bm rfl PySem.F.plainAttrs_dict PySem.F.slot_dict_get PySem.F.type_dict_get (k_get (hu1 hr)) (fun _ _ _ _ _ => ckDct_ty) (em_v (pv 1)) (am_cons (em_ix (o_ix (hu1 hr)) (em_v (pv 0)) (em_int) (fun _ _ => rfl)) (am_cons (em_tup (am_cons (em_int) (am_cons (em_int) (am_nil)))) (am_nil)))))) (sms_nil))
    (sms_cons (sm_set (i := 2) sc_size_filled.nd rfl (by first | exact Or.inl rfl | exact Or.inr rfl) (em_int))
    (sms_cons (sm_set (i := 3) sc_size_filled.nd rfl (by first | exact Or.inl rfl | exact Or.inr rfl) (em_int))
    (sms_cons (sm_for (passes_of rfl) rfl (im_val rfl (em_ix (o_ix (hu1 hr)) (em_v (pv 0)) (em_int) (fun _ _ => rfl))) (gm_name (i := 4) (pg_name (i := 4) sc_size_filled.nd rfl (by first | exact Or.inl rfl | exact Or.inr rfl))) (sms_cons (sm_set (i := 5) sc_size_filled.nd rfl (by first | exact Or.inl rfl | exact Or.inr rfl) (em_call A_size_filled rfl hr tk rfl (am_cons (em_v (pv 4)) (am_cons (em_v (pv 1)) (am_nil)))))
    (sms_cons (sm_set (i := 2) sc_size_filled.nd rfl (by first | exact Or.inl rfl | exact Or.inr rfl) (em_bin o_add (em_v (pv 2)) (em_ix (o_ix (hu1 hr)) (em_v (pv 5)) (em_int) (fun _ _ => rfl))))
    (sms_one (sm_set (i := 3) sc_size_filled.nd rfl (by first | exact Or.inl rfl | exact Or.inr rfl) (em_callB (c_max2 rfl) rfl B.z_max (by decide +kernel) (am_cons (em_v (pv 3)) (am_cons (em_ix (o_ix (hu1 hr)) (em_v (pv 5)) (em_int) (fun _ _ => rfl)) (am_nil)))))))))
    (sms_one (sm_ret (em_tup (am_cons (em_v (pv 2)) (am_cons (em_bin o_add (em_v (pv 3)) (em_int)) (am_nil)))))))))
theorem sc_exchanged : FnScope ["tree", "filling", "part"] ["tree", "filling"] (defScope s_exchanged) := ⟨rfl, rfl, rfl, by decide +kernel, rfl, by decide +kernel, by decide +kernel⟩
theorem ok_exchanged (F : FunD K "exchanged" "exchanged" (defArgs s_exchanged) (defBody s_exchanged) (defScope s_exchanged) [] [] f fd) (B : Blt mg) {f_exchanged : Fm} (A_exchanged : FnAt P w K mg base n "exchanged" ["tree", "filling"] f_exchanged) :
    FnOk P w K mg base (L2.CX P w) (n + 1) f fd ["tree", "filling"] (spM K 2 (kPure.f (runM 2 3 (m_exchanged f_exchanged)))) :=
  def_ok (N := ["tree", "filling", "part"]) kPure F sc_exchanged fun cdv A outer s H E W hr tk =>
    sms_cons (sm_if (tm_cmp (o_eq (hu195 hr)) (em_ix (o_ix (hu1 hr)) (em_v (pv 0)) (em_int) (fun _ _ => rfl)) (em_str) (nomark _)) (sms_one (sm_ret (em_bm rfl PySem.F.plainAttrs_dict PySem.F.slot_dict_get PySem.F.type_dict_get (k_get (hu1 hr)) (fun _ _ _ _ _ => ckDct_ty) (em_v (pv 1)) (am_cons (em_ix (o_ix (hu1 hr)) (em_v (pv 0)) (em_int) (fun _ _ => rfl)) (am_cons (em_v (pv 0)) (am_nil)))))) (sms_nil))
    (sms_one (sm_ret (em_tup (am_cons (em_str) (am_cons (em_ix (o_ix (hu1 hr)) (em_v (pv 0)) (em_int) (fun _ _ => rfl)) (am_cons (em_callTy c_tuple rfl B.z_tuple (by decide +kernel) (am_cons (em_lc (own := [("part", 2)]) rfl sc_exchanged.nd (im_val rfl (em_ix (o_ix (hu1 hr)) (em_v (pv 0)) (em_int) (fun _ _ => rfl))) (blkOk_by (own := [("part", 2)]) (N := ["tree", "filling", "part"]) (sc := defScope s_exchanged) (by decide +kernel)) (ct_name _ 2) (fun _ _ _ _ _ => pg_name (i := 2) sc_exchanged.nd rfl (Or.inl rfl)) (fun _ _ _ _ _ => tms_nil) (fun _ _ _ _ _ => em_call A_exchanged rfl hr takes0 rfl (am_cons (em_v (pv 2)) (am_cons (em_v (pv 1)) (am_nil))))) (am_nil))) (am_nil)))))))
theorem sc_filled : FnScope ["tree", "filling", "sizes", "number", "many", "deep"] ["tree", "filling"] (defScope s_filled) := ⟨rfl, rfl, rfl, by decide +kernel, rfl, by decide +kernel, by decide +kernel⟩
theorem ok_filled (F : FunD K "filled" "filled" (defArgs s_filled) (defBody s_filled) (defScope s_filled) [] [] f fd) (B : Blt mg) (c_MOST_FILLED : ∃ t, mg "MOST_FILLED" = some (.int 400 t)) (c_DEEPEST_FILLED : ∃ t, mg "DEEPEST_FILLED" = some (.int 60 t)) (x_TooLong : ExcF K mg "TooLong") {f_exchanged f_size_filled f_blanks_of f_depth_of f_knots_of : Fm} (A_exchanged : FnAt P w K mg base n "exchanged" ["tree", "filling"] f_exchanged) (A_size_filled : FnAt P w K mg base n "size_filled" ["tree", "sizes"] f_size_filled) (A_blanks_of : FnAt P w K mg base n "blanks_of" ["tree"] f_blanks_of) (A_depth_of : FnAt P w K mg base n "depth_of" ["tree"] f_depth_of) (A_knots_of : FnAt P w K mg base n "knots_of" ["tree"] f_knots_of) :
    FnOk P w K mg base (L2.CX P w) (n + 1) f fd ["tree", "filling"] (spM K 2 (kPure.f (runM 2 6 (m_filled f_exchanged f_size_filled f_blanks_of f_depth_of f_knots_of)))) :=
  def_ok (N := ["tree", "filling", "sizes", "number", "many", "deep"]) kPure F sc_filled fun cdv A outer s H E W hr tk =>
    sms_cons (sm_set (i := 2) sc_filled.nd rfl (by first | exact Or.inl rfl | exact Or.inr rfl) (em_newD))
    (sms_cons (sm_for (passes_of rfl) rfl (im_val rfl (em_call A_blanks_of rfl hr tk rfl (am_cons (em_v (pv 0)) (am_nil)))) (gm_name (i := 3) (pg_name (i := 3) sc_filled.nd rfl (by first | exact Or.inl rfl | exact Or.inr rfl))) (sms_one (sm_if (tm_cmp (o_in (hu195 hr)) (em_v (pv 3)) (em_v (pv 1)) rfl) (sms_one (sm_setIx (s_any (hu1 hr)) (em_tup (am_cons (em_call A_knots_of rfl hr tk rfl (am_cons (em_ix (o_ix (hu1 hr)) (em_v (pv 1)) (em_v (pv 3)) (fun _ _ => rfl)) (am_nil))) (am_cons (em_call A_depth_of rfl hr tk rfl (am_cons (em_ix (o_ix (hu1 hr)) (em_v (pv 1)) (em_v (pv 3)) (fun _ _ => rfl)) (am_nil))) (am_nil)))) (em_v (pv 2)) (em_v (pv 3)))) (sms_nil))))
    (sms_cons (sm_asg (em_call A_size_filled rfl hr tk rfl (am_cons (em_v (pv 0)) (am_cons (em_v (pv 2)) (am_nil)))) (gm_tup rfl (gms_cons (gm_name (i := 4) (pg_name (i := 4) sc_filled.nd rfl (by first | exact Or.inl rfl | exact Or.inr rfl))) (gms_cons (gm_name (i := 5) (pg_name (i := 5) sc_filled.nd rfl (by first | exact Or.inl rfl | exact Or.inr rfl))) (gms_nil))) rfl))
    (sms_cons (sm_if (PW.pt (tm_or (tm_cmp o_gt (em_v (pv 4)) (em_gint rfl c_MOST_FILLED) (nomark _)) (tm_or1 (tm_cmp o_gt (em_v (pv 5)) (em_gint rfl c_DEEPEST_FILLED) (nomark _))))) (sms_one (sm_raise x_TooLong rfl rfl tk rfl)) (sms_nil))
    (sms_one (sm_ret (em_call A_exchanged rfl hr tk rfl (am_cons (em_v (pv 0)) (am_cons (em_v (pv 1)) (am_nil)))))))))
theorem sc_one_behind : FnScope ["one", "other", "found", "number"] ["one", "other"] (defScope s_one_behind) := ⟨rfl, rfl, rfl, by decide +kernel, rfl, by decide +kernel, by decide +kernel⟩
theorem ok_one_behind (F : FunD K "one_behind" "one_behind" (defArgs s_one_behind) (defBody s_one_behind) (defScope s_one_behind) [] [] f fd) (B : Blt mg) {f_filled : Fm} (A_filled : FnAt P w K mg base n "filled" ["tree", "filling"] f_filled) :
    FnOk P w K mg base (L2.CX P w) (n + 1) f fd ["one", "other"] (spM K 2 (kRaw.f (runM 2 4 (m_one_behind f_filled)))) :=
  def_ok (N := ["one", "other", "found", "number"]) kRaw F sc_one_behind fun cdv A outer s H E W hr tk =>
    sms_cons (sm_set (i := 2) sc_one_behind.nd rfl (by first | exact Or.inl rfl | exact Or.inr rfl) (em_newD))
    (sms_cons (sm_lock (i := 0) (sm_for (passes_of rfl) rfl (im_fd rfl (pv 0)) (gm_name (i := 3) (pg_name (i := 3) sc_one_behind.nd rfl (by first | exact Or.inl rfl | exact Or.inr rfl))) (sms_one (sm_setIx (s_any (hu1 hr)) (em_call A_filled rfl hr tk rfl (am_cons (em_ix (o_ix (hu1 hr)) (em_v (pv 0)) (em_v (pv 3)) (fun _ _ => rfl)) (am_cons (em_v (pv 1)) (am_nil)))) (em_v (pv 2)) (em_v (pv 3))))))
    (sms_cons (sm_lock (i := 1) (sm_for (passes_of rfl) rfl (im_fd rfl (pv 1)) (gm_name (i := 3) (pg_name (i := 3) sc_one_behind.nd rfl (by first | exact Or.inl rfl | exact Or.inr rfl))) (sms_one (sm_if (tm_cmp (o_nin (hu195 hr)) (em_v (pv 3)) (em_v (pv 2)) rfl) (sms_one (sm_setIx (s_any (hu1 hr)) (em_ix (o_ix (hu1 hr)) (em_v (pv 1)) (em_v (pv 3)) (fun _ _ => rfl)) (em_v (pv 2)) (em_v (pv 3)))) (sms_nil)))))
    (sms_one (sm_ret (em_v (pv 2))))))
theorem sc__law_cell_at : FnScope ["script", "k"] ["script", "k"] (defScope s__law_cell_at) := ⟨rfl, rfl, rfl, by decide +kernel, rfl, by decide +kernel, by decide +kernel⟩
theorem ok__law_cell_at (F : FunD K "_law_cell_at" "_law_cell_at" (defArgs s__law_cell_at) (defBody s__law_cell_at) (defScope s__law_cell_at) [] [] f fd) (B : Blt mg) :
    FnOk P w K mg base (L2.CX P w) (n + 1) f fd ["script", "k"] (spM K 2 (kPure.f (runM 2 2 (m__law_cell_at)))) :=
  def_ok (N := ["script", "k"]) kPure F sc__law_cell_at fun cdv A outer s H E W hr tk =>
    sms_cons (sm_if (tm_cmp o_lt (em_v (pv 1)) (em_callB c_len rfl B.z_len (by decide +kernel) (am_cons (em_v (pv 0)) (am_nil))) (nomark _)) (sms_one (sm_ret (em_ix (o_ix (hu1 hr)) (em_v (pv 0)) (em_v (pv 1)) (fun _ _ => rfl)))) (sms_nil))
    (sms_one (sm_ret (em_int)))
theorem sc__law_draw : FnScope ["cell", "k", "many", "number"] ["cell", "k", "many"] (defScope s__law_draw) := ⟨rfl, rfl, rfl, by decide +kernel, rfl, by decide +kernel, by decide +kernel⟩
theorem ok__law_draw (F : FunD K "_law_draw" "_law_draw" (defArgs s__law_draw) (defBody s__law_draw) (defScope s__law_draw) [] [] f fd) (B : Blt mg) :
    FnOk P w K mg base (L2.CX P w) (n + 1) f fd ["cell", "k", "many"] (spM K 3 (kPure.f (runM 3 4 (m__law_draw)))) :=
  def_ok (N := ["cell", "k", "many", "number"]) kPure F sc__law_draw fun cdv A outer s H E W hr tk =>
    sms_cons (sm_set (i := 3) sc__law_draw.nd rfl (by first | exact Or.inl rfl | exact Or.inr rfl) (em_bin o_mod (em_bin o_mulX (em_bin o_add (em_v (pv 0)) (em_int)) (em_bin o_add (em_int) (em_bin o_mulX (em_bin o_mulX (em_int) (em_v (pv 1))) (em_v (pv 1))))) (em_int)))
    (sms_one (sm_ret (em_bin o_mod (em_bin o_fdiv (em_bin o_mod (em_bin o_mulX (em_v (pv 3)) (em_v (pv 3))) (em_int)) (em_int)) (em_v (pv 2)))))
theorem sc__law_alike : FnScope ["found", "due", "k"] ["found", "due"] (defScope s__law_alike) := ⟨rfl, rfl, rfl, by decide +kernel, rfl, by decide +kernel, by decide +kernel⟩
theorem ok__law_alike (F : FunD K "_law_alike" "_law_alike" (defArgs s__law_alike) (defBody s__law_alike) (defScope s__law_alike) [] [] f fd) (B : Blt mg) {f__law_alike : Fm} (A__law_alike : FnAt P w K mg base n "_law_alike" ["found", "due"] f__law_alike) :
    FnOk P w K mg base (L2.CX P w) (n + 1) f fd ["found", "due"] (spM K 2 (kPure.f (runM 2 3 (m__law_alike f__law_alike)))) :=
  def_ok (N := ["found", "due", "k"]) kPure F sc__law_alike fun cdv A outer s H E W hr tk =>
    sms_cons (sm_if (tm_tru (em_isi (T := "bool") rfl (by decide) rfl B.z_isinstance rfl B.z_bool (by decide +kernel) (em_v (pv 1))) rfl) (sms_one (sm_ret (em_and (em_isi (T := "bool") rfl (by decide) rfl B.z_isinstance rfl B.z_bool (by decide +kernel) (em_v (pv 0))) (em_one (em_cmp (o_eq (hu195 hr)) (em_v (pv 0)) (em_v (pv 1)) (nomark _)))))) (sms_nil))
    (sms_cons (sm_if (tm_tru (em_isi (T := "int") rfl (by decide) rfl B.z_isinstance rfl B.z_int (by decide +kernel) (em_v (pv 1))) rfl) (sms_one (sm_ret (em_and (em_isi (T := "int") rfl (by decide) rfl B.z_isinstance rfl B.z_int (by decide +kernel) (em_v (pv 0))) (em_and (em_not (em_isi (T := "bool") rfl (by decide) rfl B.z_isinstance rfl B.z_bool (by decide +kernel) (em_v (pv 0)))) (em_one (em_cmp (o_eq (hu195 hr)) (em_v (pv 0)) (em_v (pv 1)) (nomark _))))))) (sms_nil))
    (sms_cons (sm_if (tm_tru (em_isi (T := "str") rfl (by decide) rfl B.z_isinstance rfl B.z_str (by decide +kernel) (em_v (pv 1))) rfl) (sms_one (sm_ret (em_and (em_isi (T := "str") rfl (by decide) rfl B.z_isinstance rfl B.z_str (by decide +kernel) (em_v (pv 0))) (em_one (em_cmp (o_eq (hu195 hr)) (em_v (pv 0)) (em_v (pv 1)) (nomark _)))))) (sms_nil))
    (sms_cons (sm_if (tm_tru (em_isi (T := "tuple") rfl (by decide) rfl B.z_isinstance rfl B.z_tuple (by decide +kernel) (em_v (pv 1))) rfl) (sms_one (sm_if (tm_not (tm_tru (em_isi (T := "tuple") rfl (by decide) rfl B.z_isinstance rfl B.z_tuple (by decide +kernel) (em_v (pv 0))) rfl)) (sms_one (sm_ret (em_bl))) (sms_nil))) (sms_one (sm_if (tm_not (tm_tru (em_isi (T := "list") rfl (by decide) rfl B.z_isinstance rfl B.z_list (by decide +kernel) (em_v (pv 0))) rfl)) (sms_one (sm_ret (em_bl))) (sms_nil))))
    (sms_cons (sm_if (tm_cmp (o_ne (hu195 hr)) (em_callB c_len rfl B.z_len (by decide +kernel) (am_cons (em_v (pv 0)) (am_nil))) (em_callB c_len rfl B.z_len (by decide +kernel) (am_cons (em_v (pv 1)) (am_nil))) (nomark _)) (sms_one (sm_ret (em_bl))) (sms_nil))
    (sms_cons (sm_for (passes_of rfl) rfl (im_rng1 (by rfl) B.z_range (am_cons (em_callB c_len rfl B.z_len (by decide +kernel) (am_cons (em_v (pv 1)) (am_nil))) (am_nil))) (gm_name (i := 2) (pg_name (i := 2) sc__law_alike.nd rfl (by first | exact Or.inl rfl | exact Or.inr rfl))) (sms_one (sm_if (tm_not (tm_tru (em_call A__law_alike rfl hr tk rfl (am_cons (em_ix (o_ix (hu1 hr)) (em_v (pv 0)) (em_v (pv 2)) (fun _ _ => rfl)) (am_cons (em_ix (o_ix (hu1 hr)) (em_v (pv 1)) (em_v (pv 2)) (fun _ _ => rfl)) (am_nil)))) rfl)) (sms_one (sm_ret (em_bl))) (sms_nil))))
    (sms_one (sm_ret (em_bl))))))))
theorem sc__law_names : FnScope ["cell", "some", "size", "at", "names", "j", "many", "here", "step", "k", "sign"] ["cell"] (defScope s__law_names) := ⟨rfl, rfl, rfl, by decide +kernel, rfl, by decide +kernel, by decide +kernel⟩
theorem ok__law_names (F : FunD K "_law_names" "_law_names" (defArgs s__law_names) (defBody s__law_names) (defScope s__law_names) [] [] f fd) (B : Blt mg) {f__law_draw : Fm} (A__law_draw : FnAt P w K mg base n "_law_draw" ["cell", "k", "many"] f__law_draw) :
    FnOk P w K mg base (L2.CX P w) (n + 1) f fd ["cell"] (spM K 1 (kNew.f (runM 1 11 (m__law_names f__law_draw)))) :=
  def_ok (N := ["cell", "some", "size", "at", "names", "j", "many", "here", "step", "k", "sign"]) kNew F sc__law_names fun cdv A outer s H E W hr tk =>
    sms_cons (sm_set (i := 1) sc__law_names.nd rfl (by first | exact Or.inl rfl | exact Or.inr rfl) (em_str))
    (sms_cons (sm_set (i := 2) sc__law_names.nd rfl (by first | exact Or.inl rfl | exact Or.inr rfl) (em_bin o_add (em_int) (em_call A__law_draw rfl hr tk rfl (am_cons (em_v (pv 0)) (am_cons (em_int) (am_cons (em_int) (am_nil)))))))
    (sms_cons (sm_set (i := 3) sc__law_names.nd rfl (by first | exact Or.inl rfl | exact Or.inr rfl) (em_call A__law_draw rfl hr tk rfl (am_cons (em_v (pv 0)) (am_cons (em_int) (am_cons (em_v (pv 2)) (am_nil))))))
    (sms_cons (sm_set (i := 4) sc__law_names.nd rfl (by first | exact Or.inl rfl | exact Or.inr rfl) (em_lst (am_cons (em_str) (am_cons (em_str) (am_cons (em_str) (am_cons (em_str) (am_nil)))))))
    (sms_cons (sm_for (passes_of rfl) rfl (im_rng1 (by rfl) B.z_range (am_cons (em_v (pv 2)) (am_nil))) (gm_name (i := 5) (pg_name (i := 5) sc__law_names.nd rfl (by first | exact Or.inl rfl | exact Or.inr rfl))) (sms_cons (sm_set (i := 6) sc__law_names.nd rfl (by first | exact Or.inl rfl | exact Or.inr rfl) (em_bin o_add (em_int) (em_bin o_mulX (em_int) (em_callTy c_int rfl B.z_int (by decide +kernel) (am_cons (em_cmp o_gt (em_v (pv 5)) (em_int) (nomark _)) (am_nil))))))
    (sms_cons (sm_set (i := 7) sc__law_names.nd rfl (by first | exact Or.inl rfl | exact Or.inr rfl) (em_call A__law_draw rfl hr tk rfl (am_cons (em_v (pv 0)) (am_cons (em_bin o_add (em_int) (em_v (pv 5))) (am_cons (em_v (pv 6)) (am_nil))))))
    (sms_cons (sm_set (i := 8) sc__law_names.nd rfl (by first | exact Or.inl rfl | exact Or.inr rfl) (em_callTy c_int rfl B.z_int (by decide +kernel) (am_cons (em_cmp (o_eq (hu195 hr)) (em_v (pv 5)) (em_v (pv 3)) (nomark _)) (am_nil))))
    (sms_one (sm_for (passes_of rfl) rfl (im_rng1 (by rfl) B.z_range (am_cons (em_int) (am_nil))) (gm_name (i := 9) (pg_name (i := 9) sc__law_names.nd rfl (by first | exact Or.inl rfl | exact Or.inr rfl))) (sms_cons (sm_set (i := 10) sc__law_names.nd rfl (by first | exact Or.inl rfl | exact Or.inr rfl) (em_ix (o_ix (hu1 hr)) (em_v (pv 1)) (em_bin o_mod (em_bin o_add (em_v (pv 7)) (em_bin o_mulX (em_v (pv 9)) (em_v (pv 8)))) (em_v (pv 6))) (fun _ _ => rfl)))
    (sms_one (sm_setIx (s_any (hu1 hr)) (em_bin o_add (em_ix (o_ix (hu1 hr)) (em_v (pv 4)) (em_v (pv 9)) (fun _ _ => rfl)) (em_v (pv 10))) (em_v (pv 4)) (em_v (pv 9)))))))))))
    (sms_one (sm_ret (em_v (pv 4))))))))
theorem sc__law_leaf : FnScope ["cell", "first", "names", "shares", "numbers"] ["cell", "first", "names", "shares"] (defScope s__law_leaf) := ⟨rfl, rfl, rfl, by decide +kernel, rfl, by decide +kernel, by decide +kernel⟩
theorem ok__law_leaf (F : FunD K "_law_leaf" "_law_leaf" (defArgs s__law_leaf) (defBody s__law_leaf) (defScope s__law_leaf) [] [] f fd) (B : Blt mg) {f__law_draw : Fm} (A__law_draw : FnAt P w K mg base n "_law_draw" ["cell", "k", "many"] f__law_draw) :
    FnOk P w K mg base (L2.CX P w) (n + 1) f fd ["cell", "first", "names", "shares"] (spM K 4 (kPure.f (runM 4 5 (m__law_leaf f__law_draw)))) :=
  def_ok (N := ["cell", "first", "names", "shares", "numbers"]) kPure F sc__law_leaf fun cdv A outer s H E W hr tk =>
    sms_cons (sm_if (tm_cmp o_lt (em_call A__law_draw rfl hr tk rfl (am_cons (em_v (pv 0)) (am_cons (em_int) (am_cons (em_int) (am_nil))))) (em_v (pv 3)) (nomark _)) (sms_cons (sm_set (i := 4) sc__law_leaf.nd rfl (by first | exact Or.inl rfl | exact Or.inr rfl) (em_lst (am_cons (em_int) (am_cons (em_int) (am_cons (em_int) (am_cons (em_bin o_pow (em_int) (em_int)) (am_cons (em_bin o_add (em_int) (em_bin o_mod (em_v (pv 1)) (em_bin o_pow (em_int) (em_int)))) (am_nil))))))))
    (sms_one (sm_ret (em_tup (am_cons (em_str) (am_cons (em_ix (o_ix (hu1 hr)) (em_v (pv 4)) (em_call A__law_draw rfl hr tk rfl (am_cons (em_v (pv 0)) (am_cons (em_int) (am_cons (em_int) (am_nil))))) (fun _ _ => rfl)) (am_nil))))))) (sms_nil))
    (sms_one (sm_ret (em_tup (am_cons (em_str) (am_cons (em_ix (o_ix (hu1 hr)) (em_v (pv 2)) (em_call A__law_draw rfl hr tk rfl (am_cons (em_v (pv 0)) (am_cons (em_int) (am_cons (em_int) (am_nil))))) (fun _ _ => rfl)) (am_cons (em_tup (am_nil)) (am_nil)))))))
theorem sc__law_tree : FnScope ["cells", "first", "shares", "names", "frames", "cell", "way", "top", "parts", "whole", "time"] ["cells", "first", "shares"] (defScope s__law_tree) := ⟨rfl, rfl, rfl, by decide +kernel, rfl, by decide +kernel, by decide +kernel⟩
theorem ok__law_tree (F : FunD K "_law_tree" "_law_tree" (defArgs s__law_tree) (defBody s__law_tree) (defScope s__law_tree) [] [] f fd) (B : Blt mg) {f__law_draw f__law_leaf f__law_names : Fm} (A__law_draw : FnAt P w K mg base n "_law_draw" ["cell", "k", "many"] f__law_draw) (A__law_leaf : FnAt P w K mg base n "_law_leaf" ["cell", "first", "names", "shares"] f__law_leaf) (A__law_names : FnAt P w K mg base n "_law_names" ["cell"] f__law_names) :
    FnOk P w K mg base (L2.CX P w) (n + 1) f fd ["cells", "first", "shares"] (spM K 3 (kPure.f (runM 3 11 (m__law_tree f__law_draw f__law_leaf f__law_names)))) :=
  def_ok (N := ["cells", "first", "shares", "names", "frames", "cell", "way", "top", "parts", "whole", "time"]) kPure F sc__law_tree fun cdv A outer s H E W hr tk =>
    sms_cons (sm_set (i := 3) sc__law_tree.nd rfl (by first | exact Or.inl rfl | exact Or.inr rfl) (em_call A__law_names rfl hr tk rfl (am_cons (em_v (pv 1)) (am_nil))))
    (sms_cons (sm_set (i := 4) sc__law_tree.nd rfl (by first | exact Or.inl rfl | exact Or.inr rfl) (em_lst (am_cons (em_tup (am_cons (em_ix (o_ix (hu1 hr)) (em_v (pv 3)) (em_int) (fun _ _ => rfl)) (am_cons (em_lst (am_nil)) (am_nil)))) (am_nil))))
    (sms_cons (sm_for (passes_of rfl) rfl (im_val rfl (em_slice rfl (em_v (pv 0)) (pm_no) (pm_some (em_int)))) (gm_name (i := 5) (pg_name (i := 5) sc__law_tree.nd rfl (by first | exact Or.inl rfl | exact Or.inr rfl))) (sms_cons (sm_set (i := 6) sc__law_tree.nd rfl (by first | exact Or.inl rfl | exact Or.inr rfl) (em_call A__law_draw rfl hr tk rfl (am_cons (em_v (pv 5)) (am_cons (em_int) (am_cons (em_int) (am_nil))))))
    (sms_one (sm_if (PW.pt (tm_or (tm_cmp (o_eq (hu195 hr)) (em_callB c_len rfl B.z_len (by decide +kernel) (am_cons (em_ix (o_ix (hu1 hr)) (em_ix (o_ix (hu1 hr)) (em_v (pv 4)) (em_neg (em_int)) (fun _ _ => rfl)) (em_int) (fun _ _ => rfl)) (am_nil))) (em_int) (nomark _)) (tm_or1 (PW.pt (tm_and (tm_cmp (o_eq (hu195 hr)) (em_v (pv 6)) (em_int) (nomark _)) (tm_and1 (tm_cmp o_gt (em_callB c_len rfl B.z_len (by decide +kernel) (am_cons (em_v (pv 4)) (am_nil))) (em_int) (nomark _)))))))) (sms_cons (sm_asg (em_bm0 rfl PySem.F.plainAttrs_list PySem.F.slot_list_pop PySem.F.type_list_pop k_pop (fun _ _ _ _ _ => ckList_ty) (em_v (pv 4))) (gm_tup rfl (gms_cons (gm_name (i := 7) (pg_name (i := 7) sc__law_tree.nd rfl (by first | exact Or.inl rfl | exact Or.inr rfl))) (gms_cons (gm_name (i := 8) (pg_name (i := 8) sc__law_tree.nd rfl (by first | exact Or.inl rfl | exact Or.inr rfl))) (gms_nil))) rfl))
    (sms_cons (sm_set (i := 9) sc__law_tree.nd rfl (by first | exact Or.inl rfl | exact Or.inr rfl) (em_tup (am_cons (em_str) (am_cons (em_v (pv 7)) (am_cons (em_callTy c_tuple rfl B.z_tuple (by decide +kernel) (am_cons (em_v (pv 8)) (am_nil))) (am_nil))))))
    (sms_one (sm_if (tm_cmp (o_eq (hu195 hr)) (em_v (pv 4)) (em_lst (am_nil)) (nomark _)) (sms_one (sm_expr (em_bm rfl PySem.F.plainAttrs_list PySem.F.slot_list_append PySem.F.type_list_append k_append (fun _ _ _ _ _ => ckList_ty) (em_v (pv 4)) (am_cons (em_tup (am_cons (em_ix (o_ix (hu1 hr)) (em_v (pv 3)) (em_call A__law_draw rfl hr tk rfl (am_cons (em_v (pv 5)) (am_cons (em_int) (am_cons (em_int) (am_nil))))) (fun _ _ => rfl)) (am_cons (em_lst (am_cons (em_v (pv 9)) (am_nil))) (am_nil)))) (am_nil))))) (sms_one (sm_expr (em_bm rfl PySem.F.plainAttrs_list PySem.F.slot_list_append PySem.F.type_list_append k_append (fun _ _ _ _ _ => ckList_ty) (em_ix (o_ix (hu1 hr)) (em_ix (o_ix (hu1 hr)) (em_v (pv 4)) (em_neg (em_int)) (fun _ _ => rfl)) (em_int) (fun _ _ => rfl)) (am_cons (em_v (pv 9)) (am_nil))))))))) (sms_one (sm_if (PW.pt (tm_and (tm_cmp o_lt (em_v (pv 6)) (em_int) (nomark _)) (tm_and1 (tm_cmp o_lt (em_callB c_len rfl B.z_len (by decide +kernel) (am_cons (em_v (pv 4)) (am_nil))) (em_int) (nomark _))))) (sms_one (sm_expr (em_bm rfl PySem.F.plainAttrs_list PySem.F.slot_list_append PySem.F.type_list_append k_append (fun _ _ _ _ _ => ckList_ty) (em_v (pv 4)) (am_cons (em_tup (am_cons (em_ix (o_ix (hu1 hr)) (em_v (pv 3)) (em_call A__law_draw rfl hr tk rfl (am_cons (em_v (pv 5)) (am_cons (em_int) (am_cons (em_int) (am_nil))))) (fun _ _ => rfl)) (am_cons (em_lst (am_nil)) (am_nil)))) (am_nil))))) (sms_one (sm_for (passes_of rfl) rfl (im_rng1 (by rfl) B.z_range (am_cons (em_callB (c_min2 rfl) rfl B.z_min (by decide +kernel) (am_cons (em_bin o_add (em_int) (em_call A__law_draw rfl hr tk rfl (am_cons (em_v (pv 5)) (am_cons (em_int) (am_cons (em_int) (am_nil)))))) (am_cons (em_bin o_sub (em_int) (em_callB c_len rfl B.z_len (by decide +kernel) (am_cons (em_ix (o_ix (hu1 hr)) (em_ix (o_ix (hu1 hr)) (em_v (pv 4)) (em_neg (em_int)) (fun _ _ => rfl)) (em_int) (fun _ _ => rfl)) (am_nil)))) (am_nil)))) (am_nil))) (gm_name (i := 10) (pg_name (i := 10) sc__law_tree.nd rfl (by first | exact Or.inl rfl | exact Or.inr rfl))) (sms_one (sm_expr (em_bm rfl PySem.F.plainAttrs_list PySem.F.slot_list_append PySem.F.type_list_append k_append (fun _ _ _ _ _ => ckList_ty) (em_ix (o_ix (hu1 hr)) (em_ix (o_ix (hu1 hr)) (em_v (pv 4)) (em_neg (em_int)) (fun _ _ => rfl)) (em_int) (fun _ _ => rfl)) (am_cons (em_call A__law_leaf rfl hr tk rfl (am_cons (em_bin o_add (em_v (pv 5)) (em_v (pv 10))) (am_cons (em_v (pv 1)) (am_cons (em_v (pv 3)) (am_cons (em_v (pv 2)) (am_nil)))))) (am_nil)))))))))))))
    (sms_cons (sm_while FUEL (passes_of rfl) (tm_cmp o_gt (em_callB c_len rfl B.z_len (by decide +kernel) (am_cons (em_v (pv 4)) (am_nil))) (em_int) (nomark _)) (sms_cons (sm_asg (em_bm0 rfl PySem.F.plainAttrs_list PySem.F.slot_list_pop PySem.F.type_list_pop k_pop (fun _ _ _ _ _ => ckList_ty) (em_v (pv 4))) (gm_tup rfl (gms_cons (gm_name (i := 7) (pg_name (i := 7) sc__law_tree.nd rfl (by first | exact Or.inl rfl | exact Or.inr rfl))) (gms_cons (gm_name (i := 8) (pg_name (i := 8) sc__law_tree.nd rfl (by first | exact Or.inl rfl | exact Or.inr rfl))) (gms_nil))) rfl))
    (sms_one (sm_expr (em_bm rfl PySem.F.plainAttrs_list PySem.F.slot_list_append PySem.F.type_list_append k_append (fun _ _ _ _ _ => ckList_ty) (em_ix (o_ix (hu1 hr)) (em_ix (o_ix (hu1 hr)) (em_v (pv 4)) (em_neg (em_int)) (fun _ _ => rfl)) (em_int) (fun _ _ => rfl)) (am_cons (em_tup (am_cons (em_str) (am_cons (em_v (pv 7)) (am_cons (em_callTy c_tuple rfl B.z_tuple (by decide +kernel) (am_cons (em_v (pv 8)) (am_nil))) (am_nil))))) (am_nil)))))))
    (sms_one (sm_ret (em_tup (am_cons (em_str) (am_cons (em_ix (o_ix (hu1 hr)) (em_ix (o_ix (hu1 hr)) (em_v (pv 4)) (em_int) (fun _ _ => rfl)) (em_int) (fun _ _ => rfl)) (am_cons (em_callTy c_tuple rfl B.z_tuple (by decide +kernel) (am_cons (em_ix (o_ix (hu1 hr)) (em_ix (o_ix (hu1 hr)) (em_v (pv 4)) (em_int) (fun _ _ => rfl)) (em_int) (fun _ _ => rfl)) (am_nil))) (am_nil))))))))))
theorem sc__law_places : FnScope ["tree", "found", "waiting", "place", "here", "k"] ["tree"] (defScope s__law_places) := ⟨rfl, rfl, rfl, by decide +kernel, rfl, by decide +kernel, by decide +kernel⟩
theorem ok__law_places (F : FunD K "_law_places" "_law_places" (defArgs s__law_places) (defBody s__law_places) (defScope s__law_places) [] [] f fd) (B : Blt mg) :
    FnOk P w K mg base (L2.CX P w) (n + 1) f fd ["tree"] (spM K 1 (kNew.f (runM 1 6 (m__law_places)))) :=
  def_ok (N := ["tree", "found", "waiting", "place", "here", "k"]) kNew F sc__law_places fun cdv A outer s H E W hr tk =>
    sms_cons (sm_set (i := 1) sc__law_places.nd rfl (by first | exact Or.inl rfl | exact Or.inr rfl) (em_lst (am_nil)))
    (sms_cons (sm_set (i := 2) sc__law_places.nd rfl (by first | exact Or.inl rfl | exact Or.inr rfl) (em_lst (am_cons (em_tup (am_cons (em_tup (am_nil)) (am_cons (em_v (pv 0)) (am_nil)))) (am_nil))))
    (sms_cons (sm_while FUEL (passes_of rfl) (tm_cmp (o_ne (hu195 hr)) (em_v (pv 2)) (em_lst (am_nil)) (nomark _)) (sms_cons (sm_asg (em_bm0 rfl PySem.F.plainAttrs_list PySem.F.slot_list_pop PySem.F.type_list_pop k_pop (fun _ _ _ _ _ => ckList_ty) (em_v (pv 2))) (gm_tup rfl (gms_cons (gm_name (i := 3) (pg_name (i := 3) sc__law_places.nd rfl (by first | exact Or.inl rfl | exact Or.inr rfl))) (gms_cons (gm_name (i := 4) (pg_name (i := 4) sc__law_places.nd rfl (by first | exact Or.inl rfl | exact Or.inr rfl))) (gms_nil))) rfl))
    (sms_cons (sm_expr (em_bm rfl PySem.F.plainAttrs_list PySem.F.slot_list_append PySem.F.type_list_append k_append (fun _ _ _ _ _ => ckList_ty) (em_v (pv 1)) (am_cons (em_tup (am_cons (em_v (pv 3)) (am_cons (em_v (pv 4)) (am_nil)))) (am_nil))))
    (sms_one (sm_if (tm_cmp (o_eq (hu195 hr)) (em_ix (o_ix (hu1 hr)) (em_v (pv 4)) (em_int) (fun _ _ => rfl)) (em_str) (nomark _)) (sms_one (sm_for (passes_of rfl) rfl (im_rng3 (by rfl) B.z_range (am_cons (em_bin o_sub (em_callB c_len rfl B.z_len (by decide +kernel) (am_cons (em_ix (o_ix (hu1 hr)) (em_v (pv 4)) (em_int) (fun _ _ => rfl)) (am_nil))) (em_int)) (am_cons (em_neg (em_int)) (am_cons (em_neg (em_int)) (am_nil))))) (gm_name (i := 5) (pg_name (i := 5) sc__law_places.nd rfl (by first | exact Or.inl rfl | exact Or.inr rfl))) (sms_one (sm_expr (em_bm rfl PySem.F.plainAttrs_list PySem.F.slot_list_append PySem.F.type_list_append k_append (fun _ _ _ _ _ => ckList_ty) (em_v (pv 2)) (am_cons (em_tup (am_cons (em_bin o_add (em_v (pv 3)) (em_tup (am_cons (em_v (pv 5)) (am_nil)))) (am_cons (em_ix (o_ix (hu1 hr)) (em_ix (o_ix (hu1 hr)) (em_v (pv 4)) (em_int) (fun _ _ => rfl)) (em_v (pv 5)) (fun _ _ => rfl)) (am_nil)))) (am_nil))))))) (sms_nil))))))
    (sms_one (sm_ret (em_v (pv 1))))))
theorem sc__law_filling : FnScope ["cells", "first", "way", "numbers", "filling", "k"] ["cells", "first", "way"] (defScope s__law_filling) := ⟨rfl, rfl, rfl, by decide +kernel, rfl, by decide +kernel, by decide +kernel⟩
theorem ok__law_filling (F : FunD K "_law_filling" "_law_filling" (defArgs s__law_filling) (defBody s__law_filling) (defScope s__law_filling) [] [] f fd) (B : Blt mg) {f__law_draw f__law_small : Fm} (A__law_draw : FnAt P w K mg base n "_law_draw" ["cell", "k", "many"] f__law_draw) (A__law_small : FnAt P w K mg base n "_law_small" ["cells", "first", "way"] f__law_small) :
    FnOk P w K mg base (L2.CX P w) (n + 1) f fd ["cells", "first", "way"] (spM K 3 (kNew.f (runM 3 6 (m__law_filling f__law_draw f__law_small)))) :=
  def_ok (N := ["cells", "first", "way", "numbers", "filling", "k"]) kNew F sc__law_filling fun cdv A outer s H E W hr tk =>
    sms_cons (sm_set (i := 3) sc__law_filling.nd rfl (by first | exact Or.inl rfl | exact Or.inr rfl) (em_lst (am_cons (em_int) (am_cons (em_int) (am_cons (em_int) (am_cons (em_bin o_pow (em_int) (em_int)) (am_cons (em_bin o_add (em_int) (em_bin o_mod (em_v (pv 1)) (em_bin o_pow (em_int) (em_int)))) (am_cons (em_int) (am_nil)))))))))
    (sms_cons (sm_set (i := 4) sc__law_filling.nd rfl (by first | exact Or.inl rfl | exact Or.inr rfl) (em_newD))
    (sms_cons (sm_for (passes_of rfl) rfl (im_rng1 (by rfl) B.z_range (am_cons (em_int) (am_nil))) (gm_name (i := 5) (pg_name (i := 5) sc__law_filling.nd rfl (by first | exact Or.inl rfl | exact Or.inr rfl))) (sms_one (sm_if (tm_cmp o_gt (em_call A__law_draw rfl hr tk rfl (am_cons (em_v (pv 1)) (am_cons (em_bin o_add (em_v (pv 2)) (em_v (pv 5))) (am_cons (em_int) (am_nil))))) (em_int) (nomark _)) (sms_one (sm_setIx (s_any (hu1 hr)) (em_call A__law_small rfl hr tk rfl (am_cons (em_step (k := 6) rfl (by decide) (em_v (pv 0)) (pm_some (em_v (pv 5)))) (am_cons (em_v (pv 1)) (am_cons (em_bin o_add (em_v (pv 2)) (em_v (pv 5))) (am_nil))))) (em_v (pv 4)) (em_ix (o_ix (hu1 hr)) (em_v (pv 3)) (em_v (pv 5)) (fun _ _ => rfl)))) (sms_nil))))
    (sms_one (sm_ret (em_v (pv 4))))))
theorem sc__law_small : FnScope ["cells", "first", "way", "kind"] ["cells", "first", "way"] (defScope s__law_small) := ⟨rfl, rfl, rfl, by decide +kernel, rfl, by decide +kernel, by decide +kernel⟩
theorem ok__law_small (F : FunD K "_law_small" "_law_small" (defArgs s__law_small) (defBody s__law_small) (defScope s__law_small) [] [] f fd) (B : Blt mg) {f__law_tree f__law_draw : Fm} (A__law_tree : FnAt P w K mg base n "_law_tree" ["cells", "first", "shares"] f__law_tree) (A__law_draw : FnAt P w K mg base n "_law_draw" ["cell", "k", "many"] f__law_draw) :
    FnOk P w K mg base (L2.CX P w) (n + 1) f fd ["cells", "first", "way"] (spM K 3 (kPure.f (runM 3 4 (m__law_small f__law_tree f__law_draw)))) :=
  def_ok (N := ["cells", "first", "way", "kind"]) kPure F sc__law_small fun cdv A outer s H E W hr tk =>
    sms_cons (sm_set (i := 3) sc__law_small.nd rfl (by first | exact Or.inl rfl | exact Or.inr rfl) (em_call A__law_draw rfl hr tk rfl (am_cons (em_v (pv 1)) (am_cons (em_bin o_add (em_v (pv 2)) (em_int)) (am_cons (em_int) (am_nil))))))
    (sms_cons (sm_if (tm_cmp (o_eq (hu195 hr)) (em_v (pv 3)) (em_int) (nomark _)) (sms_one (sm_ret (em_tup (am_cons (em_str) (am_cons (em_ix (o_ix (hu1 hr)) (em_lst (am_cons (em_int) (am_cons (em_int) (am_cons (em_int) (am_cons (em_bin o_pow (em_int) (em_int)) (am_cons (em_int) (am_cons (em_bin o_add (em_int) (em_bin o_mod (em_v (pv 1)) (em_bin o_pow (em_int) (em_int)))) (am_nil)))))))) (em_call A__law_draw rfl hr tk rfl (am_cons (em_v (pv 1)) (am_cons (em_bin o_add (em_v (pv 2)) (em_int)) (am_cons (em_int) (am_nil))))) (fun _ _ => rfl)) (am_nil)))))) (sms_nil))
    (sms_cons (sm_if (tm_cmp (o_eq (hu195 hr)) (em_v (pv 3)) (em_int) (nomark _)) (sms_one (sm_ret (em_call A__law_tree rfl hr tk rfl (am_cons (em_slice rfl (em_v (pv 0)) (pm_no) (pm_some (em_int))) (am_cons (em_v (pv 1)) (am_cons (em_int) (am_nil))))))) (sms_nil))
    (sms_one (sm_ret (em_call A__law_tree rfl hr tk rfl (am_cons (em_v (pv 0)) (am_cons (em_v (pv 1)) (am_cons (em_int) (am_nil)))))))))
theorem sc__law_exchanged : FnScope ["tree", "filling", "part"] ["tree", "filling"] (defScope s__law_exchanged) := ⟨rfl, rfl, rfl, by decide +kernel, rfl, by decide +kernel, by decide +kernel⟩
theorem ok__law_exchanged (F : FunD K "_law_exchanged" "_law_exchanged" (defArgs s__law_exchanged) (defBody s__law_exchanged) (defScope s__law_exchanged) [] [] f fd) (B : Blt mg) {f__law_exchanged : Fm} (A__law_exchanged : FnAt P w K mg base n "_law_exchanged" ["tree", "filling"] f__law_exchanged) :
    FnOk P w K mg base (L2.CX P w) (n + 1) f fd ["tree", "filling"] (spM K 2 (kPure.f (runM 2 3 (m__law_exchanged f__law_exchanged)))) :=
  def_ok (N := ["tree", "filling", "part"]) kPure F sc__law_exchanged fun cdv A outer s H E W hr tk =>
    sms_cons (sm_if (tm_cmp (o_eq (hu195 hr)) (em_ix (o_ix (hu1 hr)) (em_v (pv 0)) (em_int) (fun _ _ => rfl)) (em_str) (nomark _)) (sms_one (sm_ret (em_bm rfl PySem.F.plainAttrs_dict PySem.F.slot_dict_get PySem.F.type_dict_get (k_get (hu1 hr)) (fun _ _ _ _ _ => ckDct_ty) (em_v (pv 1)) (am_cons (em_ix (o_ix (hu1 hr)) (em_v (pv 0)) (em_int) (fun _ _ => rfl)) (am_cons (em_v (pv 0)) (am_nil)))))) (sms_nil))
    (sms_one (sm_ret (em_tup (am_cons (em_str) (am_cons (em_ix (o_ix (hu1 hr)) (em_v (pv 0)) (em_int) (fun _ _ => rfl)) (am_cons (em_callTy c_tuple rfl B.z_tuple (by decide +kernel) (am_cons (em_lc (own := [("part", 2)]) rfl sc__law_exchanged.nd (im_val rfl (em_ix (o_ix (hu1 hr)) (em_v (pv 0)) (em_int) (fun _ _ => rfl))) (blkOk_by (own := [("part", 2)]) (N := ["tree", "filling", "part"]) (sc := defScope s__law_exchanged) (by decide +kernel)) (ct_name _ 2) (fun _ _ _ _ _ => pg_name (i := 2) sc__law_exchanged.nd rfl (Or.inl rfl)) (fun _ _ _ _ _ => tms_nil) (fun _ _ _ _ _ => em_call A__law_exchanged rfl hr takes0 rfl (am_cons (em_v (pv 2)) (am_cons (em_v (pv 1)) (am_nil))))) (am_nil))) (am_nil)))))))
theorem sc__law_too_great : FnScope ["tree", "filling", "sizes", "number", "places", "place", "here", "many", "deep", "size"] ["tree", "filling"] (defScope s__law_too_great) := ⟨rfl, rfl, rfl, by decide +kernel, rfl, by decide +kernel, by decide +kernel⟩
theorem ok__law_too_great (F : FunD K "_law_too_great" "_law_too_great" (defArgs s__law_too_great) (defBody s__law_too_great) (defScope s__law_too_great) [] [] f fd) (B : Blt mg) {f__law_places : Fm} (A__law_places : FnAt P w K mg base n "_law_places" ["tree"] f__law_places) :
    FnOk P w K mg base (L2.CX P w) (n + 1) f fd ["tree", "filling"] (spM K 2 (kPure.f (runM 2 10 (m__law_too_great f__law_places)))) :=
  def_ok (N := ["tree", "filling", "sizes", "number", "places", "place", "here", "many", "deep", "size"]) kPure F sc__law_too_great fun cdv A outer s H E W hr tk =>
    sms_cons (sm_set (i := 2) sc__law_too_great.nd rfl (by first | exact Or.inl rfl | exact Or.inr rfl) (em_newD))
    (sms_cons (sm_lock (i := 1) (sm_for (passes_of rfl) rfl (im_fd rfl (pv 1)) (gm_name (i := 3) (pg_name (i := 3) sc__law_too_great.nd rfl (by first | exact Or.inl rfl | exact Or.inr rfl))) (sms_cons (sm_set (i := 4) sc__law_too_great.nd rfl (by first | exact Or.inl rfl | exact Or.inr rfl) (em_call A__law_places rfl hr tk rfl (am_cons (em_ix (o_ix (hu1 hr)) (em_v (pv 1)) (em_v (pv 3)) (fun _ _ => rfl)) (am_nil))))
    (sms_one (sm_setIx (s_any (hu1 hr)) (em_tup (am_cons (em_callB c_len rfl B.z_len (by decide +kernel) (am_cons (em_v (pv 4)) (am_nil))) (am_cons (em_bin o_add (em_int) (em_callB (c_max1 rfl) rfl B.z_max (by decide +kernel) (am_cons (em_lc (own := [("place", 5), ("here", 6)]) rfl sc__law_too_great.nd (im_val rfl (em_v (pv 4))) (blkOk_by (own := [("place", 5), ("here", 6)]) (N := ["tree", "filling", "sizes", "number", "places", "place", "here", "many", "deep", "size"]) (sc := defScope s__law_too_great) (by decide +kernel)) (ct_two _ (i := 5) (j := 6) (by decide)) (fun _ _ _ _ _ => pg_tup rfl (pgs_cons (pg_name (i := 5) sc__law_too_great.nd rfl (Or.inl rfl)) (pgs_cons (pg_name (i := 6) sc__law_too_great.nd rfl (Or.inl rfl)) pgs_nil))) (fun _ _ _ _ _ => tms_nil) (fun _ _ _ _ _ => em_callB c_len rfl B.z_len (by decide +kernel) (am_cons (em_v (pv 5)) (am_nil)))) (am_nil)))) (am_nil)))) (em_v (pv 2)) (em_v (pv 3)))))))
    (sms_cons (sm_set (i := 7) sc__law_too_great.nd rfl (by first | exact Or.inl rfl | exact Or.inr rfl) (em_int))
    (sms_cons (sm_set (i := 8) sc__law_too_great.nd rfl (by first | exact Or.inl rfl | exact Or.inr rfl) (em_int))
    (sms_cons (sm_for (passes_of rfl) rfl (im_val rfl (em_call A__law_places rfl hr tk rfl (am_cons (em_v (pv 0)) (am_nil)))) (gm_tup rfl (gms_cons (gm_name (i := 5) (pg_name (i := 5) sc__law_too_great.nd rfl (by first | exact Or.inl rfl | exact Or.inr rfl))) (gms_cons (gm_name (i := 6) (pg_name (i := 6) sc__law_too_great.nd rfl (by first | exact Or.inl rfl | exact Or.inr rfl))) (gms_nil))) rfl) (sms_cons (sm_set (i := 9) sc__law_too_great.nd rfl (by first | exact Or.inl rfl | exact Or.inr rfl) (em_tup (am_cons (em_int) (am_cons (em_int) (am_nil)))))
    (sms_cons (sm_if (tm_cmp (o_eq (hu195 hr)) (em_ix (o_ix (hu1 hr)) (em_v (pv 6)) (em_int) (fun _ _ => rfl)) (em_str) (nomark _)) (sms_one (sm_set (i := 9) sc__law_too_great.nd rfl (by first | exact Or.inl rfl | exact Or.inr rfl) (em_bm rfl PySem.F.plainAttrs_dict PySem.F.slot_dict_get PySem.F.type_dict_get (k_get (hu1 hr)) (fun _ _ _ _ _ => ckDct_ty) (em_v (pv 2)) (am_cons (em_ix (o_ix (hu1 hr)) (em_v (pv 6)) (em_int) (fun _ _ => rfl)) (am_cons (em_tup (am_cons (em_int) (am_cons (em_int) (am_nil)))) (am_nil)))))) (sms_nil))
    (sms_cons (sm_set (i := 7) sc__law_too_great.nd rfl (by first | exact Or.inl rfl | exact Or.inr rfl) (em_bin o_add (em_v (pv 7)) (em_ix (o_ix (hu1 hr)) (em_v (pv 9)) (em_int) (fun _ _ => rfl))))
    (sms_one (sm_set (i := 8) sc__law_too_great.nd rfl (by first | exact Or.inl rfl | exact Or.inr rfl) (em_callB (c_max2 rfl) rfl B.z_max (by decide +kernel) (am_cons (em_v (pv 8)) (am_cons (em_bin o_add (em_callB c_len rfl B.z_len (by decide +kernel) (am_cons (em_v (pv 5)) (am_nil))) (em_ix (o_ix (hu1 hr)) (em_v (pv 9)) (em_int) (fun _ _ => rfl))) (am_nil))))))))))
    (sms_one (sm_ret (em_or (em_cmp o_gt (em_v (pv 7)) (em_int) (nomark _)) (em_one (em_cmp o_gt (em_v (pv 8)) (em_int) (nomark _))))))))))
theorem sc__law_is_due : FnScope ["found", "due", "number"] ["found", "due"] (defScope s__law_is_due) := ⟨rfl, rfl, rfl, by decide +kernel, rfl, by decide +kernel, by decide +kernel⟩
theorem ok__law_is_due (F : FunD K "_law_is_due" "_law_is_due" (defArgs s__law_is_due) (defBody s__law_is_due) (defScope s__law_is_due) [] [] f fd) (B : Blt mg) {f__law_alike : Fm} (A__law_alike : FnAt P w K mg base n "_law_alike" ["found", "due"] f__law_alike) :
    FnOk P w K mg base (L2.CX P w) (n + 1) f fd ["found", "due"] (spM K 2 (kPure.f (runM 2 3 (m__law_is_due f__law_alike)))) :=
  def_ok (N := ["found", "due", "number"]) kPure F sc__law_is_due fun cdv A outer s H E W hr tk =>
    sms_cons (sm_if (PW.pt (tm_or (tm_not (tm_tru (em_isi (T := "dict") rfl (by decide) rfl B.z_isinstance rfl B.z_dict (by decide +kernel) (em_v (pv 0))) rfl)) (tm_or1 (tm_cmp (o_ne (hu195 hr)) (em_callB c_len rfl B.z_len (by decide +kernel) (am_cons (em_v (pv 0)) (am_nil))) (em_callB c_len rfl B.z_len (by decide +kernel) (am_cons (em_v (pv 1)) (am_nil))) (nomark _))))) (sms_one (sm_ret (em_bl))) (sms_nil))
    (sms_one (sm_ret (em_cmp (o_eq (hu195 hr)) (em_lock (i := 1) (em_lc (own := [("number", 2)]) rfl sc__law_is_due.nd (im_fd rfl (pv 1)) (blkOk_by (own := [("number", 2)]) (N := ["found", "due", "number"]) (sc := defScope s__law_is_due) (by decide +kernel)) (ct_name _ 2) (fun _ _ _ _ _ => pg_name (i := 2) sc__law_is_due.nd rfl (Or.inl rfl)) (fun _ _ _ _ _ => tms_one (PW.pt (tm_or (tm_cmp (o_nin (hu195 hr)) (em_v (pv 2)) (em_v (pv 0)) rfl) (tm_or1 (tm_not (tm_tru (em_call A__law_alike rfl hr takes0 rfl (am_cons (em_ix (o_ix (hu1 hr)) (em_v (pv 0)) (em_v (pv 2)) (fun _ _ => rfl)) (am_cons (em_ix (o_ix (hu1 hr)) (em_v (pv 1)) (em_v (pv 2)) (fun _ _ => rfl)) (am_nil)))) rfl)))))) (fun _ _ _ _ _ => em_v (pv 2)))) (em_lst (am_nil)) (nomark _))))
theorem sc_law_k17x : FnScope ["script", "first", "one", "other", "handed", "found", "refused", "number", "due"] ["script"] (defScope s_law) := ⟨rfl, rfl, rfl, by decide +kernel, rfl, by decide +kernel, by decide +kernel⟩
theorem ok_law_k17x (F : FunD K "law" "law" (defArgs s_law) (defBody s_law) (defScope s_law) [] [] f fd) (B : Blt mg) (g_TooLong : mg "TooLong" = some (.ref (He.ga K "TooLong"))) (e_TooLong : ExmOk K (.ref (He.ga K "TooLong")) [("FormError", false), ("TooLong", true)]) {f_one_behind f__law_is_due f__law_exchanged f__law_too_great f__law_filling f__law_cell_at : Fm} (A_one_behind : FnAt P w K mg base n "one_behind" ["one", "other"] f_one_behind) (A__law_is_due : FnAt P w K mg base n "_law_is_due" ["found", "due"] f__law_is_due) (A__law_exchanged : FnAt P w K mg base n "_law_exchanged" ["tree", "filling"] f__law_exchanged) (A__law_too_great : FnAt P w K mg base n "_law_too_great" ["tree", "filling"] f__law_too_great) (A__law_filling : FnAt P w K mg base n "_law_filling" ["cells", "first", "way"] f__law_filling) (A__law_cell_at : FnAt P w K mg base n "_law_cell_at" ["script", "k"] f__law_cell_at) :
    FnOk P w K mg base (L2.CX P w) (n + 1) f fd ["script"] (spM K 1 (kPure.f (runM 1 9 (m_law_k17x f_one_behind f__law_is_due f__law_exchanged f__law_too_great f__law_filling f__law_cell_at)))) :=
  def_ok (N := ["script", "first", "one", "other", "handed", "found", "refused", "number", "due"]) kPure F sc_law_k17x fun cdv A outer s H E W hr tk =>
    sms_cons (sm_set (i := 1) sc_law_k17x.nd rfl (by first | exact Or.inl rfl | exact Or.inr rfl) (em_call A__law_cell_at rfl hr tk rfl (am_cons (em_v (pv 0)) (am_cons (em_int) (am_nil)))))
    (sms_cons (sm_set (i := 2) sc_law_k17x.nd rfl (by first | exact Or.inl rfl | exact Or.inr rfl) (em_call A__law_filling rfl hr tk rfl (am_cons (em_step (k := 2) rfl (by decide) (em_v (pv 0)) (pm_some (em_int))) (am_cons (em_v (pv 1)) (am_cons (em_int) (am_nil))))))
    (sms_cons (sm_set (i := 3) sc_law_k17x.nd rfl (by first | exact Or.inl rfl | exact Or.inr rfl) (em_call A__law_filling rfl hr tk rfl (am_cons (em_step (k := 2) rfl (by decide) (em_v (pv 0)) (pm_some (em_int))) (am_cons (em_v (pv 1)) (am_cons (em_int) (am_nil))))))
    (sms_cons (sm_set (i := 4) sc_law_k17x.nd rfl (by first | exact Or.inl rfl | exact Or.inr rfl) (em_lst (am_cons (em_callTy c_dict rfl B.z_dict (by decide +kernel) (am_cons (em_v (pv 2)) (am_nil))) (am_cons (em_callTy c_dict rfl B.z_dict (by decide +kernel) (am_cons (em_v (pv 3)) (am_nil))) (am_nil)))))
    (sms_cons (sm_set (i := 5) sc_law_k17x.nd rfl (by first | exact Or.inl rfl | exact Or.inr rfl) (em_non))
    (sms_cons (sm_set (i := 6) sc_law_k17x.nd rfl (by first | exact Or.inl rfl | exact Or.inr rfl) (em_bl))
    (sms_cons (sm_try (oi := none) rfl rfl rfl sc_law_k17x.nd True.intro ⟨rfl, by decide, .inl g_TooLong⟩ tk rfl e_TooLong (fun W pn xe tk1 hp1 => sms_one (sm_set (i := 5) sc_law_k17x.nd rfl (by first | exact Or.inl rfl | exact Or.inr rfl) (em_call A_one_behind rfl hr tk1 rfl (am_cons (em_ix (o_ix (hu1 hr)) (em_v (pv 4)) (em_int) (fun _ _ => rfl)) (am_cons (em_ix (o_ix (hu1 hr)) (em_v (pv 4)) (em_int) (fun _ _ => rfl)) (am_nil)))))) (fun a pn => sms_one (sm_set (i := 6) sc_law_k17x.nd rfl (by first | exact Or.inl rfl | exact Or.inr rfl) (em_bl))))
    (sms_cons (sm_if (tm_cmp (o_neLD (hu195 hr)) (em_v (pv 4)) (em_lst (am_cons (em_v (pv 2)) (am_cons (em_v (pv 3)) (am_nil)))) (nomark _)) (sms_one (sm_ret (em_bl))) (sms_nil))
    (sms_cons (sm_if (tm_cmp (o_ne (hu195 hr)) (em_lock (i := 2) (em_lc (own := [("number", 7)]) rfl sc_law_k17x.nd (im_fd rfl (pv 2)) (blkOk_by (own := [("number", 7)]) (N := ["script", "first", "one", "other", "handed", "found", "refused", "number", "due"]) (sc := defScope s_law) (by decide +kernel)) (ct_name _ 7) (fun _ _ _ _ _ => pg_name (i := 7) sc_law_k17x.nd rfl (Or.inl rfl)) (fun _ _ _ _ _ => tms_one (tm_tru (em_call A__law_too_great rfl hr takes0 rfl (am_cons (em_ix (o_ix (hu1 hr)) (em_v (pv 2)) (em_v (pv 7)) (fun _ _ => rfl)) (am_cons (em_v (pv 3)) (am_nil)))) rfl)) (fun _ _ _ _ _ => em_v (pv 7)))) (em_lst (am_nil)) (nomark _)) (sms_one (sm_ret (em_v (pv 6)))) (sms_nil))
    (sms_cons (sm_set (i := 8) sc_law_k17x.nd rfl (by first | exact Or.inl rfl | exact Or.inr rfl) (em_callTy c_dict rfl B.z_dict (by decide +kernel) (am_cons (em_v (pv 3)) (am_nil))))
    (sms_cons (sm_lock (i := 2) (sm_for (passes_of rfl) rfl (im_fd rfl (pv 2)) (gm_name (i := 7) (pg_name (i := 7) sc_law_k17x.nd rfl (by first | exact Or.inl rfl | exact Or.inr rfl))) (sms_one (sm_setIx (s_any (hu1 hr)) (em_call A__law_exchanged rfl hr tk rfl (am_cons (em_ix (o_ix (hu1 hr)) (em_v (pv 2)) (em_v (pv 7)) (fun _ _ => rfl)) (am_cons (em_v (pv 3)) (am_nil)))) (em_v (pv 8)) (em_v (pv 7))))))
    (sms_cons (sm_if (PW.pt (tm_or (tm_tru (em_v (pv 6)) rfl) (tm_or1 (tm_not (tm_tru (em_call A__law_is_due rfl hr tk rfl (am_cons (em_v (pv 5)) (am_cons (em_v (pv 8)) (am_nil)))) rfl))))) (sms_one (sm_ret (em_bl))) (sms_nil))
    (sms_cons (sm_expr (em_bm0 rfl PySem.F.plainAttrs_dict PySem.F.slot_dict_clear PySem.F.type_dict_clear k_clear (fun _ _ _ _ _ => ckDct_ty) (em_v (pv 5))))
    (sms_one (sm_ret (em_and (em_cmp (o_eqLD (hu195 hr)) (em_v (pv 4)) (em_lst (am_cons (em_v (pv 2)) (am_cons (em_v (pv 3)) (am_nil)))) (nomark _)) (em_one (em_call A__law_is_due rfl hr tk rfl (am_cons (em_call A_one_behind rfl hr tk rfl (am_cons (em_v (pv 2)) (am_cons (em_v (pv 3)) (am_nil)))) (am_cons (em_v (pv 8)) (am_nil))))))))))))))))))))
end
section
variable {P : Program} {w : World} {K : PySem.W.Frag} {mg : Str → Option Value} {h : Heap} (X : K.In h) (G : h.Ns mainGlobals mg) (c : SaysX fa fn K)
include X G c
theorem blt : Blt mg := ⟨He.free_ok X G (c.fact 23 (f := .free "len") rfl), He.free_ok X G (c.fact 24 (f := .free "range") rfl), He.free_ok X G (c.fact 25 (f := .free "int") rfl), He.free_ok X G (c.fact 26 (f := .free "str") rfl), He.free_ok X G (c.fact 27 (f := .free "sum") rfl), He.free_ok X G (c.fact 28 (f := .free "max") rfl), He.free_ok X G (c.fact 29 (f := .free "min") rfl), He.free_ok X G (c.fact 30 (f := .free "enumerate") rfl), He.free_ok X G (c.fact 31 (f := .free "isinstance") rfl), He.free_ok X G (c.fact 32 (f := .free "tuple") rfl), He.free_ok X G (c.fact 33 (f := .free "list") rfl), He.free_ok X G (c.fact 34 (f := .free "dict") rfl), He.free_ok X G (c.fact 35 (f := .free "sorted") rfl), He.free_ok X G (c.fact 36 (f := .free "abs") rfl), He.free_ok X G (c.fact 37 (f := .free "all") rfl), He.free_ok X G (c.fact 38 (f := .free "set") rfl), He.free_ok X G (c.fact 39 (f := .free "bool") rfl)⟩
theorem c_MOST_FILLED : ∃ t, mg "MOST_FILLED" = some (.int (400) t) := He.int_ok X G (c.fact 41 rfl)
theorem c_DEEPEST_FILLED : ∃ t, mg "DEEPEST_FILLED" = some (.int (60) t) := He.int_ok X G (c.fact 42 rfl)
theorem x_TooLong : ExcF K mg "TooLong" := let ⟨q, k, b, t⟩ := He.exc_ok (c.fact 46 (f := .exc "TooLong") rfl); ⟨q, He.glo_ok X G (c.fact 22 (f := .glo "TooLong") rfl), k, b, t⟩
theorem g_TooLong : mg "TooLong" = some (.ref (He.ga K "TooLong")) := He.glo_ok X G (c.fact 22 (f := .glo "TooLong") rfl)
theorem e_TooLong : ExmOk K (.ref (He.ga K "TooLong")) [("FormError", false), ("TooLong", true)] := fun c0 b0 h0 => by
  simp only [List.mem_cons, Prod.mk.injEq, List.not_mem_nil, or_false] at h0
  rcases h0 with ⟨rfl, rfl⟩ | ⟨rfl, rfl⟩
  · exact He.exm_ok (c.fact 45 rfl)
  · exact He.exm_ok (c.fact 48 rfl)
theorem at_parts_of (base : Heap) : ∀ n, FnAt P w K mg base n "parts_of" ["tree"] (F_parts_of n) := by
  obtain ⟨fd, F⟩ := c.def_ 0 (d := d_parts_of) rfl
  have b : Binds K fd ["tree"] [] := F.bindsN fun _ _ _ _ _ _ us hl => match us, hl with | [_], _ => rfl
  have g := He.glo_ok X G (c.fact 0 (f := .glo "parts_of") rfl)
  intro n
  induction n with
  | zero => exact fnAt_zero F g b
  | succ n ih => exact fnAt_by kPure rfl F g b (ok_parts_of F (blt X G c))
theorem at_knots_of (base : Heap) : ∀ n, FnAt P w K mg base n "knots_of" ["tree"] (F_knots_of n) := by
  obtain ⟨fd, F⟩ := c.def_ 1 (d := d_knots_of) rfl
  have b : Binds K fd ["tree"] [] := F.bindsN fun _ _ _ _ _ _ us hl => match us, hl with | [_], _ => rfl
  have g := He.glo_ok X G (c.fact 1 (f := .glo "knots_of") rfl)
  intro n
  induction n with
  | zero => exact fnAt_zero F g b
  | succ n ih => exact fnAt_by kPure rfl F g b (ok_knots_of F (blt X G c) (at_parts_of X G c base n) ih)
theorem at_depth_of (base : Heap) : ∀ n, FnAt P w K mg base n "depth_of" ["tree"] (F_depth_of n) := by
  obtain ⟨fd, F⟩ := c.def_ 2 (d := d_depth_of) rfl
  have b : Binds K fd ["tree"] [] := F.bindsN fun _ _ _ _ _ _ us hl => match us, hl with | [_], _ => rfl
  have g := He.glo_ok X G (c.fact 2 (f := .glo "depth_of") rfl)
  intro n
  induction n with
  | zero => exact fnAt_zero F g b
  | succ n ih => exact fnAt_by kPure rfl F g b (ok_depth_of F (blt X G c) (at_parts_of X G c base n) ih)
theorem at_blanks_of (base : Heap) : ∀ n, FnAt P w K mg base n "blanks_of" ["tree"] (F_blanks_of n) := by
  obtain ⟨fd, F⟩ := c.def_ 3 (d := d_blanks_of) rfl
  have b : Binds K fd ["tree"] [] := F.bindsN fun _ _ _ _ _ _ us hl => match us, hl with | [_], _ => rfl
  have g := He.glo_ok X G (c.fact 3 (f := .glo "blanks_of") rfl)
  intro n
  induction n with
  | zero => exact fnAt_zero F g b
  | succ n ih => exact fnAt_by kNew rfl F g b (ok_blanks_of F (blt X G c) ih)
theorem at_size_filled (base : Heap) : ∀ n, FnAt P w K mg base n "size_filled" ["tree", "sizes"] (F_size_filled n) := by
  obtain ⟨fd, F⟩ := c.def_ 4 (d := d_size_filled) rfl
  have b : Binds K fd ["tree", "sizes"] [] := F.bindsN fun _ _ _ _ _ _ us hl => match us, hl with | [_, _], _ => rfl
  have g := He.glo_ok X G (c.fact 4 (f := .glo "size_filled") rfl)
  intro n
  induction n with
  | zero => exact fnAt_zero F g b
  | succ n ih => exact fnAt_by kPure rfl F g b (ok_size_filled F (blt X G c) ih)
theorem at_exchanged (base : Heap) : ∀ n, FnAt P w K mg base n "exchanged" ["tree", "filling"] (F_exchanged n) := by
  obtain ⟨fd, F⟩ := c.def_ 5 (d := d_exchanged) rfl
  have b : Binds K fd ["tree", "filling"] [] := F.bindsN fun _ _ _ _ _ _ us hl => match us, hl with | [_, _], _ => rfl
  have g := He.glo_ok X G (c.fact 5 (f := .glo "exchanged") rfl)
  intro n
  induction n with
  | zero => exact fnAt_zero F g b
  | succ n ih => exact fnAt_by kPure rfl F g b (ok_exchanged F (blt X G c) ih)
theorem at_filled (base : Heap) : ∀ n, FnAt P w K mg base n "filled" ["tree", "filling"] (F_filled n) := by
  obtain ⟨fd, F⟩ := c.def_ 6 (d := d_filled) rfl
  have b : Binds K fd ["tree", "filling"] [] := F.bindsN fun _ _ _ _ _ _ us hl => match us, hl with | [_, _], _ => rfl
  have g := He.glo_ok X G (c.fact 6 (f := .glo "filled") rfl)
  intro n
  induction n with
  | zero => exact fnAt_zero F g b
  | succ n ih => exact fnAt_by kPure rfl F g b (ok_filled F (blt X G c) (c_MOST_FILLED X G c) (c_DEEPEST_FILLED X G c) (x_TooLong X G c) (at_exchanged X G c base n) (at_size_filled X G c base n) (at_blanks_of X G c base n) (at_depth_of X G c base n) (at_knots_of X G c base n))
theorem at_one_behind (base : Heap) : ∀ n, FnAt P w K mg base n "one_behind" ["one", "other"] (F_one_behind n) := by
  obtain ⟨fd, F⟩ := c.def_ 7 (d := d_one_behind) rfl
  have b : Binds K fd ["one", "other"] [] := F.bindsN fun _ _ _ _ _ _ us hl => match us, hl with | [_, _], _ => rfl
  have g := He.glo_ok X G (c.fact 7 (f := .glo "one_behind") rfl)
  intro n
  induction n with
  | zero => exact fnAt_zero F g b
  | succ n ih => exact fnAt_by kRaw rfl F g b (ok_one_behind F (blt X G c) (at_filled X G c base n))
theorem at__law_cell_at (base : Heap) : ∀ n, FnAt P w K mg base n "_law_cell_at" ["script", "k"] (F__law_cell_at n) := by
  obtain ⟨fd, F⟩ := c.def_ 8 (d := d__law_cell_at) rfl
  have b : Binds K fd ["script", "k"] [] := F.bindsN fun _ _ _ _ _ _ us hl => match us, hl with | [_, _], _ => rfl
  have g := He.glo_ok X G (c.fact 8 (f := .glo "_law_cell_at") rfl)
  intro n
  induction n with
  | zero => exact fnAt_zero F g b
  | succ n ih => exact fnAt_by kPure rfl F g b (ok__law_cell_at F (blt X G c))
theorem at__law_draw (base : Heap) : ∀ n, FnAt P w K mg base n "_law_draw" ["cell", "k", "many"] (F__law_draw n) := by
  obtain ⟨fd, F⟩ := c.def_ 9 (d := d__law_draw) rfl
  have b : Binds K fd ["cell", "k", "many"] [] := F.bindsN fun _ _ _ _ _ _ us hl => match us, hl with | [_, _, _], _ => rfl
  have g := He.glo_ok X G (c.fact 9 (f := .glo "_law_draw") rfl)
  intro n
  induction n with
  | zero => exact fnAt_zero F g b
  | succ n ih => exact fnAt_by kPure rfl F g b (ok__law_draw F (blt X G c))
theorem at__law_alike (base : Heap) : ∀ n, FnAt P w K mg base n "_law_alike" ["found", "due"] (F__law_alike n) := by
  obtain ⟨fd, F⟩ := c.def_ 10 (d := d__law_alike) rfl
  have b : Binds K fd ["found", "due"] [] := F.bindsN fun _ _ _ _ _ _ us hl => match us, hl with | [_, _], _ => rfl
  have g := He.glo_ok X G (c.fact 10 (f := .glo "_law_alike") rfl)
  intro n
  induction n with
  | zero => exact fnAt_zero F g b
  | succ n ih => exact fnAt_by kPure rfl F g b (ok__law_alike F (blt X G c) ih)
theorem at__law_names (base : Heap) : ∀ n, FnAt P w K mg base n "_law_names" ["cell"] (F__law_names n) := by
  obtain ⟨fd, F⟩ := c.def_ 11 (d := d__law_names) rfl
  have b : Binds K fd ["cell"] [] := F.bindsN fun _ _ _ _ _ _ us hl => match us, hl with | [_], _ => rfl
  have g := He.glo_ok X G (c.fact 11 (f := .glo "_law_names") rfl)
  intro n
  induction n with
  | zero => exact fnAt_zero F g b
  | succ n ih => exact fnAt_by kNew rfl F g b (ok__law_names F (blt X G c) (at__law_draw X G c base n))
theorem at__law_leaf (base : Heap) : ∀ n, FnAt P w K mg base n "_law_leaf" ["cell", "first", "names", "shares"] (F__law_leaf n) := by
  obtain ⟨fd, F⟩ := c.def_ 12 (d := d__law_leaf) rfl
  have b : Binds K fd ["cell", "first", "names", "shares"] [] := F.bindsN fun _ _ _ _ _ _ us hl => match us, hl with | [_, _, _, _], _ => rfl
  have g := He.glo_ok X G (c.fact 12 (f := .glo "_law_leaf") rfl)
  intro n
  induction n with
  | zero => exact fnAt_zero F g b
  | succ n ih => exact fnAt_by kPure rfl F g b (ok__law_leaf F (blt X G c) (at__law_draw X G c base n))
theorem at__law_tree (base : Heap) : ∀ n, FnAt P w K mg base n "_law_tree" ["cells", "first", "shares"] (F__law_tree n) := by
  obtain ⟨fd, F⟩ := c.def_ 13 (d := d__law_tree) rfl
  have b : Binds K fd ["cells", "first", "shares"] [] := F.bindsN fun _ _ _ _ _ _ us hl => match us, hl with | [_, _, _], _ => rfl
  have g := He.glo_ok X G (c.fact 13 (f := .glo "_law_tree") rfl)
  intro n
  induction n with
  | zero => exact fnAt_zero F g b
  | succ n ih => exact fnAt_by kPure rfl F g b (ok__law_tree F (blt X G c) (at__law_draw X G c base n) (at__law_leaf X G c base n) (at__law_names X G c base n))
theorem at__law_places (base : Heap) : ∀ n, FnAt P w K mg base n "_law_places" ["tree"] (F__law_places n) := by
  obtain ⟨fd, F⟩ := c.def_ 14 (d := d__law_places) rfl
  have b : Binds K fd ["tree"] [] := F.bindsN fun _ _ _ _ _ _ us hl => match us, hl with | [_], _ => rfl
  have g := He.glo_ok X G (c.fact 14 (f := .glo "_law_places") rfl)
  intro n
  induction n with
  | zero => exact fnAt_zero F g b
  | succ n ih => exact fnAt_by kNew rfl F g b (ok__law_places F (blt X G c))
theorem at__law_small (base : Heap) : ∀ n, FnAt P w K mg base n "_law_small" ["cells", "first", "way"] (F__law_small n) := by
  obtain ⟨fd, F⟩ := c.def_ 16 (d := d__law_small) rfl
  have b : Binds K fd ["cells", "first", "way"] [] := F.bindsN fun _ _ _ _ _ _ us hl => match us, hl with | [_, _, _], _ => rfl
  have g := He.glo_ok X G (c.fact 16 (f := .glo "_law_small") rfl)
  intro n
  induction n with
  | zero => exact fnAt_zero F g b
  | succ n ih => exact fnAt_by kPure rfl F g b (ok__law_small F (blt X G c) (at__law_tree X G c base n) (at__law_draw X G c base n))
theorem at__law_filling (base : Heap) : ∀ n, FnAt P w K mg base n "_law_filling" ["cells", "first", "way"] (F__law_filling n) := by
  obtain ⟨fd, F⟩ := c.def_ 15 (d := d__law_filling) rfl
  have b : Binds K fd ["cells", "first", "way"] [] := F.bindsN fun _ _ _ _ _ _ us hl => match us, hl with | [_, _, _], _ => rfl
  have g := He.glo_ok X G (c.fact 15 (f := .glo "_law_filling") rfl)
  intro n
  induction n with
  | zero => exact fnAt_zero F g b
  | succ n ih => exact fnAt_by kNew rfl F g b (ok__law_filling F (blt X G c) (at__law_draw X G c base n) (at__law_small X G c base n))
theorem at__law_exchanged (base : Heap) : ∀ n, FnAt P w K mg base n "_law_exchanged" ["tree", "filling"] (F__law_exchanged n) := by
  obtain ⟨fd, F⟩ := c.def_ 17 (d := d__law_exchanged) rfl
  have b : Binds K fd ["tree", "filling"] [] := F.bindsN fun _ _ _ _ _ _ us hl => match us, hl with | [_, _], _ => rfl
  have g := He.glo_ok X G (c.fact 17 (f := .glo "_law_exchanged") rfl)
  intro n
  induction n with
  | zero => exact fnAt_zero F g b
  | succ n ih => exact fnAt_by kPure rfl F g b (ok__law_exchanged F (blt X G c) ih)
theorem at__law_too_great (base : Heap) : ∀ n, FnAt P w K mg base n "_law_too_great" ["tree", "filling"] (F__law_too_great n) := by
  obtain ⟨fd, F⟩ := c.def_ 18 (d := d__law_too_great) rfl
  have b : Binds K fd ["tree", "filling"] [] := F.bindsN fun _ _ _ _ _ _ us hl => match us, hl with | [_, _], _ => rfl
  have g := He.glo_ok X G (c.fact 18 (f := .glo "_law_too_great") rfl)
  intro n
  induction n with
  | zero => exact fnAt_zero F g b
  | succ n ih => exact fnAt_by kPure rfl F g b (ok__law_too_great F (blt X G c) (at__law_places X G c base n))
theorem at__law_is_due (base : Heap) : ∀ n, FnAt P w K mg base n "_law_is_due" ["found", "due"] (F__law_is_due n) := by
  obtain ⟨fd, F⟩ := c.def_ 19 (d := d__law_is_due) rfl
  have b : Binds K fd ["found", "due"] [] := F.bindsN fun _ _ _ _ _ _ us hl => match us, hl with | [_, _], _ => rfl
  have g := He.glo_ok X G (c.fact 19 (f := .glo "_law_is_due") rfl)
  intro n
  induction n with
  | zero => exact fnAt_zero F g b
  | succ n ih => exact fnAt_by kPure rfl F g b (ok__law_is_due F (blt X G c) (at__law_alike X G c base n))
end
end Wk
open PySem PySem.W PySem.Calls PyProof.Rows
theorem head_holds (hc : PySem.W.WalkO (view (OpenLaw.row PySem.Challenge.rw_commonform_k17_one_filling_behind_anothe).prog [28]) Hd.ls (XL (view (OpenLaw.row PySem.Challenge.rw_commonform_k17_one_filling_behind_anothe).prog [28]) []) Hd.hk.says (OpenLaw.row PySem.Challenge.rw_commonform_k17_one_filling_behind_anothe).toRowW (HandSHeadRun.topDef (OpenLaw.row PySem.Challenge.rw_commonform_k17_one_filling_behind_anothe).prog 28) [] fun f vs => PySem.call f vs) : PySem.Challenge.rw_commonform_k17_one_filling_behind_anothe.Holds := by
  w_on; o_law
  refine HandSHeadRun.head_any (r := OpenLaw.row PySem.Challenge.rw_commonform_k17_one_filling_behind_anothe) (q := view (OpenLaw.row PySem.Challenge.rw_commonform_k17_one_filling_behind_anothe).prog [28]) (H := Hd.hk) (ob := Hd.ob) (M := 6610) (loose := Hd.ls) (d := HandSHeadRun.topDef (OpenLaw.row PySem.Challenge.rw_commonform_k17_one_filling_behind_anothe).prog 28) (kwd := []) Hd.ob_eq
    (by kernel_rfl) (fun s => by kernel_rfl) Hd.run (by kernel_rfl) (by kernel_rfl) (by kernel_rfl) (by rfl) (by first | assumption | decide +kernel) (by decide +kernel) ⟨rfl, rfl, rfl, rfl, rfl, by decide +kernel⟩ ?hw hc
  case hw => w_witness2
theorem law_done (hφ : ∀ ns : List Int, ns.length ≤ 63 → ∃ h, DV.F_law_k17x 230 [.ro ns] [] = .ok (.bl true) h) : PySem.Challenge.rw_commonform_k17_one_filling_behind_anothe.Holds := by
  refine head_holds (DV.law_end (k := 230) rfl (by kernel_rfl) ⟨rfl, by decide, by decide⟩ hφ ?_)
  intro w mg fa h Y G hm
  obtain ⟨K, KX, c⟩ := Y
  obtain ⟨fd, F⟩ := c.def_ 20 (d := Hd.d_law) rfl
  have e1 : mg "law" = some (.ref fa) := by
    have e : (HandSHeadRun.topDef (OpenLaw.row PySem.Challenge.rw_commonform_k17_one_filling_behind_anothe).prog 28).name = ("law" : PySem.Str) := by kernel_rfl
    rw [← e]; exact hm
  have e2 := e1.symm.trans (He.glo_ok KX G (c.fact 20 (f := .glo "law") rfl))
  cases e2
  have b := L2.FunD.bindsA (ps := ["script"]) F fun _ _ _ _ _ _ us hl => match us, hl with | [_], _ => rfl
  refine ⟨K, fd, KX, fun s u => b s [u] rfl, fun base _ _ => ?_⟩
  exact Wk.ok_law_k17x (n := 229) F (Wk.blt KX G c) (Wk.g_TooLong KX G c) (Wk.e_TooLong KX G c) (Wk.at_one_behind KX G c base 229) (Wk.at__law_is_due KX G c base 229) (Wk.at__law_exchanged KX G c base 229) (Wk.at__law_too_great KX G c base 229) (Wk.at__law_filling KX G c base 229) (Wk.at__law_cell_at KX G c base 229)
theorem PySem.Challenge.cw_commonform_k17_one_filling_behind_anothe_holds : PySem.Challenge.rw_commonform_k17_one_filling_behind_anothe.Holds := by
  exact law_done DV.law_k17_ok
