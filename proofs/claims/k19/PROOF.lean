import PyProof.Rows.All
import Wide.All
import OpenK.AllK
import Wide.FinOn
import KE.KStateDown
import HandS.ForMost
import HandS.Exc
import HandS.TryOnly
import HandS.TryMany
import HandS.ExcOwn
import HandS.WordsExc
import HandS.Defaults
import HandS.Head0
import HandS.Head1
import HandS.Head2
import HandS.HeadEnd
import HandS.HeadHook1
import HandS.HeadHook2
import HandS.CallSlots
import HandS.TupAny
import HandS.IsInst
import KE.DataMinMax
import KE.GoesEnum
import KE.KDictLaws
import HandS.Finally
import HandS.More
import HandS.Iter
import HandS.WordsDict
import HandS.DictComp
import HandS.TupMul
import HandS.Text
import HandS.StrMore
import HandS.SortInts
import HandS.Style
import KE.KExcIs
import HandS.Flt
import KE.KEqDict
import PyProof.Rows.SetFrom
import HandS.Strs
import HandS.SetFor
import PySem.Challenge.RW_commonform_k19_alike_but_for_blanks
set_option Elab.async false
set_option linter.all false
set_option maxRecDepth 100000
set_option maxHeartbeats 0
namespace DV
open PySem PySem.Spec PyProof.Rows L2
abbrev St := L2.St
inductive D where
  | non | bl (b : Bool) | int (i : Int) | str (s : Str) | tup (ds : List D) | loc (l : Nat) | ro (ns : List Int) | exn (c : Str)
inductive AO where
  | lst (ds : List D) | dct (kvs : List (Key × D)) | fdc (kvs : List (Key × D)) | dcT (kvs : List (List Key × D)) | ins (C : Str) (fs : List (Str × D))
abbrev Hs := List AO
abbrev Sl := List (Option D)
inductive R (α : Type) where
  | ok (a : α) (h : Hs) | exc (c : Str) (h : Hs) | bad
def R.bind {α β : Type} (r : R α) (k : α → Hs → R β) : R β := match r with
  | .ok a h => k a h
  | .exc c h => .exc c h
  | .bad => .bad
inductive RS where
  | nx (ds : Sl) (h : Hs) | rt (d : D) (h : Hs) | bk (ds : Sl) (h : Hs) | ct (ds : Sl) (h : Hs) | exc (c : Str) (ds : Sl) (h : Hs) | bad
def lift {α : Type} (r : R α) (ds : Sl) (k : α → Hs → RS) : RS := match r with
  | .ok a h => k a h
  | .exc c h => .exc c ds h
  | .bad => .bad
abbrev EM := Sl → Hs → R D
abbrev AM := Sl → Hs → R (List D)
abbrev TM := Sl → Hs → R Bool
abbrev SM := Sl → Hs → RS
@[simp] theorem R.bind_ok {α β : Type} (a : α) (h : Hs) (k : α → Hs → R β) : (R.ok a h).bind k = k a h := rfl
@[simp] theorem R.bind_exc {α β : Type} (c : Str) (h : Hs) (k : α → Hs → R β) : (R.exc c h).bind k = .exc c h := rfl
@[simp] theorem R.bind_bad {α β : Type} (k : α → Hs → R β) : (R.bad).bind k = .bad := rfl
@[simp] theorem lift_ok {α : Type} (a : α) (h : Hs) (ds : Sl) (k : α → Hs → RS) : lift (R.ok a h) ds k = k a h := rfl
@[simp] theorem lift_exc {α : Type} (c : Str) (h : Hs) (ds : Sl) (k : α → Hs → RS) : lift (R.exc c h) ds k = .exc c ds h := rfl
@[simp] theorem lift_bad {α : Type} (ds : Sl) (k : α → Hs → RS) : lift (R.bad) ds k = .bad := rfl
/-- the script: known, or written -/
def SqR (K : PySem.W.Frag) (H : Hp) (a : Addr) (xs : List V) : Prop :=
  (∃ o, H a = some (.frz o (.lst xs))) ∨ ∃ (o : Obj) (its : Array Value) (n : Nat), K.lookup a = some o ∧ o.cls = .type "list" ∧ o.dict = none ∧ o.data = .seq its n ∧ its.size ≤ sizeLine ∧ Vals xs its.toList
theorem SqR.sq {K : PySem.W.Frag} {H : Hp} {a : Addr} {xs : List V} (h : SqR K H a xs) : SqL K H a xs := by
  rcases h with h | h
  · exact .inl (.inr h)
  · exact .inr h
/-- a caught exception's object -/
def exO (K : PySem.W.Frag) (c : Str) (a : Addr) : HO := .ext fun h => ∃ (oe : Obj) (vs : Array Value), h.get? a = some oe ∧ oe.cls = .ref (He.ga K c) ∧ oe.dict = none ∧ oe.data = .fields vs
variable (K : PySem.W.Frag)
mutual
def RepV (m : List Addr) (H : Hp) : D → V → Prop
  | .non, v => v = .non
  | .bl b, v => v = .bl b
  | .int i, v => v = .int i
  | .str s, v => v = .str s
  | .tup ds, v => ∃ a xs, v = .ref a ∧ H a = some (.tup xs) ∧ RepL m H ds xs
  | .loc l, v => ∃ a, m[l]? = some a ∧ v = .ref a
  | .ro ns, v => ∃ a, v = .ref a ∧ SqR K H a (ns.map V.int)
  | .exn c, v => ∃ a, v = .ref a ∧ H a = some (exO K c a)
def RepL (m : List Addr) (H : Hp) : List D → List V → Prop
  | [], xs => xs = []
  | d :: ds, xs => ∃ x r, xs = x :: r ∧ RepV m H d x ∧ RepL m H ds r
end
variable {K}
/-- what a value leans on goes on -/
structure Grw (m : List Addr) (H : Hp) (m' : List Addr) (H' : Hp) : Prop where
  pre : ∃ r, m' = m ++ r
  tup : ∀ a xs, H a = some (.tup xs) → H' a = some (.tup xs)
  frz : ∀ a o xs, H a = some (.frz o (.lst xs)) → H' a = some (.frz o (.lst xs))
  ext : ∀ a φ, H a = some (.ext φ) → H' a = some (.ext φ)
/-- what goes on: the numbers keep their addresses, the tuples stay, what is locked stays so -/
structure Grow (m : List Addr) (H : Hp) (m' : List Addr) (H' : Hp) : Prop where
  pre : ∃ r, m' = m ++ r
  tup : ∀ a xs, H a = some (.tup xs) → H' a = some (.tup xs)
  frz : ∀ a o u, H a = some (.frz o u) → H' a = some (.frz o u)
  ext : ∀ a φ, H a = some (.ext φ) → H' a = some (.ext φ)
theorem Grow.w {m m' : List Addr} {H H' : Hp} (g : Grow m H m' H') : Grw m H m' H' := ⟨g.pre, g.tup, fun a o _ h => g.frz a o _ h, g.ext⟩
theorem Grow.refl (m : List Addr) (H : Hp) : Grow m H m H := ⟨⟨[], by simp⟩, fun _ _ h => h, fun _ _ _ h => h, fun _ _ h => h⟩
theorem Grow.trans {m m1 m2 : List Addr} {H H1 H2 : Hp} (a : Grow m H m1 H1) (b : Grow m1 H1 m2 H2) : Grow m H m2 H2 := by
  obtain ⟨⟨r, rfl⟩, t, f, x⟩ := a
  obtain ⟨⟨r', rfl⟩, t', f', x'⟩ := b
  exact ⟨⟨r ++ r', by simp⟩, fun x xs h => t' x xs (t x xs h), fun x o xs h => f' x o xs (f x o xs h), fun y φ h => x' y φ (x y φ h)⟩
mutual
theorem RepV.mono0 {m m' : List Addr} {H H' : Hp} (g : Grw m H m' H') : ∀ {d : D} {v : V}, RepV K m H d v → RepV K m' H' d v
  | .non, _, h => h
  | .bl _, _, h => h
  | .int _, _, h => h
  | .str _, _, h => h
  | .tup ds, v, h => by
    unfold RepV at h ⊢
    obtain ⟨a, xs, e, ha, hl⟩ := h
    exact ⟨a, xs, e, g.tup _ _ ha, RepL.mono0 g hl⟩
  | .loc l, v, h => by
    unfold RepV at h ⊢
    obtain ⟨a, ha, e⟩ := h
    obtain ⟨⟨r, rfl⟩, _, _, _⟩ := g
    obtain ⟨hl, _⟩ := List.getElem?_eq_some_iff.mp ha
    exact ⟨a, by rw [List.getElem?_append_left hl]; exact ha, e⟩
  | .exn c, v, h => by
    unfold RepV at h ⊢
    obtain ⟨a, e, q⟩ := h
    exact ⟨a, e, g.ext _ _ q⟩
  | .ro ns, v, h => by
    unfold RepV at h ⊢
    obtain ⟨a, e, q⟩ := h
    refine ⟨a, e, ?_⟩
    rcases q with ⟨o, q⟩ | q
    · exact .inl ⟨o, g.frz _ _ _ q⟩
    · exact .inr q
theorem RepL.mono0 {m m' : List Addr} {H H' : Hp} (g : Grw m H m' H') : ∀ {ds : List D} {xs : List V}, RepL K m H ds xs → RepL K m' H' ds xs
  | [], _, h => h
  | d :: ds, xs, h => by
    unfold RepL at h ⊢
    obtain ⟨x, r, e, h1, h2⟩ := h
    exact ⟨x, r, e, RepV.mono0 g h1, RepL.mono0 g h2⟩
end
theorem RepV.mono {m m' : List Addr} {H H' : Hp} (g : Grow m H m' H') {d : D} {v : V} (h : RepV K m H d v) : RepV K m' H' d v := h.mono0 g.w
theorem RepL.mono {m m' : List Addr} {H H' : Hp} (g : Grow m H m' H') {ds : List D} {xs : List V} (h : RepL K m H ds xs) : RepL K m' H' ds xs := h.mono0 g.w
section
variable {m : List Addr} {H : Hp}
theorem RepL.nil : RepL K m H [] [] := by unfold RepL; rfl
theorem RepL.cons {d : D} {x : V} {ds : List D} {xs : List V} (h : RepV K m H d x) (t : RepL K m H ds xs) : RepL K m H (d :: ds) (x :: xs) := by unfold RepL; exact ⟨x, xs, rfl, h, t⟩
theorem RepL.length : ∀ {ds : List D} {xs : List V}, RepL K m H ds xs → xs.length = ds.length
  | [], xs, h => by unfold RepL at h; subst h; rfl
  | d :: ds, xs, h => by
    unfold RepL at h
    obtain ⟨x, r, rfl, _, h2⟩ := h
    simp [RepL.length h2]
theorem RepL.get : ∀ {ds : List D} {xs : List V} {i : Nat} {d : D}, RepL K m H ds xs → ds[i]? = some d → ∃ x, xs[i]? = some x ∧ RepV K m H d x
  | [], _, _, _, _, e => by simp at e
  | d :: ds, xs, i, d', h, e => by
    unfold RepL at h
    obtain ⟨x, r, rfl, h1, h2⟩ := h
    cases i with
    | zero => simp at e; subst e; exact ⟨x, rfl, h1⟩
    | succ i =>
      obtain ⟨y, hy, hr⟩ := RepL.get (i := i) h2 (by simpa using e)
      exact ⟨y, by simpa using hy, hr⟩
theorem RepL.append : ∀ {ds es : List D} {xs ys : List V}, RepL K m H ds xs → RepL K m H es ys → RepL K m H (ds ++ es) (xs ++ ys)
  | [], _, xs, _, h, t => by unfold RepL at h; subst h; exact t
  | d :: ds, es, xs, ys, h, t => by
    unfold RepL at h
    obtain ⟨x, r, rfl, h1, h2⟩ := h
    exact .cons h1 (RepL.append h2 t)
theorem RepL.set : ∀ {ds : List D} {xs : List V} (i : Nat) {d : D} {x : V}, RepL K m H ds xs → RepV K m H d x → RepL K m H (ds.set i d) (xs.set i x)
  | [], xs, i, _, _, h, _ => by unfold RepL at h; subst h; exact RepL.nil
  | d :: ds, xs, i, e, y, h, t => by
    unfold RepL at h
    obtain ⟨x, r, rfl, h1, h2⟩ := h
    cases i with
    | zero => exact .cons t h2
    | succ i => exact .cons h1 (RepL.set i h2 t)
theorem RepL.take : ∀ {ds : List D} {xs : List V} (n : Nat), RepL K m H ds xs → RepL K m H (ds.take n) (xs.take n)
  | [], xs, n, h => by unfold RepL at h; subst h; cases n <;> exact RepL.nil
  | d :: ds, xs, n, h => by
    unfold RepL at h
    obtain ⟨x, r, rfl, h1, h2⟩ := h
    cases n with
    | zero => exact RepL.nil
    | succ n => exact .cons h1 (RepL.take n h2)
theorem RepL.drop : ∀ {ds : List D} {xs : List V} (n : Nat), RepL K m H ds xs → RepL K m H (ds.drop n) (xs.drop n)
  | [], xs, n, h => by unfold RepL at h; subst h; cases n <;> exact RepL.nil
  | d :: ds, xs, n, h => by
    have h' := h
    unfold RepL at h
    obtain ⟨x, r, rfl, h1, h2⟩ := h
    cases n with
    | zero => exact h'
    | succ n => exact RepL.drop n h2
theorem RepL.nil_iff {ds : List D} {xs : List V} (h : RepL K m H ds xs) : xs = [] ↔ ds = [] := by
  rw [← List.length_eq_zero_iff, ← List.length_eq_zero_iff, h.length]
end
variable (K)
/-- the slots -/
def RepS (m : List Addr) (H : Hp) : Sl → St → Prop
  | [], [] => True
  | od :: ds, ov :: vs => (∀ d, od = some d → ∃ v, ov = some v ∧ RepV K m H d v) ∧ RepS m H ds vs
  | _, _ => False
variable {K}
theorem RepS.mono0 {m m' : List Addr} {H H' : Hp} (g : Grw m H m' H') : ∀ {ds : Sl} {σ : St}, RepS K m H ds σ → RepS K m' H' ds σ
  | [], [], _ => trivial
  | _ :: _, _ :: _, ⟨a, b⟩ => ⟨fun d e => let ⟨v, e1, r⟩ := a d e; ⟨v, e1, r.mono0 g⟩, RepS.mono0 g b⟩
  | [], _ :: _, h => h.elim
  | _ :: _, [], h => h.elim
theorem RepS.mono {m m' : List Addr} {H H' : Hp} (g : Grow m H m' H') {ds : Sl} {σ : St} (h : RepS K m H ds σ) : RepS K m' H' ds σ := h.mono0 g.w
theorem RepS.get {m : List Addr} {H : Hp} : ∀ {ds : Sl} {σ : St} {i : Nat} {d : D}, RepS K m H ds σ → ds[i]? = some (some d) → ∃ v, σ[i]? = some (some v) ∧ RepV K m H d v
  | [], _, _, _, _, e => by simp at e
  | _ :: _, [], _, _, h, _ => h.elim
  | od :: ds, ov :: vs, 0, d, ⟨a, _⟩, e => by
    simp at e
    obtain ⟨v, e1, r⟩ := a d e
    exact ⟨v, by simp [e1], r⟩
  | od :: ds, ov :: vs, i + 1, d, ⟨_, b⟩, e => by
    obtain ⟨v, e1, r⟩ := RepS.get (i := i) b (by simpa using e)
    exact ⟨v, by simpa using e1, r⟩
theorem RepS.set {m : List Addr} {H : Hp} {od : Option D} {ov : Option V} (h : ∀ d, od = some d → ∃ v, ov = some v ∧ RepV K m H d v) : ∀ {ds : Sl} {σ : St} (i : Nat), RepS K m H ds σ → RepS K m H (ds.set i od) (σ.set i ov)
  | [], [], _, _ => trivial
  | [], _ :: _, _, h => h.elim
  | _ :: _, [], _, h => h.elim
  | _ :: _, _ :: _, 0, ⟨_, b⟩ => ⟨h, b⟩
  | _ :: _, _ :: _, i + 1, ⟨a, b⟩ => ⟨a, RepS.set h i b⟩
theorem RepS.put {m : List Addr} {H : Hp} {d : D} {v : V} {ds : Sl} {σ : St} (i : Nat) (r : RepS K m H ds σ) (h : RepV K m H d v) : RepS K m H (ds.set i (some d)) (σ.set i (some v)) :=
  r.set (fun _ e => by cases e; exact ⟨v, rfl, h⟩) i
theorem RepS.forget {m : List Addr} {H : Hp} {ds : Sl} {σ : St} (i : Nat) (r : RepS K m H ds σ) (ov : Option V) : RepS K m H (ds.set i none) (σ.set i ov) :=
  r.set (fun _ e => by cases e) i
theorem RepS.length {m : List Addr} {H : Hp} : ∀ {ds : Sl} {σ : St}, RepS K m H ds σ → ds.length = σ.length
  | [], [], _ => rfl
  | [], _ :: _, h => h.elim
  | _ :: _, [], h => h.elim
  | _ :: _, _ :: _, ⟨_, b⟩ => by simp [RepS.length b]
variable (K) in
/-- the attributes of an instance -/
def RepF (m : List Addr) (H : Hp) (fs : List (Str × D)) (xs : List (Str × V)) : Prop := fs.map (·.1) = xs.map (·.1) ∧ RepL K m H (fs.map (·.2)) (xs.map (·.2))
/-- keys by value -/
def keyD : D → Option Key
  | .int i => some (.inl i)
  | .str s => some (.inr s)
  | _ => none
variable (K) in
def RepO (m : List Addr) (H : Hp) (a : Addr) : AO → Prop
  | .lst ds => ∃ xs, H a = some (.lst xs) ∧ RepL K m H ds xs
  | .dct kvs => ∃ ks : List (Key × V), H a = some (.dK ks) ∧ kvs.map (·.1) = ks.map (·.1) ∧ RepL K m H (kvs.map (·.2)) (ks.map (·.2))
  | .fdc kvs => ∃ (o : Obj) (ks : List (Key × V)), H a = some (.frz o (.dK ks)) ∧ kvs.map (·.1) = ks.map (·.1) ∧ RepL K m H (kvs.map (·.2)) (ks.map (·.2))
  | .dcT kvs => ∃ ks : List (List Key × V), H a = some (.dT ks) ∧ kvs.map (·.1) = ks.map (·.1) ∧ RepL K m H (kvs.map (·.2)) (ks.map (·.2))
  | .ins C fs => ∃ dx xs, H a = some (.ins (He.ga K C) dx xs) ∧ RepF K m H fs xs
variable (K) in
structure RepH (m : List Addr) (H : Hp) (h : Hs) : Prop where
  len : m.length = h.length
  nd : m.Nodup
  at_ : ∀ (i : Nat) (a : Addr) (o : AO), m[i]? = some a → h[i]? = some o → RepO K m H a o
theorem RepO.some {m : List Addr} {H : Hp} {a : Addr} {o : AO} (r : RepO K m H a o) : H a ≠ none := by
  cases o with
  | lst ds => obtain ⟨xs, e, _⟩ := r; rw [e]; exact fun z => nomatch z
  | dct kvs => obtain ⟨xs, e, _⟩ := r; rw [e]; exact fun z => nomatch z
  | fdc kvs => obtain ⟨o, xs, e, _⟩ := r; rw [e]; exact fun z => nomatch z
  | dcT kvs => obtain ⟨xs, e, _⟩ := r; rw [e]; exact fun z => nomatch z
  | ins C fs => obtain ⟨dx, xs, e, _⟩ := r; rw [e]; exact fun z => nomatch z
structure Cfg where
  K : PySem.W.Frag
  W : WX
def OutE (g : Cfg) (m : List Addr) (H : Hp) (σ : St) (Q : VK) : R D → Prop
  | .ok d h' => ∀ v m' H', Grow m H m' H' → RepV g.K m' H' d v → RepH g.K m' H' h' → Q v H'
  | .exc c h' => ∀ m' H', Grow m H m' H' → RepH g.K m' H' h' → g.W (.ref (He.ga g.K c)) none σ H'
  | .bad => False
def OutA (g : Cfg) (m : List Addr) (H : Hp) (σ : St) (Q : List V → Hp → Prop) : R (List D) → Prop
  | .ok ds h' => ∀ vs m' H', Grow m H m' H' → RepL g.K m' H' ds vs → RepH g.K m' H' h' → Q vs H'
  | .exc c h' => ∀ m' H', Grow m H m' H' → RepH g.K m' H' h' → g.W (.ref (He.ga g.K c)) none σ H'
  | .bad => False
def OutT (g : Cfg) (m : List Addr) (H : Hp) (σ : St) (Q : Bool → Hp → Prop) : R Bool → Prop
  | .ok b h' => ∀ m' H', Grow m H m' H' → RepH g.K m' H' h' → Q b H'
  | .exc c h' => ∀ m' H', Grow m H m' H' → RepH g.K m' H' h' → g.W (.ref (He.ga g.K c)) none σ H'
  | .bad => False
def OutS (g : Cfg) (m : List Addr) (H : Hp) (N : Ends) : RS → Prop
  | .nx ds h' => ∀ σ' m' H', Grow m H m' H' → RepS g.K m' H' ds σ' → RepH g.K m' H' h' → N.nx σ' H'
  | .rt d h' => ∀ v m' H', Grow m H m' H' → RepV g.K m' H' d v → RepH g.K m' H' h' → N.rt v H'
  | .bk ds h' => ∀ σ' m' H', Grow m H m' H' → RepS g.K m' H' ds σ' → RepH g.K m' H' h' → N.bk σ' H'
  | .ct ds h' => ∀ σ' m' H', Grow m H m' H' → RepS g.K m' H' ds σ' → RepH g.K m' H' h' → N.ct σ' H'
  | .exc c ds h' => ∀ σ' m' H', Grow m H m' H' → RepS g.K m' H' ds σ' → RepH g.K m' H' h' → g.W (.ref (He.ga g.K c)) none σ' H'
  | .bad => False
def tM (g : Cfg) (M : EM) : TE := fun σ H Q => ∃ m ds h, RepS g.K m H ds σ ∧ RepH g.K m H h ∧ OutE g m H σ Q (M ds h)
def tA (g : Cfg) (M : AM) : TA := fun σ H Q => ∃ m ds h, RepS g.K m H ds σ ∧ RepH g.K m H h ∧ OutA g m H σ Q (M ds h)
def tT (g : Cfg) (M : TM) : TT := fun σ H Q => ∃ m ds h, RepS g.K m H ds σ ∧ RepH g.K m H h ∧ OutT g m H σ Q (M ds h)
def tS (g : Cfg) (M : SM) : TS := fun N σ H => ∃ m ds h, RepS g.K m H ds σ ∧ RepH g.K m H h ∧ OutS g m H N (M ds h)
section
variable {g : Cfg} {m m' : List Addr} {H H' : Hp} {σ : St}
theorem OutE.mono {Q : VK} {r : R D} (o : OutE g m H σ Q r) (w : Grow m H m' H') : OutE g m' H' σ Q r := by
  cases r with
  | ok d h => exact fun v m2 H2 w2 => o v m2 H2 (w.trans w2)
  | exc c h => exact fun m2 H2 w2 => o m2 H2 (w.trans w2)
  | bad => exact o
theorem OutA.mono {Q : List V → Hp → Prop} {r : R (List D)} (o : OutA g m H σ Q r) (w : Grow m H m' H') : OutA g m' H' σ Q r := by
  cases r with
  | ok d h => exact fun v m2 H2 w2 => o v m2 H2 (w.trans w2)
  | exc c h => exact fun m2 H2 w2 => o m2 H2 (w.trans w2)
  | bad => exact o
theorem OutT.mono {Q : Bool → Hp → Prop} {r : R Bool} (o : OutT g m H σ Q r) (w : Grow m H m' H') : OutT g m' H' σ Q r := by
  cases r with
  | ok d h => exact fun m2 H2 w2 => o m2 H2 (w.trans w2)
  | exc c h => exact fun m2 H2 w2 => o m2 H2 (w.trans w2)
  | bad => exact o
theorem OutS.mono {N : Ends} {r : RS} (o : OutS g m H N r) (w : Grow m H m' H') : OutS g m' H' N r := by
  cases r with
  | nx ds h => exact fun σ2 m2 H2 w2 => o σ2 m2 H2 (w.trans w2)
  | rt d h => exact fun v m2 H2 w2 => o v m2 H2 (w.trans w2)
  | bk ds h => exact fun σ2 m2 H2 w2 => o σ2 m2 H2 (w.trans w2)
  | ct ds h => exact fun σ2 m2 H2 w2 => o σ2 m2 H2 (w.trans w2)
  | exc c ds h => exact fun σ2 m2 H2 w2 => o σ2 m2 H2 (w.trans w2)
  | bad => exact o
/-- an expression's value taken on -/
theorem OutE.toE {Q Q' : VK} {r : R D} {k : D → Hs → R D} (o : OutE g m H σ Q (r.bind k)) (f : ∀ d h' v m' H', Grow m H m' H' → RepV g.K m' H' d v → RepH g.K m' H' h' → OutE g m' H' σ Q (k d h') → Q' v H') : OutE g m H σ Q' r := by
  cases r with
  | ok d h => exact fun v m' H' w rv rh => f d h v m' H' w rv rh (OutE.mono o w)
  | exc c h => exact o
  | bad => exact o
theorem OutE.toA {Q : List V → Hp → Prop} {Q' : VK} {r : R D} {k : D → Hs → R (List D)} (o : OutA g m H σ Q (r.bind k)) (f : ∀ d h' v m' H', Grow m H m' H' → RepV g.K m' H' d v → RepH g.K m' H' h' → OutA g m' H' σ Q (k d h') → Q' v H') : OutE g m H σ Q' r := by
  cases r with
  | ok d h => exact fun v m' H' w rv rh => f d h v m' H' w rv rh (OutA.mono o w)
  | exc c h => exact o
  | bad => exact o
theorem OutE.toT {Q : Bool → Hp → Prop} {Q' : VK} {r : R D} {k : D → Hs → R Bool} (o : OutT g m H σ Q (r.bind k)) (f : ∀ d h' v m' H', Grow m H m' H' → RepV g.K m' H' d v → RepH g.K m' H' h' → OutT g m' H' σ Q (k d h') → Q' v H') : OutE g m H σ Q' r := by
  cases r with
  | ok d h => exact fun v m' H' w rv rh => f d h v m' H' w rv rh (OutT.mono o w)
  | exc c h => exact o
  | bad => exact o
theorem OutE.toS {N : Ends} {Q' : VK} {r : R D} {ds : Sl} {k : D → Hs → RS} (hs : RepS g.K m H ds σ) (o : OutS g m H N (lift r ds k)) (f : ∀ d h' v m' H', Grow m H m' H' → RepV g.K m' H' d v → RepH g.K m' H' h' → OutS g m' H' N (k d h') → Q' v H') : OutE g m H σ Q' r := by
  cases r with
  | ok d h => exact fun v m' H' w rv rh => f d h v m' H' w rv rh (OutS.mono o w)
  | exc c h => exact fun m' H' w rh => o σ m' H' w (hs.mono w) rh
  | bad => exact o
theorem OutA.toE {Q : VK} {Q' : List V → Hp → Prop} {r : R (List D)} {k : List D → Hs → R D} (o : OutE g m H σ Q (r.bind k)) (f : ∀ d h' v m' H', Grow m H m' H' → RepL g.K m' H' d v → RepH g.K m' H' h' → OutE g m' H' σ Q (k d h') → Q' v H') : OutA g m H σ Q' r := by
  cases r with
  | ok d h => exact fun v m' H' w rv rh => f d h v m' H' w rv rh (OutE.mono o w)
  | exc c h => exact o
  | bad => exact o
theorem OutA.toA {Q : List V → Hp → Prop} {Q' : List V → Hp → Prop} {r : R (List D)} {k : List D → Hs → R (List D)} (o : OutA g m H σ Q (r.bind k)) (f : ∀ d h' v m' H', Grow m H m' H' → RepL g.K m' H' d v → RepH g.K m' H' h' → OutA g m' H' σ Q (k d h') → Q' v H') : OutA g m H σ Q' r := by
  cases r with
  | ok d h => exact fun v m' H' w rv rh => f d h v m' H' w rv rh (OutA.mono o w)
  | exc c h => exact o
  | bad => exact o
theorem OutT.toT {Q : Bool → Hp → Prop} {Q' : Bool → Hp → Prop} {r : R Bool} {k : Bool → Hs → R Bool} (o : OutT g m H σ Q (r.bind k)) (f : ∀ b h' m' H', Grow m H m' H' → RepH g.K m' H' h' → OutT g m' H' σ Q (k b h') → Q' b H') : OutT g m H σ Q' r := by
  cases r with
  | ok d h => exact fun m' H' w rh => f d h m' H' w rh (OutT.mono o w)
  | exc c h => exact o
  | bad => exact o
theorem OutT.toS {N : Ends} {Q' : Bool → Hp → Prop} {r : R Bool} {ds : Sl} {k : Bool → Hs → RS} (hs : RepS g.K m H ds σ) (o : OutS g m H N (lift r ds k)) (f : ∀ b h' m' H', Grow m H m' H' → RepH g.K m' H' h' → OutS g m' H' N (k b h') → Q' b H') : OutT g m H σ Q' r := by
  cases r with
  | ok d h => exact fun m' H' w rh => f d h m' H' w rh (OutS.mono o w)
  | exc c h => exact fun m' H' w rh => o σ m' H' w (hs.mono w) rh
  | bad => exact o
end
end DV
namespace DV
open PySem PySem.Spec PyProof.Rows L2
section
variable {K : PySem.W.Frag} {m m' : List Addr} {H H' : Hp} {h : Hs} {p a : Addr} {o u : HO} {ao : AO}
theorem RepH.fresh (r : RepH K m H h) (n : H p = none) : p ∉ m := fun hm => by
  obtain ⟨i, hi⟩ := List.mem_iff_getElem?.mp hm
  obtain ⟨hl, _⟩ := List.getElem?_eq_some_iff.mp hi
  have hl' : i < h.length := by rw [← r.len]; exact hl
  exact (r.at_ i p _ hi (List.getElem?_eq_getElem hl')).some n
theorem RepO.keep0 (r : RepO K m H a ao) (g : Grw m H m' H') (e : H' a = H a) : RepO K m' H' a ao := by
  cases ao with
  | lst ds => obtain ⟨xs, q, l⟩ := r; exact ⟨xs, e.trans q, l.mono0 g⟩
  | dct kvs => obtain ⟨xs, q, k, l⟩ := r; exact ⟨xs, e.trans q, k, l.mono0 g⟩
  | fdc kvs => obtain ⟨o, xs, q, k, l⟩ := r; exact ⟨o, xs, e.trans q, k, l.mono0 g⟩
  | dcT kvs => obtain ⟨xs, q, k, l⟩ := r; exact ⟨xs, e.trans q, k, l.mono0 g⟩
  | ins C fs => obtain ⟨dx, xs, q, k, l⟩ := r; exact ⟨dx, xs, e.trans q, k, l.mono0 g⟩
theorem RepO.keep (r : RepO K m H a ao) (g : Grow m H m' H') (e : H' a = H a) : RepO K m' H' a ao := r.keep0 g.w e
theorem Grow.put (n : H p = none) : Grow m H m (upd H p o) :=
  ⟨⟨[], by simp⟩, fun b xs e => by rw [upd_ne (ne_of_none e n)]; exact e, fun b o xs e => by rw [upd_ne (ne_of_none e n)]; exact e, fun b o e => by rw [upd_ne (ne_of_none e n)]; exact e⟩
theorem Grow.app (n : H p = none) : Grow m H (m ++ [p]) (upd H p o) := ⟨⟨[p], rfl⟩, (Grow.put (m := m) n).tup, (Grow.put (m := m) n).frz, (Grow.put (m := m) n).ext⟩
theorem RepH.put (r : RepH K m H h) (n : H p = none) : RepH K m (upd H p o) h :=
  ⟨r.len, r.nd, fun i b ob hi hb => (r.at_ i b ob hi hb).keep (.put n) (upd_ne fun z => r.fresh n (by rw [← z]; exact List.mem_of_getElem? hi))⟩
theorem RepH.new (r : RepH K m H h) (n : H p = none) (new : RepO K (m ++ [p]) (L2.upd H p o) p ao) : RepH K (m ++ [p]) (L2.upd H p o) (h ++ [ao]) := by
  have fr := r.fresh n
  refine ⟨by simp [r.len], ?_, fun i b ob hi hb => ?_⟩
  · exact List.nodup_append.mpr ⟨r.nd, by simp, fun x hx y hy z => fr (by simp at hy; rw [← hy, ← z]; exact hx)⟩
  · by_cases hl : i < m.length
    · rw [List.getElem?_append_left hl] at hi
      rw [List.getElem?_append_left (by rw [← r.len]; exact hl)] at hb
      exact (r.at_ i b ob hi hb).keep (.app n) (upd_ne fun z => fr (by rw [← z]; exact List.mem_of_getElem? hi))
    · have hz : i = m.length := by
        obtain ⟨q, _⟩ := List.getElem?_eq_some_iff.mp hi
        simp at q; omega
      subst hz
      simp at hi
      rw [r.len] at hb
      simp at hb
      subst hi hb
      exact new
/-- an object written -/
theorem Grow.write (e : H a = some u) (n1 : ∀ xs, u ≠ .tup xs) (n2 : ∀ o v, u ≠ .frz o v) (n3 : ∀ φ, u ≠ .ext φ) : Grow m H m (L2.upd H a o) :=
  ⟨⟨[], by simp⟩, fun b xs q => by rw [upd_ne (fun z => n1 xs (by rw [z, e] at q; exact Option.some.inj q))]; exact q,
    fun b o xs q => by rw [upd_ne (fun z => n2 o xs (by rw [z, e] at q; exact Option.some.inj q))]; exact q,
    fun b φ q => by rw [upd_ne (fun z => n3 φ (by rw [z, e] at q; exact Option.some.inj q))]; exact q⟩
theorem RepH.write {l : Nat} (r : RepH K m H h) (hl : m[l]? = some a) (e : H a = some u) (n1 : ∀ xs, u ≠ .tup xs) (n2 : ∀ o v, u ≠ .frz o v) (n3 : ∀ φ, u ≠ .ext φ) (new : RepO K m (L2.upd H a o) a ao) : RepH K m (L2.upd H a o) (h.set l ao) := by
  refine ⟨by simp [r.len], r.nd, fun i b ob hi hb => ?_⟩
  by_cases z : i = l
  · subst z
    rw [hl] at hi; cases hi
    obtain ⟨q, hq⟩ := List.getElem?_eq_some_iff.mp hb
    simp at q hq
    subst hq
    exact new
  · rw [List.getElem?_set_ne (Ne.symm z)] at hb
    refine (r.at_ i b ob hi hb).keep (.write e n1 n2 n3) (upd_ne fun w => z ?_)
    subst w
    obtain ⟨q1, e1⟩ := List.getElem?_eq_some_iff.mp hi
    obtain ⟨q2, e2⟩ := List.getElem?_eq_some_iff.mp hl
    exact (List.getElem_inj r.nd).mp (e1.trans e2.symm)
theorem RepH.lst {l : Nat} {ds : List D} (r : RepH K m H h) (hl : m[l]? = some a) (e : h[l]? = some (.lst ds)) : ∃ xs, H a = some (.lst xs) ∧ RepL K m H ds xs := r.at_ l a _ hl e
end
abbrev Res := Option (D × Hs)
abbrev VF2 := D → D → Hs → Res
def R.ofO : Res → R D
  | some p => .ok p.1 p.2
  | none => .bad
@[simp] theorem R.ofO_some (d : D) (h : Hs) : R.ofO (some (d, h)) = .ok d h := rfl
@[simp] theorem R.ofO_none : R.ofO none = .bad := rfl
def OutV (K : PySem.W.Frag) (m : List Addr) (H : Hp) (Q : VK) : Res → Prop
  | some p => ∀ v m' H', Grow m H m' H' → RepV K m' H' p.1 v → RepH K m' H' p.2 → Q v H'
  | none => False
def rV (K : PySem.W.Frag) (F : VF2) : R2 := fun x y H Q => ∃ m h dx dy, RepV K m H dx x ∧ RepV K m H dy y ∧ RepH K m H h ∧ OutV K m H Q (F dx dy h)
theorem OutV.of {g : Cfg} {m : List Addr} {H : Hp} {σ : St} {Q : VK} {r : Res} (o : OutE g m H σ Q (.ofO r)) : OutV g.K m H Q r := by
  cases r with
  | some p => exact o
  | none => exact o
/-- a value told, the heap as it is -/
theorem OutV.keep {K : PySem.W.Frag} {m : List Addr} {H : Hp} {h : Hs} {Q : VK} {d : D} {v : V} (o : OutV K m H Q (some (d, h))) (r : RepV K m H d v) (rh : RepH K m H h) : Q v H := o v m H (.refl _ _) r rh
theorem PE.weak {X : Cx} {e : Expr} {t t' : TE} (p : PE X e t) (w : ∀ σ H Q, t' σ H Q → t σ H Q) : PE X e t' := ⟨fun pns s σ H Q I h => p.run pns s σ H Q I (w σ H Q h)⟩
theorem PT.weak {X : Cx} {e : Expr} {t t' : TT} (p : PT X e t) (w : ∀ σ H Q, t' σ H Q → t σ H Q) : PT X e t' := ⟨fun pns s σ H Q I h => p.run pns s σ H Q I (w σ H Q h)⟩
theorem PW.weak {X : Cx} {e : Expr} {t t' : TT} (p : PW X e t) (w : ∀ σ H Q, t' σ H Q → t σ H Q) : PW X e t' := ⟨fun wh pns s σ H Q I h => p.run wh pns s σ H Q I (w σ H Q h)⟩
theorem PA.weak {X : Cx} {e : List Expr} {t t' : TA} (p : PA X e t) (w : ∀ σ H Q, t' σ H Q → t σ H Q) : PA X e t' := ⟨fun pos pns s σ H Q I h => p.run pos pns s σ H Q I (w σ H Q h)⟩
theorem PS.weak {X : Cx} {e : Stmt} {t t' : TS} (p : PS X e t) (w : ∀ N σ H, t' N σ H → t N σ H) : PS X e t' := ⟨fun pns s σ H Q I h => p.run pns s σ H Q I (w Q σ H h)⟩
theorem PSs.weak {X : Cx} {e : List Stmt} {t t' : TS} (p : PSs X e t) (w : ∀ N σ H, t' N σ H → t N σ H) : PSs X e t' := ⟨fun pns s σ H Q I h => p.run pns s σ H Q I (w Q σ H h)⟩
def cM (d : D) : EM := fun _ h => .ok d h
def vM (i : Nat) : EM := fun ds h => match ds[i]? with
  | some (some d) => .ok d h
  | _ => .bad
def binM (F : VF2) (A B : EM) : EM := fun ds h => (A ds h).bind fun x h => (B ds h).bind fun y h => .ofO (F x y h)
def unM (F : D → Hs → Res) (A : EM) : EM := fun ds h => (A ds h).bind fun x h => .ofO (F x h)
def nilA : AM := fun _ h => .ok [] h
def consA (A : EM) (B : AM) : AM := fun ds h => (A ds h).bind fun x h => (B ds h).bind fun xs h => .ok (x :: xs) h
abbrev LIM : Nat := 16777216
def tupF (xs : List D) (h : Hs) : Res := if xs.length ≤ LIM then some (.tup xs, h) else none
def lstF (xs : List D) (h : Hs) : Res := if xs.length ≤ LIM then some (.loc h.length, h ++ [.lst xs]) else none
def argM (F : List D → Hs → Res) (A : AM) : EM := fun ds h => (A ds h).bind fun xs h => .ofO (F xs h)
/-- a value as a test: a truth -/
def tbM (A : EM) : TM := fun ds h => (A ds h).bind fun d h => match d with
  | .bl b => .ok b h
  | _ => .bad
def truD : D → Hs → Option Bool
  | .non, _ => some false
  | .bl b, _ => some b
  | .int i, _ => some (i != 0)
  | .str s, _ => if s.length ≤ LIM then some ((s.length : Int) != 0) else none
  | .tup ds, _ => some (!ds.isEmpty)
  | .loc l, h => match h[l]? with
    | some (.lst ds) => some (!ds.isEmpty)
    | _ => none
  | _, _ => none
def truM (A : EM) : TM := fun ds h => (A ds h).bind fun d h => match truD d h with
  | some b => .ok b h
  | none => .bad
def andM (A B : TM) : TM := fun ds h => (A ds h).bind fun b h => if b = true then B ds h else .ok false h
def orM (A B : TM) : TM := fun ds h => (A ds h).bind fun b h => if b = true then .ok true h else B ds h
def notM (A : TM) : TM := fun ds h => (A ds h).bind fun b h => .ok (!b) h
def andV (A B : EM) : EM := fun ds h => (A ds h).bind fun d h => match d with
  | .bl b => if b = true then B ds h else .ok (.bl false) h
  | _ => .bad
def orV (A B : EM) : EM := fun ds h => (A ds h).bind fun d h => match d with
  | .bl b => if b = true then .ok (.bl true) h else B ds h
  | _ => .bad
def notV (A : EM) : EM := fun ds h => (A ds h).bind fun d h => match d with
  | .bl b => .ok (.bl (!b)) h
  | _ => .bad
def chainM (F G : VF2) (A B C : EM) : EM := fun ds h => (A ds h).bind fun x h => (B ds h).bind fun y h => (R.ofO (F x y h)).bind fun z h => match z with
  | .bl b => if b = true then (C ds h).bind fun w h => .ofO (G y w h) else .ok (.bl false) h
  | _ => .bad
def ifE (T : TM) (A B : EM) : EM := fun ds h => (T ds h).bind fun b h => if b = true then A ds h else B ds h
section
variable {X : Cx} {g : Cfg} {e a b c : Expr} {es : List Expr} {A B C : EM} {pos : Pos} {F G : VF2}
theorem em_const {v : V} {d : D} (p : PE X e (tC v)) (r : ∀ m H, RepV g.K m H d v) : PE X e (tM g (cM d)) := PE.weak p fun σ H Q ⟨m, ds, h, hs, rh, o⟩ => o v m H (.refl _ _) (r m H) rh
theorem em_int {i : Int} {j pos} : PE X (.Constant (.int i) j pos) (tM g (cM (.int i))) := em_const pe_int fun m H => by unfold RepV; rfl
theorem em_str {i : Str} {j pos} : PE X (.Constant (.str i) j pos) (tM g (cM (.str i))) := em_const pe_str fun m H => by unfold RepV; rfl
theorem em_bl {i : Bool} {j pos} : PE X (.Constant (.bool i) j pos) (tM g (cM (.bl i))) := em_const pe_bl fun m H => by unfold RepV; rfl
theorem em_v {i : Nat} (p : PE X e (tVar i)) : PE X e (tM g (vM i)) := PE.weak p fun σ H Q ⟨m, ds, h, hs, rh, o⟩ => by
  unfold vM at o
  split at o
  · rename_i d hd
    obtain ⟨v, e1, r⟩ := hs.get hd
    exact ⟨v, e1, o v m H (.refl _ _) r rh⟩
  · exact o.elim
theorem bin_read {σ : St} {H : Hp} {Q : VK} (q : tM g (binM F A B) σ H Q) : tOp (rV g.K F) (tM g A) (tM g B) σ H Q := by
  obtain ⟨m, ds, h, hs, rh, o⟩ := q
  refine ⟨m, ds, h, hs, rh, OutE.toE o fun d1 h1 v1 m1 H1 g1 r1 rh1 o1 => ?_⟩
  refine ⟨m1, ds, h1, hs.mono g1, rh1, OutE.toE o1 fun d2 h2 v2 m2 H2 g2 r2 rh2 o2 => ?_⟩
  exact ⟨m2, h2, d1, d2, r1.mono g2, r2, rh2, .of o2⟩
theorem em_bin {op : Operator} (ho : OpR X (binaryOp op) (rV g.K F)) (ha : PE X a (tM g A)) (hb : PE X b (tM g B)) : PE X (.BinOp a op b pos) (tM g (binM F A B)) := PE.weak (pe_op ho ha hb) fun _ _ _ => bin_read
theorem em_cmp {op : CmpOp} (ho : OpR X (compareOp op) (rV g.K F)) (ha : PE X a (tM g A)) (hb : PE X b (tM g B)) (hm : behindInMarks op b = false) : PE X (.Compare a [op] [b] pos) (tM g (binM F A B)) := PE.weak (pe_cmpR ho ha hb hm) fun _ _ _ => bin_read
theorem em_ix (ho : IxR X (rV g.K F)) (ha : PE X a (tM g A)) (hb : PE X b (tM g B)) (hs : PlainIx b) : PE X (.Subscript a b pos) (tM g (binM F A B)) := PE.weak (pe_ix ho ha hb hs) fun _ _ _ => bin_read
theorem tb_read {σ : St} {H : Hp} {Q : Bool → Hp → Prop} (q : tT g (tbM A) σ H Q) : tM g A σ H fun x H' => ∃ k, x = .bl k ∧ Q k H' := by
  obtain ⟨m, ds, h, hs, rh, o⟩ := q
  refine ⟨m, ds, h, hs, rh, OutE.toT o fun d h' v m' H' w rv rh' o' => ?_⟩
  cases d with
  | bl b => exact ⟨b, by unfold RepV at rv; exact rv, o' m' H' (.refl _ _) rh'⟩
  | _ => exact (show False from o').elim
/-- comparisons as tests -/
theorem tm_cmp {op : CmpOp} (ho : OpR X (compareOp op) (rV g.K F)) (ha : PE X a (tM g A)) (hb : PE X b (tM g B)) (hm : behindInMarks op b = false) : PT X (.Compare a [op] [b] pos) (tT g (tbM (binM F A B))) :=
  PT.weak (pt_cmpR ho ha hb hm) fun σ H Q q => bin_read (tb_read q)
/-- any value as a test -/
theorem tm_tru (ha : PE X a (tM g A)) (hK : X.K = g.K) (he : ∀ whole, isTrue a X.env whole = (do let v ← whole; standAt a.pos; holding [v] (truthy v)) := by intro _; rfl) : PT X a (tT g (truM A)) := by
  refine PT.weak (pt_truth ha he) fun σ H Q ⟨m, ds, h, hs, rh, o⟩ => ⟨m, ds, h, hs, rh, OutE.toT o fun d h' v m' H' w rv rh' o' => ?_⟩
  have fin : ∀ {b : Bool}, OutT g m' H' σ Q (.ok b h') → Q b H' := fun q => q m' H' (.refl _ _) rh'
  have ls : sizeLine = 16777216 := sizeLine_eq
  cases d with
  | non => unfold RepV at rv; subst rv; exact ⟨false, rfl, fin o'⟩
  | bl b => unfold RepV at rv; subst rv; exact ⟨b, rfl, fin o'⟩
  | int i => unfold RepV at rv; subst rv; exact ⟨_, rfl, fin o'⟩
  | str s =>
    unfold RepV at rv; subst rv
    by_cases hz : s.length ≤ LIM
    · refine ⟨_, ⟨by rw [ls]; exact hz, rfl⟩, fin ?_⟩
      have e : truD (.str s) h' = some ((s.length : Int) != 0) := if_pos hz
      simpa only [e] using o'
    · have e : truD (.str s) h' = none := if_neg hz
      simp only [e] at o'
      exact o'.elim
  | tup xs =>
    unfold RepV at rv
    obtain ⟨p, vs, rfl, hp, rl⟩ := rv
    refine ⟨!vs.isEmpty, .inr (.inl ⟨vs, SqT.of hp, rfl⟩), ?_⟩
    have e : vs.isEmpty = xs.isEmpty := by
      rw [Bool.eq_iff_iff, List.isEmpty_iff, List.isEmpty_iff]; exact rl.nil_iff
    rw [e]
    exact fin o'
  | loc l =>
    unfold RepV at rv
    obtain ⟨p, hp, rfl⟩ := rv
    cases q : h'[l]? with
    | none => simp only [truD, q] at o'; exact o'.elim
    | some ao =>
      cases ao with
      | lst xs =>
        obtain ⟨vs, hv, rl⟩ := rh'.lst hp q
        refine ⟨!vs.isEmpty, .inl ⟨vs, SqL.of hv, rfl⟩, ?_⟩
        have e : vs.isEmpty = xs.isEmpty := by
          rw [Bool.eq_iff_iff, List.isEmpty_iff, List.isEmpty_iff]; exact rl.nil_iff
        rw [e]
        simp only [truD, q] at o'
        exact fin o'
      | _ => simp only [truD, q] at o'; exact o'.elim
  | exn c => exact (show False from o').elim
  | ro ns => exact (show False from o').elim
theorem tm_and1 {T : TM} (ha : PT X a (tT g T)) : PW X (.BoolOp .And [a] pos) (tT g T) := pw_and1 ha
theorem tm_or1 {T : TM} (ha : PT X a (tT g T)) : PW X (.BoolOp .Or [a] pos) (tT g T) := pw_or1 ha
theorem tm_and {T U : TM} {rest : List Expr} (ha : PT X a (tT g T)) (hb : PW X (.BoolOp .And (b :: rest) pos) (tT g U)) : PW X (.BoolOp .And (a :: b :: rest) pos) (tT g (andM T U)) := by
  refine PW.weak (pw_and ha hb) fun σ H Q ⟨m, ds, h, hs, rh, o⟩ => ⟨m, ds, h, hs, rh, OutT.toT o fun k h' m' H' w rh' o' => ?_⟩
  cases k with
  | true => rw [if_pos rfl] at o' ⊢; exact ⟨m', ds, h', hs.mono w, rh', o'⟩
  | false => rw [if_neg Bool.false_ne_true] at o' ⊢; exact o' m' H' (.refl _ _) rh'
theorem tm_or {T U : TM} {rest : List Expr} (ha : PT X a (tT g T)) (hb : PW X (.BoolOp .Or (b :: rest) pos) (tT g U)) : PW X (.BoolOp .Or (a :: b :: rest) pos) (tT g (orM T U)) := by
  refine PW.weak (pw_or ha hb) fun σ H Q ⟨m, ds, h, hs, rh, o⟩ => ⟨m, ds, h, hs, rh, OutT.toT o fun k h' m' H' w rh' o' => ?_⟩
  cases k with
  | true => rw [if_pos rfl] at o' ⊢; exact o' m' H' (.refl _ _) rh'
  | false => rw [if_neg Bool.false_ne_true] at o' ⊢; exact ⟨m', ds, h', hs.mono w, rh', o'⟩
theorem tm_not {T : TM} (ha : PT X a (tT g T)) : PT X (.UnaryOp .Not a pos) (tT g (notM T)) := by
  refine PT.weak (pt_not ha) fun σ H Q ⟨m, ds, h, hs, rh, o⟩ => ⟨m, ds, h, hs, rh, OutT.toT o fun k h' m' H' w rh' o' => ?_⟩
  exact o' m' H' (.refl _ _) rh'
theorem em_one {op} (ha : PE X a (tM g A)) : PE X (.BoolOp op [a] pos) (tM g A) := pe_one ha
theorem em_and {rest : List Expr} (ha : PE X a (tM g A)) (hb : PE X (.BoolOp .And (b :: rest) pos) (tM g B)) : PE X (.BoolOp .And (a :: b :: rest) pos) (tM g (andV A B)) := by
  refine PE.weak (pe_and ha hb) fun σ H Q ⟨m, ds, h, hs, rh, o⟩ => ⟨m, ds, h, hs, rh, OutE.toE o fun d h' v m' H' w rv rh' o' => ?_⟩
  cases d with
  | bl k =>
    refine ⟨k, by unfold RepV at rv; exact rv, ?_⟩
    have o' : OutE g m' H' σ Q (if k = true then B ds h' else .ok (.bl false) h') := o'
    cases k with
    | true => rw [if_pos rfl] at o' ⊢; exact ⟨m', ds, h', hs.mono w, rh', o'⟩
    | false => rw [if_neg Bool.false_ne_true] at o' ⊢; exact o' _ m' H' (.refl _ _) (by unfold RepV; rfl) rh'
  | _ => exact (show False from o').elim
theorem em_not (ha : PE X a (tM g A)) : PE X (.UnaryOp .Not a pos) (tM g (notV A)) := by
  refine PE.weak (pe_not ha) fun σ H Q ⟨m, ds, h, hs, rh, o⟩ => ⟨m, ds, h, hs, rh, OutE.toE o fun d h' v m' H' w rv rh' o' => ?_⟩
  cases d with
  | bl k => exact ⟨k, by unfold RepV at rv; exact rv, o' _ m' H' (.refl _ _) (by unfold RepV; rfl) rh'⟩
  | _ => exact (show False from o').elim
theorem am_nil : PA X [] (tA g nilA) := PA.weak pa_nil fun σ H Q ⟨m, ds, h, hs, rh, o⟩ => o [] m H (.refl _ _) .nil rh
theorem am_cons {As : AM} (ha : PE X e (tM g A)) (hr : PA X es (tA g As)) (hs : starEach (e :: es) X.env = (false, eval e X.env) :: starEach es X.env := by rfl) : PA X (e :: es) (tA g (consA A As)) := by
  refine PA.weak (pa_cons ha hr hs) fun σ H Q ⟨m, ds, h, hs, rh, o⟩ => ⟨m, ds, h, hs, rh, OutE.toA o fun d h' v m' H' w rv rh' o' => ?_⟩
  refine ⟨m', ds, h', hs.mono w, rh', OutA.toA o' fun xs h2 vs m2 H2 w2 rl rh2 o2 => ?_⟩
  exact o2 _ m2 H2 (.refl _ _) (.cons (rv.mono w2) rl) rh2
theorem em_tup {As : AM} {x1} (h : PA X es (tA g As)) : PE X (.Tuple es x1 pos) (tM g (argM tupF As)) := by
  refine PE.weak (pe_tup h) fun σ H Q ⟨m, ds, h, hs, rh, o⟩ => ⟨m, ds, h, hs, rh, OutA.toE o fun xs h' vs m' H' w rl rh' o' => ?_⟩
  have ls : sizeLine = 16777216 := sizeLine_eq
  by_cases hz : xs.length ≤ LIM
  · have e : tupF xs h' = some (.tup xs, h') := if_pos hz
    rw [e] at o'
    refine ⟨by rw [rl.length, ls]; exact hz, fun p hp => o' _ m' _ (.put hp) ?_ (rh'.put hp)⟩
    unfold RepV
    exact ⟨p, vs, rfl, upd_same, rl.mono (.put hp)⟩
  · have e : tupF xs h' = none := if_neg hz
    rw [e] at o'
    exact o'.elim
/-- a new list tracked -/
theorem new_lst {m : List Addr} {H : Hp} {h : Hs} {xs : List D} {vs : List V} {p : Addr} (rl : RepL g.K m H xs vs) (rh : RepH g.K m H h) (hp : H p = none) :
    RepV g.K (m ++ [p]) (upd H p (.lst vs)) (.loc h.length) (.ref p) ∧ RepH g.K (m ++ [p]) (upd H p (.lst vs)) (h ++ [.lst xs]) := by
  refine ⟨?_, rh.new hp ⟨vs, upd_same, rl.mono (.app hp)⟩⟩
  unfold RepV
  exact ⟨p, by rw [← rh.len]; simp, rfl⟩
theorem em_lst {As : AM} (h : PA X es (tA g As)) : PE X (.List es pos) (tM g (argM lstF As)) := by
  refine PE.weak (pe_lst h) fun σ H Q ⟨m, ds, h, hs, rh, o⟩ => ⟨m, ds, h, hs, rh, OutA.toE o fun xs h' vs m' H' w rl rh' o' => ?_⟩
  have ls : sizeLine = 16777216 := sizeLine_eq
  by_cases hz : xs.length ≤ LIM
  · have e : lstF xs h' = some (.loc h'.length, h' ++ [.lst xs]) := if_pos hz
    rw [e] at o'
    refine ⟨by rw [rl.length, ls]; exact hz, fun p hp => ?_⟩
    obtain ⟨q1, q2⟩ := new_lst rl rh' hp
    exact o' _ _ _ (.app hp) q1 q2
  · have e : lstF xs h' = none := if_neg hz
    rw [e] at o'
    exact o'.elim
def rC (K : PySem.W.Frag) (F : List D → Hs → Res) : List V → Hp → VK → Prop := fun vs H Q => ∃ m h ds, RepL K m H ds vs ∧ RepH K m H h ∧ OutV K m H Q (F ds h)
theorem call_read {Fc : List D → Hs → Res} {As : AM} {σ : St} {H : Hp} {Q : VK} (q : tM g (argM Fc As) σ H Q) : tCB (rC g.K Fc) (tA g As) σ H Q := by
  obtain ⟨m, ds, h, hs, rh, o⟩ := q
  exact ⟨m, ds, h, hs, rh, OutA.toE o fun xs h' vs m' H' w rl rh' o' => ⟨m', h', xs, rl, rh', .of o'⟩⟩
theorem em_callB {id : String} {Fc : List D → Hs → Res} {As : AM} {x : Str} {p : Pos} (hc : CallR X (.builtin id) (rC g.K Fc)) (hg : Gl X x) (hm : X.mg x = none) (hv : bootBuiltins x = some (.builtin id)) (ha : PA X (e :: es) (tA g As)) (hn : x ≠ "__name__" := by decide) (hdb : (x == ("__debug__" : Str)) = false := by decide)
    (he : starEach (e :: es) X.env = (false, eval e X.env) :: starEach es X.env := by rfl) (hpl : (backTo pos (starEach es X.env)).any (·.1) = false := by rfl) : PE X (.Call (.Name x p) (e :: es) [] pos) (tM g (argM Fc As)) :=
  PE.weak (pe_callB hc hg hm hv ha hn hdb he hpl) fun _ _ _ => call_read
theorem em_callTy {T : String} {Fc : List D → Hs → Res} {As : AM} {x : Str} {p : Pos} (hc : CallR X (.type T) (rC g.K Fc)) (hg : Gl X x) (hm : X.mg x = none) (hv : bootBuiltins x = some (.type T)) (ha : PA X (e :: es) (tA g As)) (hn : x ≠ "__name__" := by decide) (hdb : (x == ("__debug__" : Str)) = false := by decide)
    (he : starEach (e :: es) X.env = (false, eval e X.env) :: starEach es X.env := by rfl) (hpl : (backTo pos (starEach es X.env)).any (·.1) = false := by rfl) : PE X (.Call (.Name x p) (e :: es) [] pos) (tM g (argM Fc As)) :=
  PE.weak (pe_callTy hc hg hm hv ha hn hdb he hpl) fun _ _ _ => call_read
end
end DV
namespace DV
open PySem PySem.Spec PyProof.Rows L2
def passM : SM := fun ds h => .nx ds h
def seqM (A B : SM) : SM := fun ds h => match A ds h with
  | .nx ds h => B ds h
  | r => r
def setM (i : Nat) (A : EM) : SM := fun ds h => lift (A ds h) ds fun d h => .nx (ds.set i (some d)) h
def exprM (A : EM) : SM := fun ds h => lift (A ds h) ds fun _ h => .nx ds h
def retM (A : EM) : SM := fun ds h => lift (A ds h) ds fun d h => .rt d h
def retN : SM := fun _ h => .rt .non h
def ifM (T : TM) (A B : SM) : SM := fun ds h => lift (T ds h) ds fun b h => if b = true then A ds h else B ds h
def raiseM (c : Str) : SM := fun ds h => .exc c ds h
def whileM (T : TM) (B : SM) : Nat → SM
  | 0 => fun _ _ => .bad
  | n + 1 => fun ds h => lift (T ds h) ds fun b h => if b = true then (match B ds h with
    | .nx ds h => whileM T B n ds h
    | .ct ds h => whileM T B n ds h
    | .bk ds h => .nx ds h
    | r => r) else .nx ds h
/-- targets -/
abbrev GM := D → Sl → Hs → RS
def nameG (i : Nat) : GM := fun d ds h => .nx (ds.set i (some d)) h
def nilG : List D → Sl → Hs → RS := fun xs ds h => match xs with
  | [] => .nx ds h
  | _ => .bad
def consG (T : GM) (U : List D → Sl → Hs → RS) : List D → Sl → Hs → RS := fun xs ds h => match xs with
  | x :: r => (match T x ds h with
    | .nx ds h => U r ds h
    | _ => .bad)
  | [] => .bad
def tupG (n : Nat) (U : List D → Sl → Hs → RS) : GM := fun d ds h => match d with
  | .tup xs => if xs.length = n then U xs ds h else .bad
  | _ => .bad
def asgM (A : EM) (T : GM) : SM := fun ds h => lift (A ds h) ds fun d h => T d ds h
/-- loops over known items, under a guard -/
abbrev IM := Sl → Hs → R (List D × (Hs → Prop))
open Classical in
noncomputable def loopM (gd : Hs → Prop) (T : GM) (B : SM) : List D → SM
  | [] => fun ds h => if gd h then .nx ds h else .bad
  | d :: r => fun ds h => if gd h then (match T d ds h with
    | .nx ds h => (match B ds h with
      | .nx ds h => loopM gd T B r ds h
      | .ct ds h => loopM gd T B r ds h
      | .bk ds h => .nx ds h
      | q => q)
    | _ => .bad) else .bad
noncomputable def forM (I : IM) (T : GM) (B : SM) : SM := fun ds h => lift (I ds h) ds fun p h => loopM p.2 T B p.1 ds h
def tG (g : Cfg) (T : GM) : TG := fun v σ H Q => ∃ m d ds h, RepV g.K m H d v ∧ RepS g.K m H ds σ ∧ RepH g.K m H h ∧ OutS g m H { nx := Q, rt := fun _ _ => False } (match T d ds h with | .nx ds h => .nx ds h | _ => .bad)
def tGs (g : Cfg) (U : List D → Sl → Hs → RS) : TGs := fun vs σ H Q => ∃ m xs ds h, RepL g.K m H xs vs ∧ RepS g.K m H ds σ ∧ RepH g.K m H h ∧ OutS g m H { nx := Q, rt := fun _ _ => False } (match U xs ds h with | .nx ds h => .nx ds h | _ => .bad)
theorem PG.weak {X : Cx} {e : Expr} {t t' : TG} (p : PG X e t) (w : ∀ v σ H Q, t' v σ H Q → t v σ H Q) : PG X e t' := ⟨fun pns s σ H v u Q I r h => p.run pns s σ H v u Q I r (w v σ H Q h)⟩
theorem PGs.weak {X : Cx} {e : List Expr} {t t' : TGs} (p : PGs X e t) (w : ∀ v σ H Q, t' v σ H Q → t v σ H Q) : PGs X e t' := ⟨fun pns s σ H v u Q I r h => p.run pns s σ H v u Q I r (w v σ H Q h)⟩
theorem PI.weak {X : Cx} {tg e : Expr} {t t' : TI} (p : PI X tg e t) (w : ∀ σ H R, t' σ H R → t σ H R) : PI X tg e t' := ⟨fun pns s σ H R I h => p.run pns s σ H R I (w σ H R h)⟩
section
variable {X : Cx} {g : Cfg} {e a b c tg iter : Expr} {es : List Expr} {A B C : EM} {pos : Pos} {F G : VF2} {S U : SM} {T : TM} {st : Stmt} {sts body : List Stmt}
theorem sms_nil : PSs X [] (tS g passM) := PSs.weak pss_nil fun N σ H ⟨m, ds, h, hs, rh, o⟩ => o σ m H (.refl _ _) hs rh
theorem sms_one (h1 : PS X st (tS g S)) : PSs X [st] (tS g S) := pss_one h1
theorem sms_cons (h1 : PS X st (tS g S)) (h2 : PSs X sts (tS g U)) : PSs X (st :: sts) (tS g (seqM S U)) := by
  refine PSs.weak (pss_cons h1 h2) fun N σ H ⟨m, ds, h, hs, rh, o⟩ => ⟨m, ds, h, hs, rh, ?_⟩
  unfold seqM at o
  cases q : S ds h with
  | nx ds1 h1 =>
    rw [q] at o
    exact fun σ1 m1 H1 g1 r1 rh1 => ⟨m1, ds1, h1, r1, rh1, OutS.mono o g1⟩
  | rt d h1 => rw [q] at o; exact o
  | bk ds1 h1 => rw [q] at o; exact o
  | ct ds1 h1 => rw [q] at o; exact o
  | exc c ds1 h1 => rw [q] at o; exact o
  | bad => rw [q] at o; exact o
theorem sm_expr (he : PE X e (tM g A)) (hs : swapsWith e none pos.line X.env = pure false := by rfl) : PS X (.Expr e pos) (tS g (exprM A)) :=
  PS.weak (ps_expr he hs) fun N σ H ⟨m, ds, h, hs, rh, o⟩ => ⟨m, ds, h, hs, rh, OutE.toS hs o fun d h1 v m1 H1 g1 r1 rh1 o1 => o1 σ m1 H1 (.refl _ _) (hs.mono g1) rh1⟩
theorem sm_ret (he : PE X e (tM g A)) : PS X (.Return (some e) pos) (tS g (retM A)) :=
  PS.weak (ps_ret he) fun N σ H ⟨m, ds, h, hs, rh, o⟩ => ⟨m, ds, h, hs, rh, OutE.toS hs o fun d h1 v m1 H1 g1 r1 rh1 o1 => o1 v m1 H1 (.refl _ _) r1 rh1⟩
theorem sm_if {tb fb : List Stmt} (hc : PT X c (tT g T)) (ha : PSs X tb (tS g S)) (hb : PSs X fb (tS g U)) : PS X (.If c tb fb pos) (tS g (ifM T S U)) := by
  refine PS.weak (ps_if hc ha hb) fun N σ H ⟨m, ds, h, hs, rh, o⟩ => ⟨m, ds, h, hs, rh, OutT.toS hs o fun k h1 m1 H1 g1 rh1 o1 => ?_⟩
  cases k with
  | true => rw [if_pos rfl] at o1 ⊢; exact ⟨m1, ds, h1, hs.mono g1, rh1, o1⟩
  | false => rw [if_neg Bool.false_ne_true] at o1 ⊢; exact ⟨m1, ds, h1, hs.mono g1, rh1, o1⟩
theorem gm_name {i : Nat} (h : PG X tg (gName i)) : PG X tg (tG g (nameG i)) :=
  PG.weak h fun v σ H Q ⟨m, d, ds, h, rv, hs, rh, o⟩ => o (σ.set i (some v)) m H (.refl _ _) (hs.put i rv) rh
theorem gms_nil : PGs X [] (tGs g nilG) := PGs.weak pgs_nil fun vs σ H Q ⟨m, xs, ds, h, rl, hs, rh, o⟩ => by
  cases xs with
  | nil => unfold RepL at rl; exact ⟨rl, o σ m H (.refl _ _) hs rh⟩
  | cons x r => exact (show False from o).elim
theorem gms_cons {T1 : GM} {U1 : List D → Sl → Hs → RS} (h1 : PG X e (tG g T1)) (h2 : PGs X es (tGs g U1))
    (hs : (assignEach (e :: es) X.env).map (·.2) = assign e X.env :: (assignEach es X.env).map (·.2) := by rfl) : PGs X (e :: es) (tGs g (consG T1 U1)) := by
  refine PGs.weak (pgs_cons h1 h2 hs) fun vs σ H Q ⟨m, xs, ds, h, rl, hs, rh, o⟩ => ?_
  cases xs with
  | nil => exact (show False from o).elim
  | cons x r =>
    unfold RepL at rl
    obtain ⟨v, vr, rfl, r1, r2⟩ := rl
    refine ⟨v, vr, rfl, m, x, ds, h, r1, hs, rh, ?_⟩
    have o : OutS g m H { nx := Q, rt := fun _ _ => False } (match (match T1 x ds h with | .nx ds h => U1 r ds h | _ => .bad) with | .nx ds h => .nx ds h | _ => .bad) := o
    cases q : T1 x ds h with
    | nx ds1 h1 =>
      rw [q] at o
      exact fun σ1 m1 H1 g1 s1 rh1 => ⟨m1, r, ds1, h1, r2.mono g1, s1, rh1, OutS.mono o g1⟩
    | _ => rw [q] at o; exact (show False from o).elim
theorem gm_tup {k n : Nat} {U1 : List D → Sl → Hs → RS} (hc : X.calm = true) (h : PGs X es (tGs g U1)) (hK : X.K = g.K)
    (hn : (assignEach es X.env).length = n := by rfl) (hst : (assignEach es X.env).findIdx? (·.1) = none := by rfl) : PG X (.Tuple es k pos) (tG g (tupG n U1)) := by
  refine PG.weak (pg_tup hc h hn hst) fun v σ H Q ⟨m, d, ds, h, rv, hs, rh, o⟩ => ?_
  cases d with
  | tup xs =>
    unfold RepV at rv
    obtain ⟨p, vs, rfl, hp, rl⟩ := rv
    have o : OutS g m H { nx := Q, rt := fun _ _ => False } (match (if xs.length = n then U1 xs ds h else .bad) with | .nx ds h => .nx ds h | _ => .bad) := o
    by_cases hl : xs.length = n
    · rw [if_pos hl] at o
      exact ⟨p, vs, rfl, SqT.of hp, by rw [rl.length]; exact hl, m, xs, ds, h, rl, hs, rh, o⟩
    · rw [if_neg hl] at o; exact o.elim
  | _ => exact (show False from o).elim
/-- only a next or nothing comes of a target -/
def okG (T : GM) : GM := fun d ds h => match T d ds h with
  | .nx ds h => .nx ds h
  | _ => .bad
theorem sm_set {i : Nat} {x : Str} {pos' : Pos} (hN : X.N.Nodup) (hi : X.N[i]? = some x) (hx : Loc X.env.scope x) (he : PE X e (tM g A)) (hs : swapsWith e (some (.Name x pos')) pos.line X.env = pure false := by rfl) (hf : X.fn x = true ∨ X.env.scope.names.lookup x = some .local := by first | exact .inl rfl | exact .inr rfl | assumption) :
    PS X (.Assign [.Name x pos'] e pos) (tS g (setM i A)) :=
  PS.weak (ps_set hN hi hx he hs hf) fun N σ H ⟨m, ds, h, hs, rh, o⟩ => ⟨m, ds, h, hs, rh, OutE.toS hs o fun d h1 v m1 H1 g1 r1 rh1 o1 => o1 _ m1 H1 (.refl _ _) ((hs.mono g1).put i r1) rh1⟩
theorem sm_asg {T1 : GM} (he : PE X e (tM g A)) (hg : PG X tg (tG g T1)) (hs : swapsWithSole [tg] e pos.line X.env = pure false := by rfl) (hw : swappedStores [tg] e X.env = pure none := by rfl)
    (h1 : (assignEach [tg] X.env).map (·.2) = [assign tg X.env] := by rfl) : PS X (.Assign [tg] e pos) (tS g (asgM A (okG T1))) := by
  refine PS.weak (ps_asg he hg hs hw h1) fun N σ H ⟨m, ds, h, hs, rh, o⟩ => ⟨m, ds, h, hs, rh, OutE.toS hs o fun d h1 v m1 H1 g1 r1 rh1 o1 => ⟨m1, d, ds, h1, r1, hs.mono g1, rh1, ?_⟩⟩
  have o1 : OutS g m1 H1 N (match T1 d ds h1 with | .nx ds h => .nx ds h | _ => .bad) := o1
  cases q : T1 d ds h1 with
  | nx ds1 h1 => rw [q] at o1; exact o1
  | _ => rw [q] at o1; exact (show False from o1).elim
theorem sm_while (n : Nat) (hp : PassesOwn (model X.prog X.w) X.A X.env X.xe) (hc : PT X c (tT g T)) (hb : PSs X body (tS g S)) : PS X (.While c body [] pos) (tS g (whileM T S n)) := by
  refine PS.weak (ps_while hp hc hb) fun N σ H ⟨m, ds, h, hs, rh, o⟩ => ?_
  refine ⟨fun k σ H => ∃ m ds h, RepS g.K m H ds σ ∧ RepH g.K m H h ∧ OutS g m H N (whileM T S k ds h), ⟨n, m, ds, h, hs, rh, o⟩, ?_⟩
  rintro k σ H ⟨m, ds, h, hs, rh, o⟩
  cases k with
  | zero => exact (show False from o).elim
  | succ k =>
    refine ⟨m, ds, h, hs, rh, OutT.toS hs o fun b h1 m1 H1 g1 rh1 o1 => ?_⟩
    cases b with
    | true =>
      rw [if_pos rfl] at o1 ⊢
      refine ⟨fun σ H => ∃ m ds h, RepS g.K m H ds σ ∧ RepH g.K m H h ∧ OutS g m H N (whileM T S k ds h), fun σ' H' q => ⟨k, Nat.lt_succ_self k, q⟩, m1, ds, h1, hs.mono g1, rh1, ?_⟩
      cases q : S ds h1 with
      | nx ds2 h2 => rw [q] at o1; exact fun σ2 m2 H2 g2 s2 rh2 => ⟨m2, ds2, h2, s2, rh2, OutS.mono o1 g2⟩
      | ct ds2 h2 => rw [q] at o1; exact fun σ2 m2 H2 g2 s2 rh2 => ⟨m2, ds2, h2, s2, rh2, OutS.mono o1 g2⟩
      | bk ds2 h2 => rw [q] at o1; exact o1
      | rt d h2 => rw [q] at o1; exact o1
      | exc c ds2 h2 => rw [q] at o1; exact o1
      | bad => rw [q] at o1; exact o1
    | false => rw [if_neg Bool.false_ne_true] at o1 ⊢; exact o1 _ m1 H1 (.refl _ _) (hs.mono g1) rh1
end
/-- the iterator J yields these, as long as the guard holds -/
def IsIt (K : PySem.W.Frag) (J : It) (its : List D) (gd : Hs → Prop) (m0 : List Addr) (H0 : Hp) : Prop :=
  ∀ i m H h, Grow m0 H0 m H → RepH K m H h → gd h → (∀ d, its[i]? = some d → J.go i H ∧ ∀ x H', J.yld i H x H' → Grow m H m H' ∧ RepV K m H' d x ∧ RepH K m H' h) ∧ (its.length ≤ i → J.stop i H)
def OutI (g : Cfg) (m : List Addr) (H : Hp) (σ : St) (Q : It → Hp → Prop) : R (List D × (Hs → Prop)) → Prop
  | .ok p h' => ∀ J m' H', Grow m H m' H' → RepH g.K m' H' h' → IsIt g.K J p.1 p.2 m' H' → Q J H'
  | .exc c h' => ∀ m' H', Grow m H m' H' → RepH g.K m' H' h' → g.W (.ref (He.ga g.K c)) none σ H'
  | .bad => False
def tI (g : Cfg) (M : IM) : TI := fun σ H Q => ∃ m ds h, RepS g.K m H ds σ ∧ RepH g.K m H h ∧ OutI g m H σ Q (M ds h)
section
variable {X : Cx} {g : Cfg} {tg iter : Expr} {body : List Stmt} {pos : Pos} {S : SM} {T : GM} {I : IM}
theorem sm_for (hp : PassesOwn (model X.prog X.w) X.A X.env X.xe) (hc : X.calm = true) (hi : PI X tg iter (tI g I)) (hg : PG X tg (tG g T)) (hb : PSs X body (tS g S))
    (hs : ∀ x, foldedSetIterable iter X.env x = pure x := by intro _; rfl) : PS X (.For tg iter body [] pos) (tS g (forM I T S)) := by
  refine PS.weak (ps_for hp hc hi hg hb hs) fun N σ H ⟨m, ds, h, hs, rh, o⟩ => ⟨m, ds, h, hs, rh, ?_⟩
  unfold forM at o
  cases q : I ds h with
  | exc c h1 => rw [q] at o; exact fun m' H' w rh' => o σ m' H' w (hs.mono w) rh'
  | bad => rw [q] at o; exact o
  | ok p h1 =>
    obtain ⟨its, gd⟩ := p
    rw [q, lift_ok] at o
    intro J m1 H1 g1 rh1 it
    refine ⟨fun i k σ H => k = its.length - i ∧ i ≤ its.length ∧ ∃ m ds h, Grow m1 H1 m H ∧ RepS g.K m H ds σ ∧ RepH g.K m H h ∧ OutS g m H N (loopM gd T S (its.drop i) ds h),
      ⟨_, rfl, Nat.zero_le _, m1, ds, h1, .refl _ _, hs.mono g1, rh1, OutS.mono o g1⟩, ?_⟩
    rintro i k σ2 H2 ⟨rfl, hi, m2, ds2, h2, g2, s2, rh2, o2⟩
    by_cases hlt : i < its.length
    · have hd : its.drop i = its[i] :: its.drop (i + 1) := List.drop_eq_getElem_cons hlt
      rw [hd] at o2
      unfold loopM at o2
      by_cases hgd : gd h2
      · rw [if_pos hgd] at o2
        obtain ⟨f1, _⟩ := it i m2 H2 h2 g2 rh2 hgd
        obtain ⟨go, yl⟩ := f1 its[i] (List.getElem?_eq_getElem hlt)
        refine .inr ⟨go, fun σ H => ∃ m ds h, Grow m1 H1 m H ∧ RepS g.K m H ds σ ∧ RepH g.K m H h ∧ OutS g m H N (loopM gd T S (its.drop (i + 1)) ds h), fun σ' H' ⟨m', ds', h', w⟩ => ⟨its.length - (i + 1), by omega, rfl, hlt, m', ds', h', w⟩, fun x H3 y => ?_⟩
        obtain ⟨g3, r3, rh3⟩ := yl x H3 y
        refine ⟨m2, its[i], ds2, h2, r3, s2.mono g3, rh3, ?_⟩
        cases w : T its[i] ds2 h2 with
        | nx ds4 h4 =>
          rw [w] at o2
          intro σ4 m4 H4 g4 s4 rh4
          refine ⟨m4, ds4, h4, s4, rh4, ?_⟩
          have o2 : OutS g m2 H2 N (match S ds4 h4 with
            | .nx ds h => loopM gd T S (its.drop (i + 1)) ds h
            | .ct ds h => loopM gd T S (its.drop (i + 1)) ds h
            | .bk ds h => .nx ds h
            | q => q) := o2
          have o4 := OutS.mono o2 (g3.trans g4)
          have gg := g2.trans (g3.trans g4)
          cases w2 : S ds4 h4 with
          | nx ds5 h5 => rw [w2] at o4; exact fun σ5 m5 H5 g5 s5 rh5 => ⟨m5, ds5, h5, gg.trans g5, s5, rh5, OutS.mono o4 g5⟩
          | ct ds5 h5 => rw [w2] at o4; exact fun σ5 m5 H5 g5 s5 rh5 => ⟨m5, ds5, h5, gg.trans g5, s5, rh5, OutS.mono o4 g5⟩
          | bk ds5 h5 => rw [w2] at o4; exact o4
          | rt d h5 => rw [w2] at o4; exact o4
          | exc c ds5 h5 => rw [w2] at o4; exact o4
          | bad => rw [w2] at o4; exact o4
        | _ => rw [w] at o2; exact (show False from o2).elim
      · rw [if_neg hgd] at o2; exact o2.elim
    · have e : i = its.length := by omega
      subst e
      rw [List.drop_length] at o2
      unfold loopM at o2
      by_cases hgd : gd h2
      · rw [if_pos hgd] at o2
        exact .inl ⟨(it _ m2 H2 h2 g2 rh2 hgd).2 (Nat.le_refl _), o2 σ2 m2 H2 (.refl _ _) s2 rh2⟩
      · rw [if_neg hgd] at o2; exact o2.elim
end
/-- the items of a value and the guard: a list must stay as it is -/
noncomputable def itsF (d : D) (h : Hs) : Option (List D × (Hs → Prop)) := match d with
  | .tup ds => some (ds, fun _ => True)
  | .ro ns => some (ns.map D.int, fun _ => True)
  | .str s => some (s.cps.toList.map fun c => .str ⟨#[c]⟩, fun _ => True)
  | .loc l => match h[l]? with
    | some (.lst ds) => some (ds, fun h => h[l]? = some (.lst ds))
    | _ => none
  | _ => none
noncomputable def valI (A : EM) : IM := fun ds h => (A ds h).bind fun d h => match itsF d h with
  | some p => .ok p h
  | none => .bad
/-- a test that no evaluation looks into -/
noncomputable def cB (p : Prop) : Bool := @decide p (Classical.propDecidable p)
theorem cB_iff {p : Prop} : cB p = true ↔ p := by unfold cB; exact @decide_eq_true_iff p (Classical.propDecidable p)
theorem cB_of {p : Prop} (h : p) : cB p = true := cB_iff.mpr h
/-- a range's ends fit -/
noncomputable def inR (j : Int) : Bool := cB (-(2 ^ 62) ≤ j ∧ j < 2 ^ 62)
noncomputable def rng1 : List D → Option (List D)
  | [.int j] => if inR j = true then some ((List.range j.toNat).map fun (i : Nat) => .int (i : Int)) else none
  | _ => none
noncomputable def rng2 : List D → Option (List D)
  | [.int i, .int j] => if inR i = true ∧ inR j = true then some ((List.range (j - i).toNat).map fun (k : Nat) => .int (i + (k : Int))) else none
  | _ => none
theorem rng1_inv {xs its : List D} (h : rng1 xs = some its) : ∃ j : Int, xs = [.int j] ∧ (-(2 ^ 62) ≤ j ∧ j < 2 ^ 62) ∧ its = (List.range j.toNat).map fun (i : Nat) => .int (i : Int) := by
  unfold rng1 at h
  split at h
  · rename_i j
    split at h
    · rename_i hj; exact ⟨j, rfl, cB_iff.mp hj, (Option.some.inj h).symm⟩
    · cases h
  · cases h
def rngI (F : List D → Option (List D)) (A : AM) : IM := fun ds h => (A ds h).bind fun xs h => match F xs with
  | some its => .ok (its, fun _ => True) h
  | none => .bad
section
variable {X : Cx} {g : Cfg} {tg e a b : Expr} {A : EM} {pos : Pos}
/-- any of list, tuple, text, by its value -/
theorem pi_any {l : Expr} {tl : TE} (hl : PE X l tl) : PI X tg l (fun σ H R => tl σ H fun x H1 => (∃ a, x = .ref a ∧ (∃ xs, SqL X.K H1 a xs) ∧ R (Itl X.K a) H1) ∨ (∃ a, x = .ref a ∧ (∃ xs, SqT X.K H1 a xs) ∧ R (Itt X.K a) H1) ∨ ∃ z, x = .str z ∧ R (Its z) H1) := by
  refine ⟨fun pns s σ H R I h => ?_⟩
  refine thn (hl.run pns s σ H _ I h) fun v s1 ⟨x, H1, I1, r1, q1⟩ => ?_
  rcases q1 with ⟨a, e, ⟨xs, hq⟩, q⟩ | ⟨a, e, ⟨xs, hq⟩, q⟩ | ⟨z, e, q⟩
  · subst e
    cases r1
    obtain ⟨its, rv, p, hz⟩ := I1.list hq
    refine wpAny_pyIter_list p.isList ?_
    refine ⟨s1.heap.objs.size, [s1.heap.objs.size], _, _, H1, rfl, I1.kept (t' := s1.toks) fun b o e => Heap.get?_push_of_some _ e, turn_list a _, ⟨_, Heap.get?_push_size _ rfl, rfl, rfl⟩, fun b hb => ?_, q⟩
    have e : b = s1.heap.objs.size := by simpa using hb
    subst e
    exact I1.fpOk (Nat.le_refl _) (I1.hok.fresh (Nat.le_refl _))
  · subst e
    cases r1
    obtain ⟨its, rv, p, hz⟩ := I1.tuple hq
    refine wpAny_pyIter_tuple (show s1.heap.IsTuple a its.toArray from p) ?_
    refine ⟨s1.heap.objs.size, [s1.heap.objs.size], _, _, H1, rfl, I1.kept (t' := s1.toks) fun b o e => Heap.get?_push_of_some _ e, turn_tuple a _, ⟨_, Heap.get?_push_size _ rfl, rfl, rfl⟩, fun b hb => ?_, q⟩
    have e : b = s1.heap.objs.size := by simpa using hb
    subst e
    exact I1.fpOk (Nat.le_refl _) (I1.hok.fresh (Nat.le_refl _))
  · subst e
    obtain ⟨t, rfl⟩ := r1
    cases ha : z.cps.all (· < 128)
    · exact wpAny_pyIter_wide ha (pi_one (tk := s1.toks) I1 _ (turn_str _ z t "str_iterator" (.inr rfl)) ⟨_, Heap.get?_push_size _ rfl, rfl, rfl⟩ q)
    · exact wpAny_pyIter_ascii ha (pi_one (tk := s1.toks) I1 _ (turn_str _ z t "str_ascii_iterator" (.inl rfl)) ⟨_, Heap.get?_push_size _ rfl, rfl, rfl⟩ q)
theorem isIt_tup {K : PySem.W.Frag} {p : Addr} {vs : List V} {ds : List D} {m : List Addr} {H : Hp} (hp : H p = some (.tup vs)) (rl : RepL K m H ds vs) : IsIt K (Itt K p) ds (fun _ => True) m H := by
  intro i m' H' h' g' rh' _
  have hp' := g'.tup _ _ hp
  refine ⟨fun d hd => ?_, fun hi => ⟨vs, SqT.of hp', by rw [rl.length]; exact hi⟩⟩
  obtain ⟨x, hx, rx⟩ := rl.get hd
  refine ⟨⟨vs, x, SqT.of hp', hx⟩, fun y H2 ⟨e, q⟩ => ?_⟩
  subst e
  have := q vs (SqT.of hp')
  rw [hx] at this; cases this
  exact ⟨.refl _ _, rx.mono g', rh'⟩
theorem isIt_lst {K : PySem.W.Frag} {p : Addr} {l : Nat} {ds : List D} {m : List Addr} {H : Hp} (hp : m[l]? = some p) : IsIt K (Itl K p) ds (fun h => h[l]? = some (.lst ds)) m H := by
  intro i m' H' h' g' rh' hg
  obtain ⟨⟨r, rfl⟩, _, _, _⟩ := g'
  obtain ⟨hlt, _⟩ := List.getElem?_eq_some_iff.mp hp
  have hp' : (m ++ r)[l]? = some p := by rw [List.getElem?_append_left hlt]; exact hp
  obtain ⟨vs, hv, rl⟩ := rh'.lst hp' hg
  refine ⟨fun d hd => ?_, fun hi => ⟨vs, SqL.of hv, by rw [rl.length]; exact hi⟩⟩
  obtain ⟨x, hx, rx⟩ := rl.get hd
  refine ⟨⟨vs, x, SqL.of hv, hx⟩, fun y H2 ⟨e, q⟩ => ?_⟩
  subst e
  have := q vs (SqL.of hv)
  rw [hx] at this; cases this
  exact ⟨.refl _ _, rx, rh'⟩
theorem SqR.mono {K : PySem.W.Frag} {H H' : Hp} {m m' : List Addr} {p : Addr} {xs : List V} (g : Grow m H m' H') (q : SqR K H p xs) : SqR K H' p xs := by
  rcases q with ⟨o, q⟩ | q
  · exact .inl ⟨o, g.frz _ _ _ q⟩
  · exact .inr q
theorem isIt_ro {K : PySem.W.Frag} {p : Addr} {ns : List Int} {m : List Addr} {H : Hp} (hp : SqR K H p (ns.map V.int)) : IsIt K (Itl K p) (ns.map D.int) (fun _ => True) m H := by
  intro i m' H' h' g' rh' _
  have hq := (hp.mono g').sq
  refine ⟨fun d hd => ?_, fun hi => ⟨_, hq, by simpa using hi⟩⟩
  rw [List.getElem?_map] at hd
  cases e : ns[i]? with
  | none => rw [e] at hd; cases hd
  | some n =>
    rw [e] at hd
    cases hd
    have hx : (ns.map V.int)[i]? = some (.int n) := by rw [List.getElem?_map, e]; rfl
    refine ⟨⟨_, .int n, hq, hx⟩, fun y H2 ⟨e, q⟩ => ?_⟩
    subst e
    have := q _ hq
    rw [hx] at this; cases this
    exact ⟨.refl _ _, by unfold RepV; rfl, rh'⟩
theorem isIt_str {K : PySem.W.Frag} {z : Str} {m : List Addr} {H : Hp} : IsIt K (Its z) (z.cps.toList.map fun c => .str ⟨#[c]⟩) (fun _ => True) m H := by
  intro i m' H' h' g' rh' _
  refine ⟨fun d hd => ?_, fun hi => (show z.cps.size ≤ i by simpa using hi)⟩
  rw [List.getElem?_map, Array.getElem?_toList] at hd
  cases e : z.cps[i]? with
  | none => rw [e] at hd; cases hd
  | some n =>
    rw [e] at hd
    cases hd
    refine ⟨?_, fun y H2 ⟨e2, c, hc, q⟩ => ?_⟩
    · have : i < z.cps.size := (Array.getElem?_eq_some_iff.mp e).1
      exact this
    · subst e2 q
      rw [e] at hc; cases hc
      exact ⟨.refl _ _, by unfold RepV; rfl, rh'⟩
theorem isIt_rng {K : PySem.W.Frag} {lo : Int} {n : Nat} {m : List Addr} {H : Hp} : IsIt K (Itr lo n) ((List.range n).map fun (k : Nat) => .int (lo + (k : Int))) (fun _ => True) m H := by
  intro i m' H' h' g' rh' _
  refine ⟨fun d hd => ?_, fun hi => (show n ≤ i by simpa using hi)⟩
  rw [List.getElem?_map] at hd
  by_cases hl : i < n
  · rw [List.getElem?_range hl] at hd
    cases hd
    exact ⟨hl, fun y H2 ⟨e2, q⟩ => by subst e2 q; exact ⟨.refl _ _, by unfold RepV; rfl, rh'⟩⟩
  · rw [List.getElem?_eq_none (by simpa using hl)] at hd; cases hd
theorem OutE.toI {g : Cfg} {m : List Addr} {H : Hp} {σ : St} {Q : It → Hp → Prop} {Q' : VK} {r : R D} {k : D → Hs → R (List D × (Hs → Prop))} (o : OutI g m H σ Q (r.bind k)) (f : ∀ d h' v m' H', Grow m H m' H' → RepV g.K m' H' d v → RepH g.K m' H' h' → OutI g m' H' σ Q (k d h') → Q' v H') : OutE g m H σ Q' r := by
  cases r with
  | ok d h =>
    refine fun v m' H' w rv rh => f d h v m' H' w rv rh ?_
    rw [R.bind_ok] at o
    cases q : k d h with
    | ok p h2 => rw [q] at o; exact fun J m2 H2 w2 => o J m2 H2 (w.trans w2)
    | exc c h2 => rw [q] at o; exact fun m2 H2 w2 => o m2 H2 (w.trans w2)
    | bad => rw [q] at o; exact o
  | exc c h => exact o
  | bad => exact o
theorem OutA.toI {g : Cfg} {m : List Addr} {H : Hp} {σ : St} {Q : It → Hp → Prop} {Q' : List V → Hp → Prop} {r : R (List D)} {k : List D → Hs → R (List D × (Hs → Prop))} (o : OutI g m H σ Q (r.bind k)) (f : ∀ d h' v m' H', Grow m H m' H' → RepL g.K m' H' d v → RepH g.K m' H' h' → OutI g m' H' σ Q (k d h') → Q' v H') : OutA g m H σ Q' r := by
  cases r with
  | ok d h =>
    refine fun v m' H' w rv rh => f d h v m' H' w rv rh ?_
    rw [R.bind_ok] at o
    cases q : k d h with
    | ok p h2 => rw [q] at o; exact fun J m2 H2 w2 => o J m2 H2 (w.trans w2)
    | exc c h2 => rw [q] at o; exact fun m2 H2 w2 => o m2 H2 (w.trans w2)
    | bad => rw [q] at o; exact o
  | exc c h => exact o
  | bad => exact o
theorem im_val (hK : X.K = g.K) (he : PE X e (tM g A)) : PI X tg e (tI g (valI A)) := by
  refine PI.weak (pi_any he) fun σ H R ⟨m, ds, h, hs, rh, o⟩ => ⟨m, ds, h, hs, rh, OutE.toI o fun d h1 v m1 H1 g1 r1 rh1 o1 => ?_⟩
  rw [hK]
  cases d with
  | tup xs =>
    unfold RepV at r1
    obtain ⟨p, vs, rfl, hp, rl⟩ := r1
    exact .inr (.inl ⟨p, rfl, ⟨vs, SqT.of hp⟩, o1 _ m1 H1 (.refl _ _) rh1 (isIt_tup hp rl)⟩)
  | ro ns =>
    unfold RepV at r1
    obtain ⟨p, rfl, hp⟩ := r1
    exact .inl ⟨p, rfl, ⟨_, hp.sq⟩, o1 _ m1 H1 (.refl _ _) rh1 (isIt_ro hp)⟩
  | str z =>
    unfold RepV at r1
    exact .inr (.inr ⟨z, r1, o1 _ m1 H1 (.refl _ _) rh1 isIt_str⟩)
  | loc l =>
    unfold RepV at r1
    obtain ⟨p, hp, rfl⟩ := r1
    cases q : h1[l]? with
    | none => simp only [itsF, q] at o1; exact o1.elim
    | some ao =>
      cases ao with
      | lst xs =>
        obtain ⟨vs, hv, rl⟩ := rh1.lst hp q
        simp only [itsF, q] at o1
        exact .inl ⟨p, rfl, ⟨vs, SqL.of hv⟩, o1 _ m1 H1 (.refl _ _) rh1 (isIt_lst hp)⟩
      | _ => simp only [itsF, q] at o1; exact o1.elim
  | _ => exact (show False from o1).elim
theorem repL1 {K : PySem.W.Frag} {m : List Addr} {H : Hp} {d : D} {vs : List V} (r : RepL K m H [d] vs) : ∃ v, vs = [v] ∧ RepV K m H d v := by
  unfold RepL at r
  obtain ⟨x, r, rfl, h1, h2⟩ := r
  unfold RepL at h2
  exact ⟨x, by rw [h2], h1⟩
theorem repL2 {K : PySem.W.Frag} {m : List Addr} {H : Hp} {d e : D} {vs : List V} (r : RepL K m H [d, e] vs) : ∃ v u, vs = [v, u] ∧ RepV K m H d v ∧ RepV K m H e u := by
  unfold RepL at r
  obtain ⟨x, r, rfl, h1, h2⟩ := r
  obtain ⟨u, rfl, h3⟩ := repL1 h2
  exact ⟨x, u, rfl, h1, h3⟩
theorem im_rng1 {As : AM} {p : Pos} (hg : Gl X "range") (hm : X.mg "range" = none) (ha : PA X [a] (tA g As)) (hs : starEach [a] X.env = [(false, eval a X.env)] := by rfl) : PI X tg (.Call (.Name "range" p) [a] [] pos) (tI g (rngI rng1 As)) := by
  refine PI.weak (pi_range1 hg hm ha hs) fun σ H R ⟨m, ds, h, hs, rh, o⟩ => ⟨m, ds, h, hs, rh, OutA.toI o fun xs h1 vs m1 H1 g1 rl rh1 o1 => ?_⟩
  cases q : rng1 xs with
  | none => simp only [q] at o1; exact o1.elim
  | some its =>
    simp only [q] at o1
    obtain ⟨j, rfl, hj, rfl⟩ := rng1_inv q
    obtain ⟨v, rfl, r1⟩ := repL1 rl
    unfold RepV at r1
    subst r1
    refine ⟨j, rfl, hj.1, hj.2, o1 _ m1 H1 (.refl _ _) rh1 ?_⟩
    have := isIt_rng (K := g.K) (lo := 0) (n := j.toNat) (m := m1) (H := H1)
    simpa only [Int.zero_add] using this
end
end DV
namespace DV
open PySem PySem.Spec PyProof.Rows L2
def wipeD (ds : Sl) : List Nat → Sl
  | [] => ds
  | v :: vs => (wipeD ds vs).set v none
theorem RepS.wipe {K : PySem.W.Frag} {m : List Addr} {H : Hp} {ds : Sl} {σ : St} (r : RepS K m H ds σ) : ∀ vs : List Nat, RepS K m H (wipeD ds vs) (wipe σ vs)
  | [] => r
  | v :: vs => (RepS.wipe r vs).forget v none
/-- no exception -/
def R.noX {α : Type} : R α → R α
  | .ok a h => .ok a h
  | _ => .bad
@[simp] theorem R.noX_ok {α : Type} (a : α) (h : Hs) : (R.ok a h).noX = .ok a h := rfl
open Classical in
/-- l: the new list's number -/
noncomputable def lcLoop (gd : Hs → Prop) (l : Nat) (T : GM) (C : TM) (A : EM) (ds : Sl) : List D → Hs → R D
  | [], h => if gd h then .ok (.loc l) h else .bad
  | d :: r, h => if gd h then (match T d ds h with
    | .nx ds1 h1 => (C ds1 h1).noX.bind fun b h2 => if b = true then (A ds1 h2).noX.bind fun y h3 => (match h3[l]? with
        | some (.lst acc) => if acc.length < LIM then lcLoop gd l T C A ds r (h3.set l (.lst (acc ++ [y]))) else .bad
        | _ => .bad) else lcLoop gd l T C A ds r h2
    | _ => .bad) else .bad
/-- [A for T in I if C], own: the slots of its own names -/
noncomputable def lcM (own : List Nat) (I : IM) (T : GM) (C : TM) (A : EM) : EM := fun ds h => (I ds h).bind fun p h => lcLoop p.2 h.length T C A (wipeD ds own) p.1 (h ++ [.lst []])
def yesM : TM := fun _ h => .ok true h
theorem OutI.toE {g : Cfg} {m : List Addr} {H : Hp} {σ : St} {Q : VK} {Q' : It → Hp → Prop} {r : R (List D × (Hs → Prop))} {k : (List D × (Hs → Prop)) → Hs → R D} (o : OutE g m H σ Q (r.bind k))
    (f : ∀ p h' J m' H', Grow m H m' H' → RepH g.K m' H' h' → IsIt g.K J p.1 p.2 m' H' → OutE g m' H' σ Q (k p h') → Q' J H') : OutI g m H σ Q' r := by
  cases r with
  | ok p h => exact fun J m' H' w rh it => f p h J m' H' w rh it (OutE.mono o w)
  | exc c h => exact o
  | bad => exact o
/-- no exception leaves a comprehension's block -/
def noW (K : PySem.W.Frag) : Cfg := ⟨K, fun _ _ _ _ => False⟩
theorem IsIt.mono {K : PySem.W.Frag} {J : It} {its : List D} {gd : Hs → Prop} {m m' : List Addr} {H H' : Hp} (x : IsIt K J its gd m H) (w : Grow m H m' H') : IsIt K J its gd m' H' :=
  fun i m2 H2 h2 g2 => x i m2 H2 h2 (w.trans g2)
/-- a target of own names: its reading t, its maker T -/
structure CT (K : PySem.W.Frag) (own : List Nat) (t : TG) (T : GM) : Prop where
  keep : ∀ d ds h ds' h', T d ds h = .nx ds' h' → h' = h
  run : ∀ (m : List Addr) (d : D) (ds ds' : Sl) (h h' : Hs) (v : V) (σ : St) (H : Hp) (Q : St → Hp → Prop), RepV K m H d v → RepS K m H ds (wipe σ own) → T d ds h = .nx ds' h' →
    (∀ σ', wipe σ' own = wipe σ own → RepS K m H ds' σ' → Q σ' H) → t v (wipe σ own) H fun σ2 H2 => wipe σ2 own = wipe σ own ∧ Q σ2 H2
theorem ct_name (K : PySem.W.Frag) (i : Nat) : CT K [i] (gName i) (nameG i) where
  keep := fun d ds h ds' h' e => by cases e; rfl
  run := by
    intro m d ds ds' h h' v σ H Q rv rs e o
    cases e
    have e : wipe ((wipe σ [i]).set i (some v)) [i] = wipe σ [i] := by
      show (((σ.set i none).set i (some v)).set i none) = σ.set i none
      rw [List.set_set, List.set_set]
    exact ⟨e, o _ e (rs.put i rv)⟩
theorem two_inv {i j : Nat} {d : D} {ds ds' : Sl} {h h' : Hs} (e : tupG 2 (consG (nameG i) (consG (nameG j) nilG)) d ds h = .nx ds' h') : ∃ x y, d = .tup [x, y] ∧ h' = h ∧ ds' = (ds.set i (some x)).set j (some y) := by
  cases d with
  | tup xs =>
    match xs, e with
    | [], e => cases e
    | [_], e => cases e
    | [x, y], e => cases e; exact ⟨x, y, rfl, rfl, rfl⟩
    | x :: y :: z :: r, e =>
      have e : (if (x :: y :: z :: r).length = 2 then consG (nameG i) (consG (nameG j) nilG) (x :: y :: z :: r) ds h else .bad) = .nx ds' h' := e
      rw [if_neg (by simp)] at e
      cases e
  | _ => cases e
theorem ct_two (K : PySem.W.Frag) {i j : Nat} (hij : i ≠ j) : CT K [i, j] (gTup K 2 (gCons (gName i) (gCons (gName j) gNil))) (tupG 2 (consG (nameG i) (consG (nameG j) nilG))) where
  keep := fun d ds h ds' h' e => by obtain ⟨_, _, _, e, _⟩ := two_inv e; exact e
  run := by
    intro m d ds ds' h h' v σ H Q rv rs e o
    obtain ⟨x, y, rfl, _, rfl⟩ := two_inv e
    unfold RepV at rv
    obtain ⟨p, vs, rfl, hp, rl⟩ := rv
    obtain ⟨a, b, rfl, ra, rb⟩ : ∃ a b, vs = [a, b] ∧ RepV K m H x a ∧ RepV K m H y b := by
      unfold RepL at rl
      obtain ⟨a, r, rfl, h1, h2⟩ := rl
      unfold RepL at h2
      obtain ⟨b, r, rfl, h2, h3⟩ := h2
      unfold RepL at h3
      subst h3
      exact ⟨a, b, rfl, h1, h2⟩
    have e : wipe (((wipe σ [i, j]).set i (some a)).set j (some b)) [i, j] = wipe σ [i, j] := by
      show ((((((σ.set j none).set i none).set i (some a)).set j (some b)).set j none).set i none) = (σ.set j none).set i none
      rw [List.set_set, List.set_set]
      rw [List.set_comm _ _ (Ne.symm hij), List.set_set, List.set_comm _ _ hij, List.set_set]
    exact ⟨p, [a, b], rfl, SqT.of hp, rfl, a, [b], rfl, b, [], rfl, rfl, e, o _ e ((rs.put i ra).put j rb)⟩
theorem lc_read {g : Cfg} {own : List Nat} {I : IM} {T : GM} {C : TM} {A : EM} {σ : St} {H : Hp} {Q : VK} (q : tM g (lcM own I T C A) σ H Q)
    {t : TG} (ct : CT g.K own t T) :
    tLc (tI g I) t (tT (noW g.K) C) (tM (noW g.K) A) own σ H Q := by
  obtain ⟨m, ds, h, hs, rh, o⟩ := q
  refine ⟨m, ds, h, hs, rh, OutI.toE o fun p h1 J m1 H1 g1 rh1 it o1 => ?_⟩
  obtain ⟨its, gd⟩ := p
  intro L hL
  -- the new list
  have rh2 : RepH g.K (m1 ++ [L]) (upd H1 L (.lst [])) (h1 ++ [.lst []]) := (new_lst (g := g) (.nil) rh1 hL).2
  have g2 : Grow m1 H1 (m1 ++ [L]) (upd H1 L (.lst [])) := .app hL
  have hl : (m1 ++ [L])[h1.length]? = some L := by rw [← rh1.len]; simp
  have s2 := (hs.mono g1).mono g2
  have it2 := it.mono g2
  have o2 : OutE g (m1 ++ [L]) (upd H1 L (.lst [])) σ Q (lcLoop gd h1.length T C A (wipeD ds own) its (h1 ++ [.lst []])) := OutE.mono o1 g2
  generalize (m1 ++ [L]) = m2 at rh2 g2 hl s2 it2 o2
  generalize (upd H1 L (.lst [])) = H2 at rh2 g2 s2 it2 o2 ⊢
  generalize h1.length = l at hl o2
  generalize (h1 ++ [AO.lst []]) = h2 at rh2 o2
  refine ⟨fun i k H => k = its.length - i ∧ i ≤ its.length ∧ ∃ m h, Grow m2 H2 m H ∧ RepH g.K m H h ∧ OutE g m H σ Q (lcLoop gd l T C A (wipeD ds own) (its.drop i) h), ⟨_, rfl, Nat.zero_le _, m2, h2, .refl _ _, rh2, o2⟩, ?_⟩
  rintro i k H3 ⟨rfl, hi, m3, h3, g3, rh3, o3⟩
  have hl3 : m3[l]? = some L := by
    obtain ⟨⟨r, rfl⟩, _, _, _⟩ := g3
    obtain ⟨q, _⟩ := List.getElem?_eq_some_iff.mp hl
    rw [List.getElem?_append_left q]; exact hl
  by_cases hlt : i < its.length
  · have hd : its.drop i = its[i] :: its.drop (i + 1) := List.drop_eq_getElem_cons hlt
    rw [hd] at o3
    unfold lcLoop at o3
    by_cases hgd : gd h3
    · rw [if_pos hgd] at o3
      obtain ⟨f1, _⟩ := it2 i m3 H3 h3 g3 rh3 hgd
      obtain ⟨go, yl⟩ := f1 its[i] (List.getElem?_eq_getElem hlt)
      refine .inr ⟨go, fun H => ∃ m h, Grow m2 H2 m H ∧ RepH g.K m H h ∧ OutE g m H σ Q (lcLoop gd l T C A (wipeD ds own) (its.drop (i + 1)) h), fun H' ⟨m', h', w⟩ => ⟨its.length - (i + 1), by omega, rfl, hlt, m', h', w⟩, fun x H4 y => ?_⟩
      obtain ⟨g4, r4, rh4⟩ := yl x H4 y
      cases w : T its[i] (wipeD ds own) h3 with
      | nx ds5 h5 =>
        rw [w] at o3
        obtain rfl := ct.keep _ _ _ _ _ w
        refine ct.run m3 its[i] (wipeD ds own) ds5 h5 h5 x σ H4 _ r4 (((s2.mono g3).mono g4).wipe own) w fun σ5 hw5 s5 => ?_
        have o5 := OutE.mono o3 g4
        refine ⟨m3, ds5, h5, s5, rh4, ?_⟩
        have gg := g3.trans g4
        change OutE g m3 H4 σ Q ((C ds5 h5).noX.bind _) at o5
        cases c5 : C ds5 h5 with
        | exc c h6 => rw [c5] at o5; exact o5.elim
        | bad => rw [c5] at o5; exact o5
        | ok b h6 =>
          rw [c5, R.noX_ok, R.bind_ok] at o5
          intro m6 H6 g6 rh6
          cases b with
          | false =>
            rw [if_neg Bool.false_ne_true] at o5 ⊢
            exact ⟨m6, h6, gg.trans g6, rh6, OutE.mono o5 g6⟩
          | true =>
            rw [if_pos rfl] at o5 ⊢
            refine ⟨m6, ds5, h6, s5.mono g6, rh6, ?_⟩
            cases a6 : A ds5 h6 with
            | exc c h7 => rw [a6] at o5; exact o5.elim
            | bad => rw [a6] at o5; exact o5
            | ok yd h7 =>
              rw [a6, R.noX_ok, R.bind_ok] at o5
              intro yv m7 H7 g7 r7 rh7
              have hl7 : m7[l]? = some L := by
                obtain ⟨⟨r, rfl⟩, _, _, _⟩ := g4.trans (g6.trans g7)
                obtain ⟨q, _⟩ := List.getElem?_eq_some_iff.mp hl3
                rw [List.getElem?_append_left q]; exact hl3
              cases e7 : h7[l]? with
              | none => rw [e7] at o5; exact o5.elim
              | some ao =>
                cases ao with
                | lst acc =>
                  rw [e7] at o5
                  change OutE g m3 H4 σ Q (if acc.length < LIM then _ else _) at o5
                  by_cases hz : acc.length < LIM
                  · rw [if_pos hz] at o5
                    obtain ⟨vs, hv, rl⟩ := rh7.lst hl7 e7
                    have w8 : Grow m7 H7 m7 (upd H7 L (.lst (vs ++ [yv]))) := .write hv (fun _ z => nomatch z) (fun _ _ z => nomatch z) (fun _ z => nomatch z)
                    have rh8 : RepH g.K m7 (upd H7 L (.lst (vs ++ [yv]))) (h7.set l (.lst (acc ++ [yd]))) :=
                      rh7.write hl7 hv (fun _ z => nomatch z) (fun _ _ z => nomatch z) (fun _ z => nomatch z) ⟨_, upd_same, (rl.append (.cons r7 .nil)).mono w8⟩
                    refine ⟨vs, hv, ?_, m7, _, (gg.trans (g6.trans g7)).trans w8, rh8, OutE.mono o5 ((g6.trans g7).trans w8)⟩
                    rw [rl.length, sizeLine_eq]; exact hz
                  · rw [if_neg hz] at o5; exact o5.elim
                | _ => rw [e7] at o5; exact (show False from o5).elim
      | _ => rw [w] at o3; exact (show False from o3).elim
    · rw [if_neg hgd] at o3; exact o3.elim
  · have e : i = its.length := by omega
    subst e
    rw [List.drop_length] at o3
    unfold lcLoop at o3
    by_cases hgd : gd h3
    · rw [if_pos hgd] at o3
      exact .inl ⟨(it2 _ m3 H3 h3 g3 rh3 hgd).2 (Nat.le_refl _), o3 _ m3 H3 (.refl _ _) (by unfold RepV; exact ⟨L, hl3, rfl⟩) rh3⟩
    · rw [if_neg hgd] at o3; exact o3.elim
/-- tests of a clause -/
theorem tms_nil {X : Cx} {g : Cfg} : PTs X [] (tT g yesM) := ⟨fun _ _ _ H _ I ⟨m, ds, h, hs, rh, o⟩ => wpAny_tests_nil ⟨H, I, o m H (.refl _ _) rh⟩⟩
section
variable {X : Cx} {g : Cfg} {tg elt iter : Expr} {ifs : List Expr} {scope : Scope} {own : List (Str × Nat)} {pos spos py : Pos} {I : IM} {T : GM} {C : TM} {A : EM} {t : TG}
theorem em_lc (hc : X.calm = true) (hN : X.N.Nodup) (hi : PI X tg iter (tI g I)) (ok : BlkOk X.N X.env.scope scope own) (ct : CT g.K (own.map (·.2)) t T)
    (hg : ∀ (s : Shared) (H : Hp) (C : Addr) (cl : List (Str × Addr)) (fp : List Addr), PG (X.blk s H scope (compEnvC scope cl C X.env) fp) tg t)
    (ht : ∀ (s : Shared) (H : Hp) (Ca : Addr) (cl : List (Str × Addr)) (fp : List Addr), PTs (X.blk s H scope (compEnvC scope cl Ca X.env) fp) ifs (tT (noW g.K) C))
    (he : ∀ (s : Shared) (H : Hp) (C : Addr) (cl : List (Str × Addr)) (fp : List Addr), PE (X.blk s H scope (compEnvC scope cl C X.env) fp) elt (tM (noW g.K) A)) (hs : ∀ x, foldedSetIterable iter X.env x = pure x := by intro _; rfl) :
    PE X (.ListComp elt [⟨tg, iter, ifs, 0⟩] scope pos) (tM g (lcM (own.map (·.2)) I T C A)) := PE.weak (pe_lc hc hN hi ok hg ht he hs) fun σ H Q q => lc_read q ct
end
/-- what a def makes of its arguments and the objects -/
abbrev Fm := List D → Hs → R D
def OutC (K : PySem.W.Frag) (m : List Addr) (H : Hp) (Q : VK) (E : XK) : R D → Prop
  | .ok d h' => ∀ v m' H', Grow m H m' H' → RepV K m' H' d v → RepH K m' H' h' → Q v H'
  | .exc c h' => ∀ m' H', Grow m H m' H' → RepH K m' H' h' → E (.ref (He.ga K c)) none H'
  | .bad => False
def spM (K : PySem.W.Frag) (n : Nat) (φ : Fm) : Sp := fun vs H Q E => vs.length = n ∧ ∃ m ds h, RepL K m H ds vs ∧ RepH K m H h ∧ OutC K m H Q E (φ ds h)
def callM (φ : Fm) (A : AM) : EM := fun ds h => (A ds h).bind fun xs h => φ xs h
theorem callS_read {g : Cfg} {n : Nat} {φ : Fm} {As : AM} {σ : St} {H : Hp} {Q : VK} (ar : ∀ xs h, xs.length ≠ n → φ xs h = .bad) (q : tM g (callM φ As) σ H Q) : tCallS (spM g.K n φ) (WE g.W) (tA g As) σ H Q := by
  obtain ⟨m, ds, h, hs, rh, o⟩ := q
  refine ⟨m, ds, h, hs, rh, OutA.toE o fun xs h' vs m' H' w rl rh' o' => ?_⟩
  by_cases hl : xs.length = n
  · refine ⟨by rw [rl.length]; exact hl, m', xs, h', rl, rh', ?_⟩
    cases e : φ xs h' with
    | ok d h2 => rw [e] at o'; exact o'
    | exc c h2 => rw [e] at o'; exact o'
    | bad => rw [e] at o'; exact o'
  · rw [ar _ _ hl] at o'; exact o'.elim
/-- a def of the top, as its callers see it: at this level it does φ -/
structure FnAt (P : Program) (w : World) (K : PySem.W.Frag) (mg : Str → Option Value) (base : Heap) (k : Nat) (x : Str) (ps : List Str) (φ : Fm) : Prop where
  ex : ∃ f fd, mg x = some (.ref f) ∧ PySem.W.keepIn K (.ref f) = true ∧ Binds K fd ps [] ∧ FnOk P w K mg base (L2.CX P w) k f fd ps (spM K ps.length φ)
  ar : ∀ xs h, xs.length ≠ ps.length → φ xs h = .bad
section
variable {X : Cx} {g : Cfg} {e : Expr} {es : List Expr} {As : AM} {x : Str} {p pos : Pos} {k : Nat} {ps : List Str} {φ : Fm}
theorem em_call (F : FnAt X.prog X.w X.K X.mg X.base k x ps φ) (hK : X.K = g.K) (hr : Room k X.A) (tk : Takes X g.W) (hg : Gl X x) (ha : PA X (e :: es) (tA g As)) (hdb : (x == ("__debug__" : Str)) = false := by decide) (he : starEach (e :: es) X.env = (false, eval e X.env) :: starEach es X.env := by rfl) (hpl : (backTo pos (starEach es X.env)).any (·.1) = false := by rfl) :
    PE X (.Call (.Name x p) (e :: es) [] pos) (tM g (callM φ As)) := by
  obtain ⟨f, fd, hm, hk, hb, G⟩ := F.ex
  rw [hK] at G
  refine PE.weak (pe_callS (E := WE g.W) (by rw [hK]; exact G) hr hg hm hk hb (passAt tk) ha hdb he hpl) fun σ H Q q => callS_read F.ar q
end
end DV
namespace DV
open PySem PySem.Spec PyProof.Rows L2
mutual
def noloc : D → Bool
  | .loc _ => false
  | .tup ds => nolocL ds
  | .non => true
  | .bl _ => true
  | .int _ => true
  | .str _ => true
  | .ro _ => true
  | .exn _ => true
def nolocL : List D → Bool
  | [] => true
  | d :: ds => noloc d && nolocL ds
end
section
variable {K : PySem.W.Frag}
mutual
theorem RepV.free {m m' : List Addr} {H : Hp} : ∀ {d : D} {v : V}, noloc d = true → RepV K m H d v → RepV K m' H d v
  | .non, _, _, h => h
  | .bl _, _, _, h => h
  | .int _, _, _, h => h
  | .str _, _, _, h => h
  | .ro _, _, _, h => h
  | .exn _, _, _, h => h
  | .tup ds, v, n, h => by
    unfold RepV at h ⊢
    obtain ⟨a, xs, e, ha, hl⟩ := h
    exact ⟨a, xs, e, ha, RepL.free (by unfold noloc at n; exact n) hl⟩
  | .loc l, v, n, h => by unfold noloc at n; cases n
theorem RepL.free {m m' : List Addr} {H : Hp} : ∀ {ds : List D} {xs : List V}, nolocL ds = true → RepL K m H ds xs → RepL K m' H ds xs
  | [], _, _, h => h
  | d :: ds, xs, n, h => by
    unfold RepL at h ⊢
    unfold nolocL at n
    obtain ⟨n1, n2⟩ := Bool.and_eq_true_iff.mp n
    obtain ⟨x, r, e, h1, h2⟩ := h
    exact ⟨x, r, e, RepV.free n1 h1, RepL.free n2 h2⟩
end
mutual
/-- what stood for it by fewer numbers still does -/
theorem RepV.shrink {m0 r : List Addr} {H0 H : Hp} : ∀ {d : D} {v0 v : V}, RepV K m0 H0 d v0 → RepV K (m0 ++ r) H d v → RepV K m0 H d v
  | .non, _, _, _, h => h
  | .bl _, _, _, _, h => h
  | .int _, _, _, _, h => h
  | .str _, _, _, _, h => h
  | .ro _, _, _, _, h => h
  | .exn _, _, _, _, h => h
  | .tup ds, v0, v, n, h => by
    unfold RepV at h n ⊢
    obtain ⟨a0, xs0, _, _, hl0⟩ := n
    obtain ⟨a, xs, e, ha, hl⟩ := h
    exact ⟨a, xs, e, ha, RepL.shrink hl0 hl⟩
  | .loc l, v0, v, n, h => by
    unfold RepV at h n ⊢
    obtain ⟨a0, ha0, _⟩ := n
    obtain ⟨a, ha, e⟩ := h
    obtain ⟨hl, _⟩ := List.getElem?_eq_some_iff.mp ha0
    rw [List.getElem?_append_left hl] at ha
    exact ⟨a, ha, e⟩
theorem RepL.shrink {m0 r : List Addr} {H0 H : Hp} : ∀ {ds : List D} {xs0 xs : List V}, RepL K m0 H0 ds xs0 → RepL K (m0 ++ r) H ds xs → RepL K m0 H ds xs
  | [], _, _, _, h => h
  | d :: ds, xs0, xs, n, h => by
    unfold RepL at h n ⊢
    obtain ⟨x0, r0, _, n1, n2⟩ := n
    obtain ⟨x, r, e, h1, h2⟩ := h
    exact ⟨x, r, e, RepV.shrink n1 h1, RepL.shrink n2 h2⟩
end
theorem RepO.shrink {m0 r : List Addr} {H0 H : Hp} {a a0 : Addr} {o : AO} (n : RepO K m0 H0 a0 o) (h : RepO K (m0 ++ r) H a o) : RepO K m0 H a o := by
  cases o with
  | lst ds => obtain ⟨xs0, _, n⟩ := n; obtain ⟨xs, e, h⟩ := h; exact ⟨xs, e, n.shrink h⟩
  | dct kvs => obtain ⟨xs0, _, _, n⟩ := n; obtain ⟨xs, e, k, h⟩ := h; exact ⟨xs, e, k, n.shrink h⟩
  | fdc kvs => obtain ⟨_, xs0, _, _, n⟩ := n; obtain ⟨ob, xs, e, k, h⟩ := h; exact ⟨ob, xs, e, k, n.shrink h⟩
  | dcT kvs => obtain ⟨xs0, _, _, n⟩ := n; obtain ⟨xs, e, k, h⟩ := h; exact ⟨xs, e, k, n.shrink h⟩
  | ins C fs => obtain ⟨_, xs0, _, _, n⟩ := n; obtain ⟨dx, xs, e, k, h⟩ := h; exact ⟨dx, xs, e, k, n.shrink h⟩
/-- an object without numbers in it -/
def nolocO : AO → Bool
  | .lst ds => nolocL ds
  | .dct kvs => nolocL (kvs.map (·.2))
  | .fdc kvs => nolocL (kvs.map (·.2))
  | .dcT kvs => nolocL (kvs.map (·.2))
  | .ins _ fs => nolocL (fs.map (·.2))
theorem RepO.free {m m' : List Addr} {H : Hp} {a : Addr} {o : AO} (n : nolocO o = true) (h : RepO K m H a o) : RepO K m' H a o := by
  cases o with
  | lst ds => obtain ⟨xs, e, h⟩ := h; exact ⟨xs, e, h.free n⟩
  | dct kvs => obtain ⟨xs, e, k, h⟩ := h; exact ⟨xs, e, k, h.free n⟩
  | fdc kvs => obtain ⟨ob, xs, e, k, h⟩ := h; exact ⟨ob, xs, e, k, h.free n⟩
  | dcT kvs => obtain ⟨xs, e, k, h⟩ := h; exact ⟨xs, e, k, h.free n⟩
  | ins C fs => obtain ⟨dx, xs, e, k, h⟩ := h; exact ⟨dx, xs, e, k, h.free n⟩
theorem Grow.cut {m m' : List Addr} {H H' : Hp} (g : Grow m H m' H') : Grow m H m H' := ⟨⟨[], by simp⟩, g.tup, g.frz, g.ext⟩
/-- back to the old objects, each as it was or without numbers -/
theorem RepH.cut {m m' : List Addr} {H H' : Hp} {h h' : Hs} (r0 : RepH K m H h) (r : RepH K m' H' h') (g : Grow m H m' H') (c : ∀ (i : Nat) (o : AO), i < h.length → h'[i]? = some o → h[i]? = some o ∨ nolocO o = true) : RepH K m H' (h'.take h.length) := by
  obtain ⟨⟨q, rfl⟩, _, _⟩ := g
  have l1 := r.len
  have l0 := r0.len
  rw [List.length_append] at l1
  refine ⟨by rw [List.length_take]; omega, (List.nodup_append.mp r.nd).1, fun i a o hi ho => ?_⟩
  obtain ⟨hl, _⟩ := List.getElem?_eq_some_iff.mp hi
  have hlt : i < h.length := by omega
  rw [List.getElem?_take_of_lt hlt] at ho
  have ro := r.at_ i a o (by rw [List.getElem?_append_left hl]; exact hi) ho
  rcases c i o hlt ho with e | e
  · exact (r0.at_ i a o hi e).shrink ro
  · exact ro.free e
end
open Classical in
/-- nothing is changed, a value without objects comes back -/
noncomputable def nPure (φ : Fm) : Fm := fun xs h => match φ xs h with
  | .ok d h' => if noloc d = true ∧ h'.take h.length = h then .ok d h else .bad
  | .exc c h' => if h'.take h.length = h then .exc c h else .bad
  | .bad => .bad
open Classical in
/-- nothing is changed, a new list or dict comes back, without objects in it -/
noncomputable def nNew (φ : Fm) : Fm := fun xs h => match φ xs h with
  | .ok (.loc l) h' => (match h'[l]? with
    | some o => if h.length ≤ l ∧ h'.take h.length = h ∧ nolocO o = true then .ok (.loc h.length) (h ++ [o]) else .bad
    | none => .bad)
  | .exc c h' => if h'.take h.length = h then .exc c h else .bad
  | _ => .bad
section
variable {K : PySem.W.Frag} {m : List Addr} {H : Hp} {Q : VK} {E : XK} {φ : Fm} {xs : List D} {h : Hs}
theorem take_same {h h' : Hs} (e : h'.take h.length = h) : ∀ (i : Nat) (o : AO), i < h.length → h'[i]? = some o → h[i]? = some o ∨ nolocO o = true := fun i o hl ho => .inl (by
  rw [← List.getElem?_take_of_lt hl, e] at ho; exact ho)
theorem nPure_ok (rh : RepH K m H h) (o : OutC K m H Q E (nPure φ xs h)) : OutC K m H Q E (φ xs h) := by
  unfold nPure at o
  cases q : φ xs h with
  | ok d h' =>
    rw [q] at o
    simp only at o
    split at o
    · rename_i c
      intro v m' H' g rv rh'
      have := rh.cut rh' g (take_same c.2)
      rw [c.2] at this
      exact o v m H' g.cut (rv.free c.1) this
    · exact o.elim
  | exc c h' =>
    rw [q] at o
    simp only at o
    split at o
    · rename_i e
      intro m' H' g rh'
      have := rh.cut rh' g (take_same e)
      rw [e] at this
      exact o m H' g.cut this
    · exact o.elim
  | bad => rw [q] at o; exact o
theorem nNew_ok (rh : RepH K m H h) (o : OutC K m H Q E (nNew φ xs h)) : OutC K m H Q E (φ xs h) := by
  unfold nNew at o
  cases q : φ xs h with
  | ok d h' =>
    rw [q] at o
    cases d with
    | loc l =>
      cases e : h'[l]? with
      | none => simp only [e] at o; exact o.elim
      | some ob =>
        simp only [e] at o
        split at o
        · rename_i c
          obtain ⟨c1, c2, c3⟩ := c
          intro v m' H' g rv rh'
          unfold RepV at rv
          obtain ⟨a, ha, rfl⟩ := rv
          have r1 := rh.cut rh' g (take_same c2)
          rw [c2] at r1
          have ro : RepO K (m ++ [a]) H' a ob := (rh'.at_ l a ob ha e).free c3
          have hn : a ∉ m := fun hm => by
            obtain ⟨⟨q, rfl⟩, _, _⟩ := g
            obtain ⟨i, hi⟩ := List.mem_iff_getElem?.mp hm
            obtain ⟨hl, e1⟩ := List.getElem?_eq_some_iff.mp hi
            have hi' : (m ++ q)[i]? = some a := by rw [List.getElem?_append_left hl]; exact hi
            obtain ⟨q1, e1⟩ := List.getElem?_eq_some_iff.mp hi'
            obtain ⟨q2, e2⟩ := List.getElem?_eq_some_iff.mp ha
            have := (List.getElem_inj rh'.nd).mp (e1.trans e2.symm)
            have := rh.len
            omega
          refine o (.ref a) (m ++ [a]) H' ⟨⟨[a], rfl⟩, g.tup, g.frz, g.ext⟩ (by unfold RepV; exact ⟨a, by rw [← rh.len]; simp, rfl⟩) ⟨by simp [rh.len], ?_, fun i b ob' hi hb => ?_⟩
          · exact List.nodup_append.mpr ⟨r1.nd, by simp, fun x hx y hy z => hn (by simp at hy; rw [← hy, ← z]; exact hx)⟩
          · by_cases hl : i < m.length
            · rw [List.getElem?_append_left hl] at hi
              rw [List.getElem?_append_left (by rw [← rh.len]; exact hl)] at hb
              exact (r1.at_ i b ob' hi hb).keep ⟨⟨[a], rfl⟩, fun _ _ z => z, fun _ _ _ z => z, fun _ _ z => z⟩ rfl
            · have hz : i = m.length := by
                obtain ⟨q, _⟩ := List.getElem?_eq_some_iff.mp hi
                simp at q; omega
              subst hz
              simp at hi
              rw [rh.len] at hb
              simp at hb
              subst hi hb
              exact ro
        · exact o.elim
    | _ => exact (show False from o).elim
  | exc c h' =>
    rw [q] at o
    simp only at o
    split at o
    · rename_i e
      intro m' H' g rh'
      have := rh.cut rh' g (take_same e)
      rw [e] at this
      exact o m H' g.cut this
    · exact o.elim
  | bad => rw [q] at o; exact o
end
/-- a kind of end -/
structure Nrm where
  f : Fm → Fm
  ok : ∀ (K : PySem.W.Frag) (m : List Addr) (H : Hp) (Q : VK) (E : XK) (φ : Fm) (xs : List D) (h : Hs), RepH K m H h → OutC K m H Q E (f φ xs h) → OutC K m H Q E (φ xs h)
  ar : ∀ (φ : Fm) (n : Nat), (∀ xs h, xs.length ≠ n → φ xs h = .bad) → ∀ xs h, xs.length ≠ n → f φ xs h = .bad
noncomputable def kPure : Nrm := ⟨nPure, fun _ _ _ _ _ _ _ _ => nPure_ok, fun φ n a xs h l => by unfold nPure; rw [a xs h l]⟩
noncomputable def kNew : Nrm := ⟨nNew, fun _ _ _ _ _ _ _ _ => nNew_ok, fun φ n a xs h l => by unfold nNew; rw [a xs h l]⟩
def startD (nN : Nat) (xs : List D) : Sl := xs.map some ++ List.replicate (nN - xs.length) none
def runM (np nN : Nat) (M : SM) : Fm := fun xs h => if xs.length = np then (match M (startD nN xs) h with
  | .nx _ h => .ok .non h
  | .rt d h => .ok d h
  | .exc c _ h => .exc c h
  | _ => .bad) else .bad
theorem runM_ar (np nN : Nat) (M : SM) : ∀ xs h, xs.length ≠ np → runM np nN M xs h = .bad := fun xs h l => if_neg l
theorem repS_start {K : PySem.W.Frag} {m : List Addr} {H : Hp} {N : List Str} : ∀ {xs : List D} {vs : List V}, RepL K m H xs vs → RepS K m H (startD N.length xs) (start N vs) := by
  intro xs vs r
  have rep : ∀ n : Nat, RepS K m H (List.replicate n none) (List.replicate n none) := fun n => by
    induction n with
    | zero => exact trivial
    | succ n ih => exact ⟨fun d e => (nomatch e), ih⟩
  have gen : ∀ (n : Nat) (xs : List D) (vs : List V), RepL K m H xs vs → RepS K m H (xs.map some ++ List.replicate n none) (vs.map some ++ List.replicate n none) := by
    intro n xs
    induction xs with
    | nil => intro vs r; unfold RepL at r; subst r; exact rep n
    | cons x xs ih =>
      intro vs r
      unfold RepL at r
      obtain ⟨v, vr, rfl, h1, h2⟩ := r
      exact ⟨fun d e => by cases e; exact ⟨v, rfl, h1⟩, ih vr h2⟩
  unfold startD L2.start
  rw [r.length]
  exact gen _ xs vs r
section
variable {P : Program} {w : World} {K : PySem.W.Frag} {mg : Str → Option Value} {base : Heap} {x qual : Str} {params : Arguments} {body : List Stmt} {scope : Scope} {f : Addr} {fd : FuncData}
theorem def_ok {N ps : List Str} {k : Nat} {M : SM} (kd : Nrm) (F : FunD K x qual params body scope [] [] f fd) (S : FnScope N ps scope)
    (hb : ∀ (cdv : Value) (A : Around) (outer : List Env) (s : Shared) (H : Hp) (E : XK) (W : WX), Room k (A.deeper (envOfC qual scope s.heap.objs.size f cdv)) → Takes (cxOf (L2.CX P w) P w K mg base N qual scope f cdv A outer s H E) W →
      PSs (cxOf (L2.CX P w) P w K mg base N qual scope f cdv A outer s H E) body (tS ⟨K, W⟩ M)) : FnOk P w K mg base (L2.CX P w) (k + 1) f fd ps (spM K ps.length (kd.f (runM ps.length N.length M))) := by
  refine F.ok S (fun vs H Q E h => h.1) fun cdv A outer s H vs Q E hr h => ?_
  obtain ⟨hl, m, ds, hs, rl, rh, o⟩ := h
  have o := kd.ok K m H Q E _ ds hs rh o
  refine ⟨_, hb cdv A outer s H E (fun cls d _ H => E cls d H) hr (takes_of rfl rfl rfl rfl), m, startD N.length ds, hs, repS_start rl, rh, ?_⟩
  unfold runM at o
  rw [if_pos (by rw [← rl.length]; exact hl)] at o
  cases q : M (startD N.length ds) hs with
  | nx ds1 h1 => rw [q] at o; exact fun σ' m' H' g r rh' => o .non m' H' g (by unfold RepV; rfl) rh'
  | rt d h1 => rw [q] at o; exact fun v m' H' g r rh' => o v m' H' g r rh'
  | exc c ds1 h1 => rw [q] at o; exact fun σ' m' H' g r rh' => o m' H' g rh'
  | bk ds1 h1 => rw [q] at o; exact o.elim
  | ct ds1 h1 => rw [q] at o; exact o.elim
  | bad => rw [q] at o; exact o.elim
/-- nothing is told at level 0 -/
theorem fnAt_zero {ps : List Str} (F : FunD K x qual params body scope [] [] f fd) (hm : mg x = some (.ref f)) (hb : Binds K fd ps []) : FnAt P w K mg base 0 x ps fun _ _ => .bad :=
  ⟨⟨f, fd, hm, F.kp, hb, ⟨fun vs H Q E h => h.1, fun A outer s H args us vs Q E _ _ _ _ h => by obtain ⟨_, m, ds, hs, _, _, o⟩ := h; exact o.elim⟩⟩, fun _ _ _ => rfl⟩
end
end DV
namespace DV
open PySem PySem.Spec PyProof.Rows L2
def intF (g : Int → Int → Option D) : VF2
  | .int i, .int j, h => (g i j).map fun d => (d, h)
  | _, _, _ => none
theorem intF_inv {g : Int → Int → Option D} {x y : D} {h : Hs} {p : D × Hs} (e : intF g x y h = some p) : ∃ i j d, x = .int i ∧ y = .int j ∧ g i j = some d ∧ p = (d, h) := by
  unfold intF at e
  split at e
  · rename_i i j
    cases q : g i j with
    | none => rw [q] at e; cases e
    | some d => rw [q] at e; exact ⟨i, j, d, rfl, rfl, q, (Option.some.inj e).symm⟩
  · cases e
def ipF (C : Int → Int → Bool) (g : Int → Int → Int) : VF2 := intF fun i j => if C i j = true then some (.int (g i j)) else none
def cmpF (p : Int → Int → Bool) : VF2 := intF fun i j => some (.bl (p i j))
noncomputable def cMul (i j : Int) : Bool := cB ((-18446744073709551616 < i ∧ i < 18446744073709551616) ∨ (-18446744073709551616 < j ∧ j < 18446744073709551616))
noncomputable def cDiv (_ j : Int) : Bool := cB (0 < j ∧ j < 1073741824)
noncomputable def cMod (_ j : Int) : Bool := cB (0 < j)
noncomputable def cPow (i j : Int) : Bool := cB (0 ≤ j ∧ j ≤ 1000000 ∧ i.natAbs < 18446744073709551616)
def subF : VF2 := ipF (fun _ _ => true) fun i j => i - j
noncomputable def fdivF : VF2 := ipF cDiv fun i j => i / j
noncomputable def modF : VF2 := ipF cMod fun i j => i % j
noncomputable def powF : VF2 := ipF cPow fun i j => i ^ j.toNat
def ltF : VF2 := cmpF fun i j => decide (i < j)
def gtF : VF2 := cmpF fun i j => decide (j < i)
def negF : D → Hs → Res
  | .int i, h => some (.int (-i), h)
  | _, _ => none
section
variable {X : Cx} {K : PySem.W.Frag} {f : Value → Value → Sem Value}
theorem ip_ok {C : Int → Int → Bool} {P : Int → Int → Prop} {g : Int → Int → Int} (op : OpR X f (rI P fun i j => .int (g i j))) (hc : ∀ i j, C i j = true → P i j) : OpR X f (rV K (ipF C g)) := by
  intro pns s σ H x y v u Q I rx ry h
  obtain ⟨m, hs, dx, dy, r1, r2, rh, o⟩ := h
  cases e : ipF C g dx dy hs with
  | none => rw [e] at o; exact o.elim
  | some p =>
    rw [e] at o
    obtain ⟨i, j, d, rfl, rfl, q, rfl⟩ := intF_inv e
    unfold RepV at r1 r2
    subst r1 r2
    split at q
    · rename_i c
      cases q
      exact op pns s σ H _ _ v u Q I rx ry ⟨i, j, rfl, rfl, hc i j c, o _ m H (.refl _ _) (by unfold RepV; rfl) rh⟩
    · cases q
theorem cmp_ok {p : Int → Int → Bool} (op : OpR X f (rI0 fun i j => .bl (p i j))) : OpR X f (rV K (cmpF p)) := by
  intro pns s σ H x y v u Q I rx ry h
  obtain ⟨m, hs, dx, dy, r1, r2, rh, o⟩ := h
  cases e : cmpF p dx dy hs with
  | none => rw [e] at o; exact o.elim
  | some q =>
    rw [e] at o
    obtain ⟨i, j, d, rfl, rfl, q, rfl⟩ := intF_inv e
    unfold RepV at r1 r2
    subst r1 r2
    cases q
    exact op pns s σ H _ _ v u Q I rx ry ⟨i, j, rfl, rfl, o _ m H (.refl _ _) (by unfold RepV; rfl) rh⟩
theorem o_sub : OpR X (binaryOp .Sub) (rV K subF) := ip_ok (P := fun _ _ => True) (fun pns s σ H x y v u Q I rx ry ⟨i, j, e1, e2, _, q⟩ => op_sub pns s σ H x y v u Q I rx ry ⟨i, j, e1, e2, q⟩) fun _ _ _ => trivial
theorem o_fdiv : OpR X (binaryOp .FloorDiv) (rV K fdivF) := ip_ok op_fdiv fun i j h => cB_iff.mp h
theorem o_mod : OpR X (binaryOp .Mod) (rV K modF) := ip_ok op_mod fun i j h => cB_iff.mp h
theorem o_pow : OpR X (binaryOp .Pow) (rV K powF) := ip_ok op_pow fun i j h => cB_iff.mp h
theorem o_lt : OpR X (compareOp .Lt) (rV K ltF) := cmp_ok op_lt
theorem o_gt : OpR X (compareOp .Gt) (rV K gtF) := cmp_ok op_gt
end
theorem em_neg {X : Cx} {g : Cfg} {a : Expr} {A : EM} {pos : Pos} (ha : PE X a (tM g A)) : PE X (.UnaryOp .USub a pos) (tM g (unM negF A)) := by
  refine PE.weak (pe_un un_neg ha) fun σ H Q ⟨m, ds, h, hs, rh, o⟩ => ⟨m, ds, h, hs, rh, OutE.toE o fun d h1 v m1 H1 g1 r1 rh1 o1 => ?_⟩
  cases d with
  | int i => unfold RepV at r1; exact ⟨i, r1, o1 _ m1 H1 (.refl _ _) (by unfold RepV; rfl) rh1⟩
  | _ => exact (show False from o1).elim
def addF : VF2
  | .int i, .int j, h => some (.int (i + j), h)
  | .str a, .str b, h => if a.length + b.length ≤ LIM then some (.str (a ++ b), h) else none
  | .tup xs, .tup ys, h => if xs.length + ys.length ≤ LIM then some (.tup (xs ++ ys), h) else none
  | .loc a, .loc b, h => match h[a]?, h[b]? with
    | some (.lst xs), some (.lst ys) => if xs.length + ys.length ≤ LIM then some (.loc h.length, h ++ [.lst (xs ++ ys)]) else none
    | _, _ => none
  | .ro ns, .loc b, h => match h[b]? with
    | some (.lst ys) => if ns.length + ys.length ≤ LIM then some (.loc h.length, h ++ [.lst (ns.map D.int ++ ys)]) else none
    | _ => none
  | _, _, _ => none
section
variable {X : Cx} {K : PySem.W.Frag}
/-- list + list, read at any list -/
theorem op_catL : OpR X (binaryOp .Add) (fun x y H Q => ∃ l b xs zs, x = .ref l ∧ y = .ref b ∧ SqL X.K H l xs ∧ SqL X.K H b zs ∧ xs.length + zs.length ≤ sizeLine ∧ ∀ p, H p = none → Q (.ref p) (upd H p (.lst (xs ++ zs)))) := by
  intro pns s σ H x y v u Q I rx ry h
  obtain ⟨l, b, xs, zs, rfl, rfl, hH, hB, hz, q⟩ := h
  cases rx
  cases ry
  obtain ⟨its, r, pl, z⟩ := I.list hH
  obtain ⟨its2, r2, pl2, z2⟩ := I.list hB
  have hl := r.length
  have hl2 := r2.length
  obtain ⟨⟨cls, dd, data, sl⟩, ho, hc, n, hd⟩ := pl.isList
  obtain ⟨⟨cls2, dd2, data2, sl2⟩, ho2, hc2, n2, hd2⟩ := pl2.isList
  simp only at hc hd hc2 hd2
  subst hc hd hc2 hd2
  have e : its.toArray ++ its2.toArray = (its ++ its2).toArray := by simp
  refine concat_meets ⟨_, ho, rfl⟩ ⟨_, ho2, rfl⟩ noFill_list_add seq_list_add PySem.F.slot_list_add PySem.F.entry_list_add (PySem.F.args_list_add_2 _ _) (list_addW l b its.toArray its2.toArray n n2 dd dd2 sl sl2 (by simp only [List.size_toArray]; omega)) ⟨ho, ho2, ?_⟩
  rw [e]
  exact ⟨.ref _, _, I.lnew (t' := s.toks) (r.append r2) (by rw [List.length_append]; omega), rfl, q _ I.fresh⟩
theorem repL_ints {m : List Addr} {H : Hp} : ∀ ns : List Int, RepL K m H (ns.map D.int) (ns.map V.int)
  | [] => RepL.nil
  | n :: ns => .cons (by unfold RepV; rfl) (repL_ints ns)
/-- a list told, at its number -/
theorem new_lst' {m : List Addr} {H : Hp} {h : Hs} {xs : List D} {vs : List V} {p : Addr} {Q : VK} (rl : RepL K m H xs vs) (rh : RepH K m H h) (hp : H p = none) (o : OutV K m H Q (some (.loc h.length, h ++ [.lst xs]))) : Q (.ref p) (upd H p (.lst vs)) :=
  let ⟨q1, q2⟩ := new_lst (g := ⟨K, fun _ _ _ _ => False⟩) rl rh hp
  o _ _ _ (.app hp) q1 q2
theorem LIM_eq : sizeLine = LIM := sizeLine_eq
theorem o_add : OpR X (binaryOp .Add) (rV X.K addF) := by
  intro pns s σ H x y v u Q I rx ry h
  obtain ⟨m, hs, dx, dy, r1, r2, rh, o⟩ := h
  unfold addF at o
  split at o
  · unfold RepV at r1 r2
    subst r1 r2
    exact op_add pns s σ H _ _ v u Q I rx ry ⟨_, _, rfl, rfl, o _ m H (.refl _ _) (by unfold RepV; rfl) rh⟩
  · unfold RepV at r1 r2
    subst r1 r2
    split at o
    · rename_i hz
      exact op_add_str pns s σ H _ _ v u Q I rx ry ⟨_, _, rfl, rfl, by rw [LIM_eq]; exact hz, o _ m H (.refl _ _) (by unfold RepV; rfl) rh⟩
    · exact o.elim
  · unfold RepV at r1 r2
    obtain ⟨a, vs, rfl, ha, rl⟩ := r1
    obtain ⟨b, ws, rfl, hb, rl2⟩ := r2
    split at o
    · rename_i hz
      refine op_catA pns s σ H _ _ v u Q I rx ry ⟨a, b, vs, ws, rfl, rfl, SqT.of ha, SqT.of hb, by rw [LIM_eq, rl.length, rl2.length]; exact hz, fun e => ?_, fun e1 e => ?_, fun _ _ p hp => ?_⟩
      · have := rl.nil_iff.mp e
        subst this
        exact o _ m H (.refl _ _) (by unfold RepV; exact ⟨b, ws, rfl, hb, rl2⟩) rh
      · have := rl2.nil_iff.mp e
        subst this
        refine o _ m H (.refl _ _) ?_ rh
        show RepV X.K m H (.tup (_ ++ [])) _
        rw [List.append_nil]
        unfold RepV
        exact ⟨a, vs, rfl, ha, rl⟩
      · exact o _ m _ (.put hp) (by unfold RepV; exact ⟨p, _, rfl, upd_same, (rl.append rl2).mono (.put hp)⟩) (rh.put hp)
    · exact o.elim
  · unfold RepV at r1 r2
    obtain ⟨a, ha, rfl⟩ := r1
    obtain ⟨b, hb, rfl⟩ := r2
    split at o
    · rename_i xs ys e1 e2
      obtain ⟨vs, hv, rl⟩ := rh.lst ha e1
      obtain ⟨ws, hw, rl2⟩ := rh.lst hb e2
      split at o
      · rename_i hz
        exact op_catL pns s σ H _ _ v u Q I rx ry ⟨a, b, vs, ws, rfl, rfl, SqL.of hv, SqL.of hw, by rw [LIM_eq, rl.length, rl2.length]; exact hz, fun p hp => new_lst' (rl.append rl2) rh hp o⟩
      · exact o.elim
    · exact o.elim
  · unfold RepV at r1 r2
    obtain ⟨a, rfl, ha⟩ := r1
    obtain ⟨b, hb, rfl⟩ := r2
    split at o
    · rename_i ys e2
      obtain ⟨ws, hw, rl2⟩ := rh.lst hb e2
      split at o
      · rename_i hz
        exact op_catL pns s σ H _ _ v u Q I rx ry ⟨a, b, _, ws, rfl, rfl, ha.sq, SqL.of hw, by rw [LIM_eq, List.length_map, rl2.length]; exact hz, fun p hp => new_lst' ((repL_ints _).append rl2) rh hp o⟩
      · exact o.elim
    · exact o.elim
  · exact o.elim
/-- a text n times -/
def repS (z : Str) (n : Nat) : Str := ⟨((List.replicate n z.cps.toList).flatten).toArray⟩
theorem rep_fold (l : List Nat) : ∀ (k : Nat) (acc : List Nat), (List.replicate k l.toArray).foldl (fun p q => p ++ q) acc.toArray = (acc ++ (List.replicate k l).flatten).toArray
  | 0, acc => by simp
  | k + 1, acc => by
    have ih := rep_fold l k (acc ++ l)
    have e : acc.toArray ++ l.toArray = (acc ++ l).toArray := by simp
    rw [List.replicate_succ, List.foldl_cons, e, ih, List.replicate_succ, List.flatten_cons, List.append_assoc]
theorem rep_len (l : List Nat) (k : Nat) : (List.replicate k l).flatten.length = l.length * k := by
  induction k with
  | zero => simp
  | succ k ih => rw [List.replicate_succ, List.flatten_cons, List.length_append, ih, Nat.mul_succ, Nat.add_comm]
noncomputable def mulF : VF2
  | .int i, .int j, h => if cMul i j = true then some (.int (i * j), h) else none
  | .str z, .int j, h => if cB (-1000000 ≤ j ∧ j ≤ 1000000 ∧ z.length ≤ 1000000 ∧ z.length * j.toNat ≤ LIM) = true then some (.str (repS z j.toNat), h) else none
  | _, _, _ => none
theorem mul_strD {A : Around} {E : Value → Shared → Prop} {P : Program} {w : World} {s : Shared} {z : Str} {j : Int} {t u : Tok} {Q : Value → Shared → Prop} (c1 : -1000000 ≤ j) (c2 : j ≤ 1000000) (c3 : z.length ≤ 1000000) (c4 : z.length * j.toNat ≤ LIM)
    (q : ∀ t' tk, Q (.str (repS z j.toNat) t') { s with toks := tk }) : wpAny (model P w) A (binaryOp .Mult (.str z t) (.int j u)) Q E s := by
  have hz : z.length = z.cps.toList.length := by rw [Array.length_toList]; rfl
  refine PySem.P.mul_str (by rw [decide_eq_false (by omega), decide_eq_false (by omega)]; rfl) (fun h1 h2 h3 => ?_) (fun h1 h2 => ?_) ?_
  · have h5 : (1000000 : Int) ≤ (2 ^ 63 - 1) / j := (Int.le_ediv_iff_mul_le (by omega)).mpr (by omega)
    omega
  · show decide (_ > sizeLine) = false
    rw [LIM_eq]
    exact decide_eq_false (by omega)
  · have e1 : sizeLine = LIM := LIM_eq
    by_cases h1 : j < 1
    · rw [if_pos h1]
      have : j.toNat = 0 := by omega
      rw [this] at q
      exact ⟨by rw [e1]; decide, q _ _⟩
    · rw [if_neg h1]
      by_cases h2 : (j == 1 || z.length == 0) = true
      · rw [if_pos h2]
        have er : repS z j.toNat = z := by
          rcases Bool.or_eq_true_iff.mp h2 with h | h
          · have : j = 1 := eq_of_beq h
            subst this
            show (⟨((List.replicate 1 z.cps.toList).flatten).toArray⟩ : Str) = z
            simp
          · have h : z.length = 0 := eq_of_beq h
            have hl : z.cps.toList = [] := List.eq_nil_of_length_eq_zero (by omega)
            have hn : z.cps = #[] := Array.toList_inj.mp hl
            cases z with
            | mk cps => subst hn; unfold repS; simp
        have := q t s.toks
        rw [er] at this
        exact this
      · rw [if_neg h2]
        have ef : (List.replicate j.toNat z.cps).foldl (fun p q => p ++ q) #[] = ((List.replicate j.toNat z.cps.toList).flatten).toArray := by
          have := rep_fold z.cps.toList j.toNat []
          simpa using this
        refine ⟨?_, ?_⟩
        · rw [e1]
          show Array.size _ ≤ LIM
          rw [ef, List.size_toArray, rep_len, ← hz]
          exact c4
        · have := q s.toks (s.toks + 1)
          unfold repS at this
          rw [← ef] at this
          exact this
theorem o_mul : OpR X (binaryOp .Mult) (rV K mulF) := by
  intro pns s σ H x y v u Q I rx ry h
  obtain ⟨m, hs, dx, dy, r1, r2, rh, o⟩ := h
  unfold mulF at o
  split at o
  · unfold RepV at r1 r2
    subst r1 r2
    split at o
    · rename_i c
      refine op_mul pns s σ H _ _ v u Q I rx ry ⟨_, _, rfl, rfl, ?_, o _ m H (.refl _ _) (by unfold RepV; rfl) rh⟩
      exact cB_iff.mp c
    · exact o.elim
  · unfold RepV at r1 r2
    subst r1 r2
    split at o
    · rename_i c
      have c := cB_iff.mp c
      obtain ⟨t, rfl⟩ := rx
      obtain ⟨t', rfl⟩ := ry
      exact mul_strD c.1 c.2.1 c.2.2.1 c.2.2.2 fun t' tk => ⟨.str _, H, I.tok _, ⟨_, rfl⟩, o _ m H (.refl _ _) (by unfold RepV; rfl) rh⟩
    · exact o.elim
  · exact o.elim
end
mutual
/-- texts, numbers, None, and tuples of them -/
def pyOk : D → Bool
  | .non => true
  | .int _ => true
  | .str s => PyData.strOk s
  | .tup ds => pyOkL ds
  | .bl _ => false
  | .loc _ => false
  | .ro _ => false
  | .exn _ => false
def pyOkL : List D → Bool
  | [] => true
  | d :: ds => pyOk d && pyOkL ds
end
mutual
def depD : D → Nat
  | .tup ds => depL ds + 1
  | .non => 0
  | .int _ => 0
  | .str _ => 0
  | .bl _ => 0
  | .loc _ => 0
  | .ro _ => 0
  | .exn _ => 0
def depL : List D → Nat
  | [] => 0
  | d :: ds => max (depD d) (depL ds)
end
mutual
def toPy : D → PyData
  | .non => .none
  | .int i => .int i
  | .str s => .str s
  | .tup ds => .tuple (toPyL ds)
  | .bl b => .bool b
  | .loc _ => .none
  | .ro _ => .none
  | .exn _ => .none
def toPyL : List D → List PyData
  | [] => []
  | d :: ds => toPy d :: toPyL ds
end
mutual
theorem canLay_of : ∀ {d : D}, pyOk d = true → (toPy d).canLay0 = true
  | .non, _ => rfl
  | .int _, _ => rfl
  | .str s, k => by unfold pyOk at k; exact k
  | .tup ds, k => by unfold pyOk at k; exact canLay_ofL k
  | .bl _, _ => rfl
  | .loc _, _ => rfl
  | .ro _, _ => rfl
  | .exn _, _ => rfl
theorem canLay_ofL : ∀ {ds : List D}, pyOkL ds = true → PyData.canLayAll0 (toPyL ds) = true
  | [], _ => rfl
  | d :: ds, k => by
    unfold pyOkL at k
    obtain ⟨k1, k2⟩ := Bool.and_eq_true_iff.mp k
    show ((toPy d).canLay0 && PyData.canLayAll0 (toPyL ds)) = true
    rw [canLay_of k1, canLay_ofL k2]; rfl
end
mutual
theorem dep_toPy : ∀ d : D, (toPy d).depth = depD d
  | .non => rfl
  | .int _ => rfl
  | .str _ => rfl
  | .tup ds => by
    show PyData.depthAll (toPyL ds) + 1 = depL ds + 1
    rw [dep_toPyL ds]
  | .bl _ => rfl
  | .loc _ => rfl
  | .ro _ => rfl
  | .exn _ => rfl
theorem dep_toPyL : ∀ ds : List D, PyData.depthAll (toPyL ds) = depL ds
  | [] => rfl
  | d :: ds => by
    show max (toPy d).depth (PyData.depthAll (toPyL ds)) = max (depD d) (depL ds)
    rw [dep_toPy d, dep_toPyL ds]
end
mutual
theorem eqv_iff : ∀ {d e : D}, pyOk d = true → pyOk e = true → (PyData.eqv (toPy d) (toPy e) = true ↔ d = e)
  | .non, .non, _, _ => by simp [toPy, PyData.eqv]
  | .int i, .int j, _, _ => by simp [toPy, PyData.eqv]
  | .str i, .str j, _, _ => by simp [toPy, PyData.eqv]
  | .tup ds, .tup es, k1, k2 => by
    unfold pyOk at k1 k2
    have := eqv_iffL k1 k2
    simp only [toPy, PyData.eqv, D.tup.injEq]
    exact this
  | .non, .int _, _, _ => by simp [toPy, PyData.eqv]
  | .non, .str _, _, _ => by simp [toPy, PyData.eqv]
  | .non, .tup _, _, _ => by simp [toPy, PyData.eqv]
  | .int _, .non, _, _ => by simp [toPy, PyData.eqv]
  | .int _, .str _, _, _ => by simp [toPy, PyData.eqv]
  | .int _, .tup _, _, _ => by simp [toPy, PyData.eqv]
  | .str _, .non, _, _ => by simp [toPy, PyData.eqv]
  | .str _, .int _, _, _ => by simp [toPy, PyData.eqv]
  | .str _, .tup _, _, _ => by simp [toPy, PyData.eqv]
  | .tup _, .non, _, _ => by simp [toPy, PyData.eqv]
  | .tup _, .int _, _, _ => by simp [toPy, PyData.eqv]
  | .tup _, .str _, _, _ => by simp [toPy, PyData.eqv]
  | .bl _, _, k, _ => by unfold pyOk at k; cases k
  | .loc _, _, k, _ => by unfold pyOk at k; cases k
  | .ro _, _, k, _ => by unfold pyOk at k; cases k
  | .exn _, _, k, _ => by unfold pyOk at k; cases k
  | _, .bl _, _, k => by unfold pyOk at k; cases k
  | _, .loc _, _, k => by unfold pyOk at k; cases k
  | _, .ro _, _, k => by unfold pyOk at k; cases k
  | _, .exn _, _, k => by unfold pyOk at k; cases k
theorem eqv_iffL : ∀ {ds es : List D}, pyOkL ds = true → pyOkL es = true → (PyData.eqvAll (toPyL ds) (toPyL es) = true ↔ ds = es)
  | [], [], _, _ => by simp [toPyL, PyData.eqvAll]
  | [], _ :: _, _, _ => by simp [toPyL, PyData.eqvAll]
  | _ :: _, [], _, _ => by simp [toPyL, PyData.eqvAll]
  | d :: ds, e :: es, k1, k2 => by
    unfold pyOkL at k1 k2
    obtain ⟨a1, a2⟩ := Bool.and_eq_true_iff.mp k1
    obtain ⟨b1, b2⟩ := Bool.and_eq_true_iff.mp k2
    show (PyData.eqv (toPy d) (toPy e) && PyData.eqvAll (toPyL ds) (toPyL es)) = true ↔ _
    rw [Bool.and_eq_true_iff, eqv_iff a1 b1, eqv_iffL a2 b2, List.cons.injEq]
end
mutual
def pyW (φ : Nat → Option PyData) : D → Option PyData
  | .non => some .none
  | .bl b => some (.bool b)
  | .int i => some (.int i)
  | .str s => some (.str s)
  | .tup ds => (pyWL φ ds).map .tuple
  | .loc l => φ l
  | .ro ns => some (.list (ns.map .int))
  | .exn _ => none
def pyWL (φ : Nat → Option PyData) : List D → Option (List PyData)
  | [] => some []
  | d :: ds => (pyW φ d).bind fun p => (pyWL φ ds).map fun ps => p :: ps
end
def pyLoc : Nat → Hs → Nat → Option PyData
  | 0, _, _ => none
  | n + 1, h, l => match h[l]? with
    | some (.lst ds) => (pyWL (pyLoc n h) ds).map .list
    | _ => none
def pyH (h : Hs) (d : D) : Option PyData := pyW (pyLoc 4 h) d
section
variable {K : PySem.W.Frag} {m : List Addr} {H : Hp}
theorem dp_ints : ∀ ns : List Int, DpAll K H (ns.map V.int) (ns.map .int)
  | [] => .nil
  | n :: ns => .cons (.int n) (dp_ints ns)
mutual
theorem pyW_dp {φ : Nat → Option PyData} (hφ : ∀ l p v, φ l = some p → RepV K m H (.loc l) v → Dp K H v p) : ∀ {d : D} {v : V} {p : PyData}, pyW φ d = some p → RepV K m H d v → Dp K H v p
  | .non, _, _, e, r => by unfold RepV at r; subst r; cases e; exact .non
  | .bl b, _, _, e, r => by unfold RepV at r; subst r; cases e; exact .bl b
  | .int i, _, _, e, r => by unfold RepV at r; subst r; cases e; exact .int i
  | .str s, _, _, e, r => by unfold RepV at r; subst r; cases e; exact .str s
  | .tup ds, _, _, e, r => by
    unfold RepV at r
    obtain ⟨a, xs, rfl, ha, rl⟩ := r
    unfold pyW at e
    cases q : pyWL φ ds with
    | none => rw [q] at e; cases e
    | some ps => rw [q] at e; cases e; exact .tup (SqT.of ha) (pyWL_dp hφ q rl)
  | .loc l, _, _, e, r => hφ _ _ _ (by unfold pyW at e; exact e) r
  | .ro ns, _, _, e, r => by
    unfold RepV at r
    obtain ⟨a, rfl, q⟩ := r
    cases e
    exact .lst q.sq (dp_ints ns)
  | .exn _, _, _, e, _ => by cases e
theorem pyWL_dp {φ : Nat → Option PyData} (hφ : ∀ l p v, φ l = some p → RepV K m H (.loc l) v → Dp K H v p) : ∀ {ds : List D} {vs : List V} {ps : List PyData}, pyWL φ ds = some ps → RepL K m H ds vs → DpAll K H vs ps
  | [], _, _, e, r => by unfold RepL at r; subst r; cases e; exact .nil
  | d :: ds, _, _, e, r => by
    unfold RepL at r
    obtain ⟨x, xs, rfl, r1, r2⟩ := r
    unfold pyWL at e
    cases q1 : pyW φ d with
    | none => rw [q1] at e; cases e
    | some p =>
      cases q2 : pyWL φ ds with
      | none => rw [q1, q2] at e; cases e
      | some ps => rw [q1, q2] at e; cases e; exact .cons (pyW_dp hφ q1 r1) (pyWL_dp hφ q2 r2)
end
theorem pyLoc_dp {h : Hs} (rh : RepH K m H h) : ∀ (n l : Nat) (p : PyData) (v : V), pyLoc n h l = some p → RepV K m H (.loc l) v → Dp K H v p
  | 0, _, _, _, e, _ => by cases e
  | n + 1, l, p, v, e, r => by
    unfold RepV at r
    obtain ⟨a, ha, rfl⟩ := r
    unfold pyLoc at e
    cases q : h[l]? with
    | none => rw [q] at e; cases e
    | some o =>
      rw [q] at e
      cases o with
      | lst ds =>
        simp only at e
        obtain ⟨vs, hv, rl⟩ := rh.lst ha q
        cases q2 : pyWL (pyLoc n h) ds with
        | none => rw [q2] at e; cases e
        | some ps => rw [q2] at e; cases e; exact .lst (SqL.of hv) (pyWL_dp (fun l p v => pyLoc_dp rh n l p v) q2 rl)
      | _ => cases e
theorem pyH_dp {h : Hs} (rh : RepH K m H h) {d : D} {v : V} {p : PyData} (e : pyH h d = some p) (r : RepV K m H d v) : Dp K H v p := pyW_dp (fun l p v => pyLoc_dp rh 4 l p v) e r
end
mutual
theorem pyW_of (φ : Nat → Option PyData) : ∀ {d : D}, pyOk d = true → pyW φ d = some (toPy d)
  | .non, _ => rfl
  | .int _, _ => rfl
  | .str _, _ => rfl
  | .tup ds, k => by
    unfold pyOk at k
    unfold pyW toPy
    rw [pyWL_of φ k]; rfl
  | .bl _, _ => rfl
  | .loc _, k => by unfold pyOk at k; cases k
  | .ro _, k => by unfold pyOk at k; cases k
  | .exn _, k => by unfold pyOk at k; cases k
theorem pyWL_of (φ : Nat → Option PyData) : ∀ {ds : List D}, pyOkL ds = true → pyWL φ ds = some (toPyL ds)
  | [], _ => rfl
  | d :: ds, k => by
    unfold pyOkL at k
    obtain ⟨a, b⟩ := Bool.and_eq_true_iff.mp k
    unfold pyWL toPyL
    rw [pyW_of φ a, pyWL_of φ b]; rfl
end
/-- two lists of different lengths -/
def lenNe (d e : D) (h : Hs) : Bool := match d, e with
  | .loc a, .loc b => (match h[a]?, h[b]? with
    | some (.lst xs), some (.lst ys) => decide (xs.length ≠ ys.length)
    | _, _ => false)
  | _, _ => false
/-- d == e, where it is told -/
noncomputable def eqB (d e : D) (h : Hs) : Option Bool := if lenNe d e h = true then some false else match pyH h d, pyH h e with
  | some p, some q => if p.canLay0 = true ∧ q.canLay0 = true ∧ p.depth ≤ 190 then some (PyData.eqv p q) else none
  | _, _ => none
noncomputable def eqF : VF2 := fun d e h => (eqB d e h).map fun b => (.bl b, h)
noncomputable def neF : VF2 := fun d e h => (eqB d e h).map fun b => (.bl (!b), h)
section
variable {X : Cx}
theorem decide_iff {p : Prop} {b : Bool} (h : b = true ↔ p) : b = @decide p (Classical.propDecidable p) := by
  letI := Classical.propDecidable p
  by_cases hp : p
  · rw [decide_eq_true hp, h.mpr hp]
  · rw [decide_eq_false hp]
    cases b with
    | true => exact absurd (h.mp rfl) hp
    | false => rfl
/-- both comparisons at once -/
theorem eq_core {pns : List (Addr × Obj)} {s : Shared} {σ : St} {H : Hp} {x y : V} {v u : Value} {m : List Addr} {hs : Hs} {dx dy : D} {b : Bool} (hu : X.A.units + 195 < cLine) (I : Inv X pns σ H s) (rx : RelV x v) (ry : RelV y u) (r1 : RepV X.K m H dx x) (r2 : RepV X.K m H dy y)
    (rh : RepH X.K m H hs) (e : eqB dx dy hs = some b) {Q : Value → Shared → Prop} {Q' : Value → Shared → Prop} {E : Value → Shared → Prop} (q : Q (.bool b) s) (q' : Q' (.bool (!b)) s) :
    wpAny (model X.prog X.w) X.A (compareOp .Eq v u) Q E s ∧ wpAny (model X.prog X.w) X.A (compareOp .NotEq v u) Q' E s := by
  unfold eqB at e
  split at e
  · rename_i c
    cases e
    unfold lenNe at c
    split at c
    · rename_i i j
      unfold RepV at r1 r2
      obtain ⟨a, ha, rfl⟩ := r1
      obtain ⟨c2, hc, rfl⟩ := r2
      split at c
      · rename_i xs ys e1 e2
        have hne := of_decide_eq_true c
        obtain ⟨vs, hv, rl⟩ := rh.lst ha e1
        obtain ⟨ws, hw, rl2⟩ := rh.lst hc e2
        cases rx; cases ry
        obtain ⟨its, r, pl, z⟩ := I.list (SqL.of hv)
        obtain ⟨its2, r2, pl2, z2⟩ := I.list (SqL.of hw)
        have hsz : (its.toArray.size != its2.toArray.size) = true := by
          have l1 := rl.length
          have l2 := rl2.length
          have l3 := r.length
          have l4 := r2.length
          simp only [List.size_toArray, bne_iff_ne, ne_eq]
          omega
        exact ⟨SeqAt.eq_list_lengthsAt pl.isList pl2.isList hsz (by omega) q, SeqAt.RcNeAt.lists_lengths pl.isList pl2.isList hsz (by omega) _ _ _ _ q'⟩
      · cases c
    · cases c
  · split at e
    · rename_i p p' e1 e2
      split at e
      · rename_i c
        obtain ⟨c1, c2, c3⟩ := c
        obtain ⟨as, q1⟩ := Dp.reads I _ x v (pyH_dp rh e1 r1) rx
        obtain ⟨bs, q2⟩ := Dp.reads I _ y u (pyH_dp rh e2 r2) ry
        have room : X.A.units + min p.depth p'.depth < cLine := by
          have : min p.depth p'.depth ≤ p.depth := Nat.min_le_left _ _
          omega
        have e3 : PyData.eqv p p' = b := Option.some.inj e
        exact ⟨SeqAt.compareEq_reads q1 q2 c1 c2 room (by rw [e3]; exact q), SeqAt.compareNe_reads q1 q2 c1 c2 room (by rw [e3]; exact q')⟩
      · cases e
    · cases e
theorem o_eq (hu : X.A.units + 195 < cLine) : OpR X (compareOp .Eq) (rV X.K eqF) := by
  intro pns s σ H x y v u Q I rx ry h
  obtain ⟨m, hs, dx, dy, r1, r2, rh, o⟩ := h
  unfold eqF at o
  cases e : eqB dx dy hs with
  | none => rw [e] at o; exact o.elim
  | some b =>
    rw [e] at o
    exact (eq_core (E := X.xe) (Q' := fun _ _ => True) hu I rx ry r1 r2 rh e ⟨.bl b, H, I, rfl, o _ m H (.refl _ _) (by unfold RepV; rfl) rh⟩ trivial).1
theorem o_ne (hu : X.A.units + 195 < cLine) : OpR X (compareOp .NotEq) (rV X.K neF) := by
  intro pns s σ H x y v u Q I rx ry h
  obtain ⟨m, hs, dx, dy, r1, r2, rh, o⟩ := h
  unfold neF at o
  cases e : eqB dx dy hs with
  | none => rw [e] at o; exact o.elim
  | some b =>
    rw [e] at o
    exact (eq_core (E := X.xe) (Q := fun _ _ => True) hu I rx ry r1 r2 rh e trivial ⟨.bl (!b), H, I, rfl, o _ m H (.refl _ _) (by unfold RepV; rfl) rh⟩).2
end
open Classical in
theorem eqB_of {d e : D} {h : Hs} (a : pyOk d = true) (b : pyOk e = true) (z : depD d ≤ 190) : eqB d e h = some (decide (d = e)) := by
  have n : lenNe d e h = false := by
    unfold lenNe
    split
    · unfold pyOk at a; cases a
    · rfl
  have e1 : pyH h d = some (toPy d) := pyW_of _ a
  have e2 : pyH h e = some (toPy e) := pyW_of _ b
  unfold eqB
  rw [n, if_neg Bool.false_ne_true, e1, e2]
  simp only
  rw [if_pos ⟨canLay_of a, canLay_of b, by rw [dep_toPy]; exact z⟩, decide_iff (eqv_iff a b)]
open Classical in
theorem eqB_lst {i j : Nat} {xs ys : List D} {h : Hs} (ei : h[i]? = some (.lst xs)) (ej : h[j]? = some (.lst ys)) (a : pyOkL xs = true) (b : pyOkL ys = true) (z : depL xs ≤ 189) : eqB (.loc i) (.loc j) h = some (decide (xs = ys)) := by
  unfold eqB lenNe
  simp only [ei, ej]
  split
  · rename_i c
    have c := of_decide_eq_true c
    rw [decide_eq_false fun e => c (by rw [e])]
  · have e1 : pyH h (.loc i) = some (.list (toPyL xs)) := by
      unfold pyH pyW pyLoc
      simp only [ei, pyWL_of _ a]; rfl
    have e2 : pyH h (.loc j) = some (.list (toPyL ys)) := by
      unfold pyH pyW pyLoc
      simp only [ej, pyWL_of _ b]; rfl
    rw [e1, e2]
    simp only
    have d1 : (PyData.list (toPyL xs)).depth = depL xs + 1 := by
      show PyData.depthAll (toPyL xs) + 1 = _
      rw [dep_toPyL]
    rw [if_pos ⟨canLay_ofL a, canLay_ofL b, by rw [d1]; omega⟩]
    congr 1
    show PyData.eqvAll (toPyL xs) (toPyL ys) = _
    rw [decide_iff (eqv_iffL a b)]
    congr
theorem eqB_len {i j : Nat} {xs ys : List D} {h : Hs} (ei : h[i]? = some (.lst xs)) (ej : h[j]? = some (.lst ys)) (c : xs.length ≠ ys.length) : eqB (.loc i) (.loc j) h = some false := by
  unfold eqB lenNe
  simp only [ei, ej]
  rw [if_pos (decide_eq_true c)]
end DV
namespace DV
open PySem PySem.Spec PyProof.Rows L2
section
variable {K : PySem.W.Frag} {m : List Addr} {H : Hp}
theorem RepL.at_ {ds : List D} {vs : List V} {i : Int} {d : D} (r : RepL K m H ds vs) (e : atI ds i = some d) : ∃ v, atI vs i = some v ∧ RepV K m H d v := by
  unfold atI at e ⊢
  rw [r.length]
  cases q : ixN ds.length i with
  | none => rw [q] at e; cases e
  | some j =>
    rw [q] at e
    obtain ⟨v, hv, rv⟩ := r.get e
    exact ⟨v, hv, rv⟩
end
def valD {κ : Type} [DecidableEq κ] (kvs : List (κ × D)) (k : κ) : Option D := (kvs.find? fun p => decide (p.1 = k)).map (·.2)
def putD {κ : Type} [DecidableEq κ] (kvs : List (κ × D)) (k : κ) (v : D) : List (κ × D) := if (kvs.any fun p => decide (p.1 = k)) = true then kvs.map (fun p => if p.1 = k then (p.1, v) else p) else kvs ++ [(k, v)]
theorem kV_keyD {K : PySem.W.Frag} {m : List Addr} {H : Hp} {d : D} {v : V} {k : Key} (r : RepV K m H d v) (e : keyD d = some k) : v = kV k := by
  cases d with
  | int i => cases e; unfold RepV at r; exact r
  | str i => cases e; unfold RepV at r; exact r
  | _ => cases e
def keysD : List D → Option (List Key)
  | [] => some []
  | d :: ds => (keyD d).bind fun k => (keysD ds).map fun ks => k :: ks
theorem kV_keysD {K : PySem.W.Frag} {m : List Addr} {H : Hp} : ∀ {ds : List D} {vs : List V} {ks : List Key}, RepL K m H ds vs → keysD ds = some ks → vs = ks.map kV
  | [], vs, ks, r, e => by cases e; unfold RepL at r; exact r
  | d :: ds, vs, ks, r, e => by
    unfold RepL at r
    obtain ⟨x, xs, rfl, h1, h2⟩ := r
    unfold keysD at e
    cases q : keyD d with
    | none => rw [q] at e; cases e
    | some k =>
      cases q2 : keysD ds with
      | none => rw [q, q2] at e; cases e
      | some ks2 =>
        rw [q, q2] at e
        cases e
        rw [kV_keyD h1 q, kV_keysD h2 q2]
        rfl
section
variable {κ : Type} [DecidableEq κ] {K : PySem.W.Frag} {m : List Addr} {H : Hp}
theorem valD_rep (k : κ) : ∀ {kvs : List (κ × D)} {ks : List (κ × V)}, kvs.map (·.1) = ks.map (·.1) → RepL K m H (kvs.map (·.2)) (ks.map (·.2)) →
    (valD kvs k = none ∧ valV ks k = none) ∨ ∃ d v, valD kvs k = some d ∧ valV ks k = some v ∧ RepV K m H d v
  | [], [], _, _ => .inl ⟨rfl, rfl⟩
  | [], _ :: _, e, _ => by cases e
  | _ :: _, [], e, _ => by cases e
  | (k1, d) :: kvs, (k2, v) :: ks, e, r => by
    simp only [List.map_cons, List.cons.injEq] at e
    obtain ⟨e1, e2⟩ := e
    subst e1
    simp only [List.map_cons] at r
    unfold RepL at r
    obtain ⟨x, xs, q, h1, h2⟩ := r
    injection q with q1 q2
    subst q1 q2
    by_cases c : k1 = k
    · subst c
      exact .inr ⟨d, v, by simp [valD], by simp [valV], h1⟩
    · rcases valD_rep k e2 h2 with ⟨a, b⟩ | ⟨d', v', a, b, w⟩
      · exact .inl ⟨by unfold valD at a ⊢; rw [List.find?_cons]; simp [c]; simpa using a, by unfold valV at b ⊢; rw [List.find?_cons]; simp [c]; simpa using b⟩
      · exact .inr ⟨d', v', by unfold valD at a ⊢; rw [List.find?_cons]; simpa [c] using a, by unfold valV at b ⊢; rw [List.find?_cons]; simpa [c] using b, w⟩
theorem any_rep (k : κ) : ∀ {kvs : List (κ × D)} {ks : List (κ × V)}, kvs.map (·.1) = ks.map (·.1) → (kvs.any fun p => decide (p.1 = k)) = ks.any fun p => decide (p.1 = k)
  | [], [], _ => rfl
  | [], _ :: _, e => by cases e
  | _ :: _, [], e => by cases e
  | (k1, d) :: kvs, (k2, v) :: ks, e => by
    simp only [List.map_cons, List.cons.injEq] at e
    obtain ⟨e1, e2⟩ := e
    subst e1
    rw [List.any_cons, List.any_cons, any_rep k e2]
theorem over_rep (k : κ) {d : D} {v : V} (rv : RepV K m H d v) : ∀ {kvs : List (κ × D)} {ks : List (κ × V)}, kvs.map (·.1) = ks.map (·.1) → RepL K m H (kvs.map (·.2)) (ks.map (·.2)) →
    (kvs.map (fun p => if p.1 = k then (p.1, d) else p)).map (·.1) = (ks.map (fun p => if p.1 = k then (p.1, v) else p)).map (·.1) ∧ RepL K m H ((kvs.map (fun p => if p.1 = k then (p.1, d) else p)).map (·.2)) ((ks.map (fun p => if p.1 = k then (p.1, v) else p)).map (·.2))
  | [], [], _, _ => ⟨rfl, RepL.nil⟩
  | [], _ :: _, e, _ => by cases e
  | _ :: _, [], e, _ => by cases e
  | (k1, d1) :: kvs, (k2, v1) :: ks, e, r => by
    simp only [List.map_cons, List.cons.injEq] at e
    obtain ⟨e1, e2⟩ := e
    subst e1
    simp only [List.map_cons] at r
    unfold RepL at r
    obtain ⟨x, xs, q, h1, h2⟩ := r
    injection q with q1 q2
    subst q1 q2
    obtain ⟨a, b⟩ := over_rep k rv e2 h2
    by_cases c : k1 = k
    · simp only [List.map_cons, c, if_true]
      exact ⟨by rw [a], .cons rv b⟩
    · simp only [List.map_cons, c, if_false]
      exact ⟨by rw [a], .cons h1 b⟩
theorem put_rep (k : κ) {d : D} {v : V} (rv : RepV K m H d v) {kvs : List (κ × D)} {ks : List (κ × V)} (e : kvs.map (·.1) = ks.map (·.1)) (r : RepL K m H (kvs.map (·.2)) (ks.map (·.2))) :
    (putD kvs k d).map (·.1) = (putK ks k v).map (·.1) ∧ RepL K m H ((putD kvs k d).map (·.2)) ((putK ks k v).map (·.2)) := by
  unfold putD putK
  rw [any_rep k e]
  split
  · exact over_rep k rv e r
  · refine ⟨by rw [List.map_append, List.map_append, e]; rfl, ?_⟩
    rw [List.map_append, List.map_append]
    exact r.append (.cons rv .nil)
end
def ixF : VF2
  | .loc l, k, h => match h[l]? with
    | some (.lst ds) => (match k with
      | .int i => (atI ds i).map fun d => (d, h)
      | _ => none)
    | some (.dct kvs) => (keyD k).bind fun k => (valD kvs k).map fun d => (d, h)
    | some (.fdc kvs) => (keyD k).bind fun k => (valD kvs k).map fun d => (d, h)
    | some (.dcT kvs) => (match k with
      | .tup ks => (keysD ks).bind fun k => (valD kvs k).map fun d => (d, h)
      | _ => none)
    | _ => none
  | .ro ns, .int i, h => (atI ns i).map fun n => (.int n, h)
  | .tup ds, .int i, h => (atI ds i).map fun d => (d, h)
  | .str z, .int i, h => if z.length ≤ LIM then (atI z.cps.toList i).map fun c => (.str ⟨#[c]⟩, h) else none
  | _, _, _ => none
theorem atI_map {α β : Type} (f : α → β) (xs : List α) (i : Int) : atI (xs.map f) i = (atI xs i).map f := by
  unfold atI
  rw [List.length_map]
  cases ixN xs.length i with
  | none => rfl
  | some j => simp
section
variable {X : Cx}
theorem o_ix (hu : X.A.units + 1 < cLine) : IxR X (rV X.K ixF) := by
  intro value slice pns s σ H x y v u Q I rx ry h hsl
  obtain ⟨m, hs, dx, dy, r1, r2, rh, o⟩ := h
  unfold ixF at o
  split at o
  · unfold RepV at r1
    obtain ⟨a, ha, rfl⟩ := r1
    have got : ∀ {d : D} {w : V}, OutV X.K m H Q (some (d, hs)) → RepV X.K m H d w → DGet H a y (some w) → wpAny (model X.prog X.w) X.A (subscriptTail value slice v u) (EP X pns σ Q) X.xe s := fun o' rw' g => by
      cases rx
      exact tail_any (dict_typeIs I g) PySem.F.slot_dict_getitem.lookup (d_getItem hu I g ry fun w2 s2 I2 r2' => ⟨_, H, I2, r2', OutV.keep o' rw' rh⟩) hsl
    split at o
    · rename_i ds e1
      obtain ⟨vs, hv, rl⟩ := rh.lst ha e1
      split at o
      · unfold RepV at r2
        subst r2
        cases q : atI ds _ with
        | none => rw [q] at o; exact o.elim
        | some d =>
          rw [q] at o
          obtain ⟨w, hw, rw'⟩ := rl.at_ q
          exact ix_list value slice pns s σ H _ _ v u Q I rx ry ⟨a, vs, _, w, rfl, rfl, SqL.of hv, hw, OutV.keep o rw' rh⟩ hsl
      · exact o.elim
    · rename_i kvs e1
      obtain ⟨ks, hk, kk, rk⟩ := rh.at_ _ a _ ha e1
      cases q : keyD dy with
      | none => rw [q] at o; exact o.elim
      | some k =>
        rw [q, Option.bind_some] at o
        have ey := kV_keyD r2 q
        subst ey
        rcases valD_rep k kk rk with ⟨z, _⟩ | ⟨d, w, z, z2, rw'⟩
        · rw [z] at o; exact o.elim
        · rw [z] at o
          refine got o rw' ?_
          rw [← z2]
          exact DGet.k hk
    · rename_i kvs e1
      obtain ⟨ob, ks, hk, kk, rk⟩ := rh.at_ _ a _ ha e1
      cases q : keyD dy with
      | none => rw [q] at o; exact o.elim
      | some k =>
        rw [q, Option.bind_some] at o
        have ey := kV_keyD r2 q
        subst ey
        rcases valD_rep k kk rk with ⟨z, _⟩ | ⟨d, w, z, z2, rw'⟩
        · rw [z] at o; exact o.elim
        · rw [z] at o
          refine got o rw' ?_
          rw [← z2]
          exact .inl ⟨ks, k, .inr ⟨ob, hk⟩, rfl, rfl⟩
    · rename_i kvs e1
      obtain ⟨ks, hk, kk, rk⟩ := rh.at_ _ a _ ha e1
      split at o
      · rename_i kd
        cases q : keysD kd with
        | none => rw [q] at o; exact o.elim
        | some k =>
          rw [q, Option.bind_some] at o
          unfold RepV at r2
          obtain ⟨b, xs, rfl, hb, rl⟩ := r2
          have ey := kV_keysD rl q
          subst ey
          rcases valD_rep k kk rk with ⟨z, _⟩ | ⟨d, w, z, z2, rw'⟩
          · rw [z] at o; exact o.elim
          · rw [z] at o
            refine got o rw' ?_
            rw [← z2]
            exact DGet.t hk hb
      · exact o.elim
    · exact o.elim
  · unfold RepV at r1 r2
    obtain ⟨a, rfl, ha⟩ := r1
    subst r2
    rename_i ns i
    cases q : atI ns i with
    | none => rw [q] at o; exact o.elim
    | some n =>
      rw [q] at o
      exact ix_list value slice pns s σ H _ _ v u Q I rx ry ⟨a, _, i, .int n, rfl, rfl, ha.sq, by rw [atI_map, q]; rfl, OutV.keep o (by unfold RepV; rfl) rh⟩ hsl
  · unfold RepV at r1 r2
    obtain ⟨a, vs, rfl, ha, rl⟩ := r1
    subst r2
    rename_i ds i
    cases q : atI ds i with
    | none => rw [q] at o; exact o.elim
    | some d =>
      rw [q] at o
      obtain ⟨w, hw, rw'⟩ := rl.at_ q
      exact ix_tup value slice pns s σ H _ _ v u Q I rx ry ⟨a, vs, _, w, rfl, rfl, SqT.of ha, hw, OutV.keep o rw' rh⟩ hsl
  · unfold RepV at r1 r2
    subst r1 r2
    rename_i z i
    split at o
    · rename_i hz
      cases q : atI z.cps.toList i with
      | none => rw [q] at o; exact o.elim
      | some c =>
        rw [q] at o
        exact ix_str value slice pns s σ H _ _ v u Q I rx ry ⟨z, i, c, rfl, rfl, by rw [LIM_eq]; exact hz, q, OutV.keep o (by unfold RepV; rfl) rh⟩ hsl
    · exact o.elim
  · exact o.elim
end
abbrev OM := Sl → Hs → R (Option Int)
def noP : OM := fun _ h => .ok none h
def someP (A : EM) : OM := fun ds h => (A ds h).bind fun d h => match d with
  | .int i => .ok (some i) h
  | _ => .bad
def cutL {α : Type} (xs : List α) (lo hi : Option Int) : List α := (xs.drop (HT.sIx xs.length 0 lo)).take (HT.sIx xs.length xs.length hi - HT.sIx xs.length 0 lo)
def slF (d : D) (lo hi : Option Int) (h : Hs) : Res := match d with
  | .loc l => match h[l]? with
    | some (.lst ds) => some (.loc h.length, h ++ [.lst (cutL ds lo hi)])
    | _ => none
  | .ro ns => some (.loc h.length, h ++ [.lst ((cutL ns lo hi).map D.int)])
  | .tup ds => some (.tup (cutL ds lo hi), h)
  | .str z => if z.length ≤ LIM then some (.str (cutS z lo hi), h) else none
  | _ => none
def slM (A : EM) (lo hi : OM) : EM := fun ds h => (A ds h).bind fun d h => (lo ds h).bind fun l h => (hi ds h).bind fun u h => .ofO (slF d l u h)
def OutP (g : Cfg) (m : List Addr) (H : Hp) (σ : St) (Q : Option Int → Hp → Prop) : R (Option Int) → Prop
  | .ok o h' => ∀ m' H', Grow m H m' H' → RepH g.K m' H' h' → Q o H'
  | .exc c h' => ∀ m' H', Grow m H m' H' → RepH g.K m' H' h' → g.W (.ref (He.ga g.K c)) none σ H'
  | .bad => False
def tP (g : Cfg) (M : OM) : TO := fun σ H Q => ∃ m ds h, RepS g.K m H ds σ ∧ RepH g.K m H h ∧ OutP g m H σ Q (M ds h)
theorem OutP.toE {g : Cfg} {m : List Addr} {H : Hp} {σ : St} {Q : VK} {Q' : Option Int → Hp → Prop} {r : R (Option Int)} {k : Option Int → Hs → R D} (o : OutE g m H σ Q (r.bind k))
    (f : ∀ b h' m' H', Grow m H m' H' → RepH g.K m' H' h' → OutE g m' H' σ Q (k b h') → Q' b H') : OutP g m H σ Q' r := by
  cases r with
  | ok d h => exact fun m' H' w rh => f d h m' H' w rh (OutE.mono o w)
  | exc c h => exact o
  | bad => exact o
theorem PO.weak {X : Cx} {e : Option Expr} {t t' : TO} (p : PO X e t) (w : ∀ σ H Q, t' σ H Q → t σ H Q) : PO X e t' := ⟨fun pns s σ H Q I h => p.run pns s σ H Q I (w σ H Q h)⟩
section
variable {X : Cx} {g : Cfg} {e : Expr} {lo hi : Option Expr} {A : EM} {L U : OM} {pos p2 : Pos}
theorem pm_no : PO X none (tP g noP) := PO.weak po_none fun σ H Q ⟨m, ds, h, hs, rh, o⟩ => o m H (.refl _ _) rh
theorem pm_some (ha : PE X e (tM g A)) : PO X (some e) (tP g (someP A)) := by
  refine PO.weak (po_some ha) fun σ H Q ⟨m, ds, h, hs, rh, o⟩ => ⟨m, ds, h, hs, rh, ?_⟩
  unfold someP at o
  cases q : A ds h with
  | ok d h1 =>
    rw [q, R.bind_ok] at o
    intro v m1 H1 g1 r1 rh1
    cases d with
    | int i => unfold RepV at r1; exact ⟨i, r1, o m1 H1 g1 rh1⟩
    | _ => exact (show False from o).elim
  | exc c h1 => rw [q] at o; exact o
  | bad => rw [q] at o; exact o
theorem cutL_map {α β : Type} (f : α → β) (xs : List α) (lo hi : Option Int) : cutL (xs.map f) lo hi = (cutL xs lo hi).map f := by
  unfold cutL
  rw [List.length_map, List.map_take, List.map_drop]
theorem RepL.cut {K : PySem.W.Frag} {m : List Addr} {H : Hp} {ds : List D} {vs : List V} (r : RepL K m H ds vs) (lo hi : Option Int) : RepL K m H (cutL ds lo hi) (cutV vs lo hi) := by
  unfold cutL cutV
  rw [r.length]
  exact (r.drop _).take _
theorem em_slice (hK : X.K = g.K) (ha : PE X e (tM g A)) (hl : PO X lo (tP g L)) (hu : PO X hi (tP g U)) : PE X (.Subscript e (.Slice lo hi none p2) pos) (tM g (slM A L U)) := by
  have hr : SlR X (fun x lo hi H Q => (rSlL X.K x lo hi H Q ∨ rSlA X.K x lo hi H Q) ∨ rSlS x lo hi H Q) := (sl_list.or sl_tupA).or sl_str
  refine PE.weak (pe_slice hr ha hl hu) fun σ H Q ⟨m, ds, h, hs, rh, o⟩ => ⟨m, ds, h, hs, rh, OutE.toE o fun d h1 v m1 H1 g1 r1 rh1 o1 => ?_⟩
  refine ⟨m1, ds, h1, hs.mono g1, rh1, OutP.toE o1 fun l h2 m2 H2 g2 rh2 o2 => ?_⟩
  refine ⟨m2, ds, h2, (hs.mono g1).mono g2, rh2, OutP.toE o2 fun u h3 m3 H3 g3 rh3 o3 => ?_⟩
  have r3 := r1.mono (g2.trans g3)
  have o3 : OutV g.K m3 H3 Q (slF d l u h3) := .of o3
  rw [hK]
  unfold slF at o3
  split at o3
  · unfold RepV at r3
    obtain ⟨a, hq, rfl⟩ := r3
    split at o3
    · rename_i xs e1
      obtain ⟨vs, hv, rl⟩ := rh3.lst hq e1
      exact .inl (.inl ⟨a, vs, rfl, SqL.of hv, fun p hp => new_lst' (rl.cut _ _) rh3 hp o3⟩)
    · exact o3.elim
  · unfold RepV at r3
    obtain ⟨a, rfl, hq⟩ := r3
    rename_i ns _
    refine .inl (.inl ⟨a, _, rfl, hq.sq, fun p hp => new_lst' ?_ rh3 hp o3⟩)
    have := (repL_ints (K := g.K) (m := m3) (H := H3) ns).cut l u
    rwa [cutL_map] at this
  · unfold RepV at r3
    obtain ⟨a, vs, rfl, hq, rl⟩ := r3
    rename_i xs _
    refine .inl (.inr ⟨a, vs, rfl, SqT.of hq, fun hw => ?_, fun _ p hp => ?_⟩)
    · have e : cutL xs l u = xs := by
        have hl := rl.length
        rw [hl] at hw
        unfold cutL
        rw [hw.1, hw.2, List.drop_zero, Nat.sub_zero, List.take_length]
      rw [e] at o3
      exact o3 _ m3 H3 (.refl _ _) (by unfold RepV; exact ⟨a, vs, rfl, hq, rl⟩) rh3
    · exact o3 _ m3 _ (.put hp) (by unfold RepV; exact ⟨p, _, rfl, upd_same, (rl.cut _ _).mono (.put hp)⟩) (rh3.put hp)
  · unfold RepV at r3
    subst r3
    split at o3
    · rename_i hz
      exact .inr ⟨_, rfl, by rw [LIM_eq]; exact hz, OutV.keep o3 (by unfold RepV; rfl) rh3⟩
    · exact o3.elim
  · exact o3.elim
end
def lenF : List D → Hs → Res
  | [.loc l], h => match h[l]? with
    | some (.lst ds) => some (.int ds.length, h)
    | some (.dct kvs) => some (.int kvs.length, h)
    | some (.fdc kvs) => some (.int kvs.length, h)
    | _ => none
  | [.ro ns], h => some (.int ns.length, h)
  | [.tup ds], h => some (.int ds.length, h)
  | [.str z], h => if z.length ≤ LIM then some (.int z.length, h) else none
  | _, _ => none
def intT : List D → Hs → Res
  | [.int i], h => some (.int i, h)
  | [.bl b], h => some (.int (if b then 1 else 0), h)
  | _, _ => none
def tupT : List D → Hs → Res
  | [.loc l], h => match h[l]? with
    | some (.lst ds) => some (.tup ds, h)
    | _ => none
  | [.tup ds], h => some (.tup ds, h)
  | _, _ => none
def intsOf : List D → Option (List Int)
  | [] => some []
  | .int i :: r => (intsOf r).map fun ns => i :: ns
  | _ => none
@[simp] theorem intsOf_map (ns : List Int) : intsOf (ns.map D.int) = some ns := by
  induction ns with
  | nil => rfl
  | cons n ns ih => rw [List.map_cons]; unfold intsOf; rw [ih]; rfl
def maxI (x : Int) (xs : List Int) : Int := xs.foldl (fun a y => if a < y then y else a) x
def min2F : List D → Hs → Res
  | [.int i, .int j], h => some (.int (if j < i then j else i), h)
  | _, _ => none
section
variable {X : Cx}
theorem c_len : CallR X (.builtin "len") (rC X.K lenF) := by
  intro pns s σ H vs us Q I rl h
  obtain ⟨m, hs, ds, r, rh, o⟩ := h
  unfold lenF at o
  split at o
  · obtain ⟨x, rfl, r1⟩ := repL1 r
    unfold RepV at r1
    obtain ⟨a, ha, rfl⟩ := r1
    split at o
    · rename_i xs e1
      obtain ⟨vs, hv, rl2⟩ := rh.lst ha e1
      exact call_len pns s σ H _ us Q I rl ⟨_, _, rfl, .inl ⟨vs, SqL.of hv, rl2.length.symm⟩, OutV.keep o (by unfold RepV; rfl) rh⟩
    · rename_i kvs e1
      obtain ⟨ks, hk, kk, rk⟩ := rh.at_ _ a _ ha e1
      obtain ⟨u, rfl, ru⟩ := vals1 rl
      cases ru
      refine d_len I (.inl hk) fun t s' I' => ⟨.int ks.length, H, I', ⟨t, rfl⟩, ?_⟩
      have e : ks.length = kvs.length := by have := congrArg List.length kk; simpa using this.symm
      rw [e]
      exact OutV.keep o (by unfold RepV; rfl) rh
    · rename_i kvs e1
      obtain ⟨ob, ks, hk, kk, rk⟩ := rh.at_ _ a _ ha e1
      obtain ⟨u, rfl, ru⟩ := vals1 rl
      cases ru
      refine d_len I (.inr ⟨ob, hk⟩) fun t s' I' => ⟨.int ks.length, H, I', ⟨t, rfl⟩, ?_⟩
      have e : ks.length = kvs.length := by have := congrArg List.length kk; simpa using this.symm
      rw [e]
      exact OutV.keep o (by unfold RepV; rfl) rh
    · exact o.elim
  · obtain ⟨x, rfl, r1⟩ := repL1 r
    unfold RepV at r1
    obtain ⟨a, rfl, ha⟩ := r1
    exact call_len pns s σ H _ us Q I rl ⟨_, _, rfl, .inl ⟨_, ha.sq, (List.length_map _).symm⟩, OutV.keep o (by unfold RepV; rfl) rh⟩
  · obtain ⟨x, rfl, r1⟩ := repL1 r
    unfold RepV at r1
    obtain ⟨a, xs, rfl, ha, rl2⟩ := r1
    exact call_len pns s σ H _ us Q I rl ⟨_, _, rfl, .inr ⟨xs, SqT.of ha, rl2.length.symm⟩, OutV.keep o (by unfold RepV; rfl) rh⟩
  · obtain ⟨x, rfl, r1⟩ := repL1 r
    unfold RepV at r1
    subst r1
    split at o
    · rename_i hz
      exact call_len pns s σ H _ us Q I rl ⟨_, _, rfl, ⟨by rw [LIM_eq]; exact hz, rfl⟩, OutV.keep o (by unfold RepV; rfl) rh⟩
    · exact o.elim
  · exact o.elim
theorem c_int : CallR X (.type "int") (rC X.K intT) := by
  intro pns s σ H vs us Q I rl h
  obtain ⟨m, hs, ds, r, rh, o⟩ := h
  unfold intT at o
  split at o
  · obtain ⟨x, rfl, r1⟩ := repL1 r
    unfold RepV at r1; subst r1
    exact call_int1 pns s σ H _ us Q I rl (.inl ⟨_, rfl, OutV.keep o (by unfold RepV; rfl) rh⟩)
  · obtain ⟨x, rfl, r1⟩ := repL1 r
    unfold RepV at r1; subst r1
    exact call_int1 pns s σ H _ us Q I rl (.inr ⟨_, rfl, OutV.keep o (by unfold RepV; rfl) rh⟩)
  · exact o.elim
theorem c_tuple : CallR X (.type "tuple") (rC X.K tupT) := by
  intro pns s σ H vs us Q I rl h
  obtain ⟨m, hs, ds, r, rh, o⟩ := h
  unfold tupT at o
  split at o
  · obtain ⟨x, rfl, r1⟩ := repL1 r
    unfold RepV at r1
    obtain ⟨a, ha, rfl⟩ := r1
    split at o
    · rename_i xs e1
      obtain ⟨vs, hv, rl2⟩ := rh.lst ha e1
      refine call_tuple_of pns s σ H _ us Q I rl ⟨a, vs, rfl, .inl ⟨SqL.of hv, fun p hp => ?_⟩⟩
      exact o _ m _ (.put hp) (by unfold RepV; exact ⟨p, _, rfl, upd_same, rl2.mono (.put hp)⟩) (rh.put hp)
    · exact o.elim
  · obtain ⟨x, rfl, r1⟩ := repL1 r
    have r0 := r1
    unfold RepV at r1
    obtain ⟨a, xs, rfl, ha, rl2⟩ := r1
    exact call_tuple_of pns s σ H _ us Q I rl ⟨a, xs, rfl, .inr ⟨SqT.of ha, OutV.keep o r0 rh⟩⟩
  · exact o.elim
theorem c_min2 (hc : X.calm = true) : CallR X (.builtin "min") (rC X.K min2F) := by
  intro pns s σ H vs us Q I rl h
  obtain ⟨m, hs, ds, r, rh, o⟩ := h
  unfold min2F at o
  split at o
  · obtain ⟨x, y, rfl, r1, r2⟩ := repL2 r
    unfold RepV at r1 r2; subst r1 r2
    exact call_min2 hc pns s σ H _ us Q I rl ⟨_, _, rfl, OutV.keep o (by unfold RepV; rfl) rh⟩
  · exact o.elim
end
def tyD : D → Hs → Option String
  | .non, _ => some "NoneType"
  | .bl _, _ => some "bool"
  | .int _, _ => some "int"
  | .str _, _ => some "str"
  | .tup _, _ => some "tuple"
  | .ro _, _ => some "list"
  | .exn _, _ => none
  | .loc l, h => match h[l]? with
    | some (.lst _) => some "list"
    | some (.dct _) => some "dict"
    | some (.fdc _) => some "dict"
    | _ => none
def isB (t T : String) : Bool := t == T || (t == "bool" && T == "int")
def isF (T : String) (d : D) (h : Hs) : Res := (tyD d h).map fun t => (.bl (isB t T), h)
theorem kitB_ok {t T : String} (ht : t ∈ ["NoneType", "bool", "int", "str", "tuple", "list", "dict"]) (hT : T ∈ ["bool", "int", "str", "tuple", "list", "dict"]) : kitB t T = some (isB t T) := by
  simp only [List.mem_cons, List.not_mem_nil, or_false] at ht hT
  rcases ht with rfl | rfl | rfl | rfl | rfl | rfl | rfl <;> rcases hT with rfl | rfl | rfl | rfl | rfl | rfl <;> decide +kernel
theorem tyD_mem {d : D} {h : Hs} {t : String} (e : tyD d h = some t) : t ∈ ["NoneType", "bool", "int", "str", "tuple", "list", "dict"] := by
  unfold tyD at e
  split at e
  all_goals first
    | (cases e; simp; done)
    | (cases e; done)
    | (split at e <;> first | (cases e; simp; done) | cases e)
theorem tyX_of {X : Cx} {m : List Addr} {H : Hp} {h : Hs} {d : D} {v : V} {t : String} (r : RepV X.K m H d v) (rh : RepH X.K m H h) (e : tyD d h = some t) : TyX X.K H v (.type t) := by
  unfold tyD at e
  split at e
  · cases e; unfold RepV at r; subst r; exact .base .non
  · cases e; unfold RepV at r; subst r; exact .base (.bl _)
  · cases e; unfold RepV at r; subst r; exact .base (.int _)
  · cases e; unfold RepV at r; subst r; exact .base (.str _)
  · cases e; unfold RepV at r; obtain ⟨a, xs, rfl, ha, _⟩ := r; exact .base (.tup ha)
  · cases e
    unfold RepV at r
    obtain ⟨a, rfl, ha⟩ := r
    rcases ha with ⟨o, ha⟩ | ⟨o, its, n, hk, hc, _⟩
    · exact .base (.frz ha)
    · exact .kList hk hc
  · cases e
  · unfold RepV at r
    obtain ⟨a, ha, rfl⟩ := r
    split at e
    · rename_i e1
      cases e
      obtain ⟨vs, hv, _⟩ := rh.lst ha e1
      exact .base (.lst hv)
    · rename_i e1
      cases e
      obtain ⟨ks, hk, _⟩ := rh.at_ _ a _ ha e1
      exact .base (.dK hk)
    · rename_i e1
      cases e
      obtain ⟨ob, ks, hk, _⟩ := rh.at_ _ a _ ha e1
      exact .fDict hk
    · cases e
theorem em_isi {X : Cx} {g : Cfg} {e : Expr} {A : EM} {T : String} {Tn : Str} {p p2 pos : Pos} (hK : X.K = g.K) (hT : T ∈ ["bool", "int", "str", "tuple", "list", "dict"]) (hg : Gl X "isinstance") (hm : X.mg "isinstance" = none) (hgT : Gl X Tn) (hmT : X.mg Tn = none) (hv : bootBuiltins Tn = some (.type T))
    (ha : PE X e (tM g A)) (hn : Tn ≠ "__name__" := by decide) (hd : (Tn == ("__debug__" : Str)) = false := by decide)
    (he : starEach [e, .Name Tn p2] X.env = (false, eval e X.env) :: starEach [.Name Tn p2] X.env := by rfl) (hpl : (backTo pos (starEach [.Name Tn p2] X.env)).any (·.1) = false := by rfl) : PE X (.Call (.Name "isinstance" p) [e, .Name Tn p2] [] pos) (tM g (unM (isF T) A)) := by
  refine PE.weak (pe_callB call_isi hg hm (by decide +kernel) (pa_cons ha (pa_cons (pe_bltn (v := .ty T) hgT hmT hv rfl hn hd) pa_nil) he) (by decide) (by decide) he hpl) fun σ H Q ⟨m, ds, h, hs, rh, o⟩ => ⟨m, ds, h, hs, rh, OutE.toE o fun d h1 v m1 H1 g1 r1 rh1 o1 => ?_⟩
  unfold isF at o1
  cases q : tyD d h1 with
  | none => rw [q] at o1; exact o1.elim
  | some t =>
    rw [q] at o1
    have ty : TyX X.K H1 v (.type t) := tyX_of (X := X) (by rw [hK]; exact r1) (by rw [hK]; exact rh1) q
    exact ⟨v, .ty T, .type t, .type T, isB t T, rfl, .ty T, ty, kit_ty (kitB_ok (tyD_mem q) hT), o1 _ m1 H1 (.refl _ _) (by unfold RepV; rfl) rh1⟩
end DV
namespace DV
open PySem PySem.Spec PyProof.Rows L2
noncomputable def rng3 : List D → Option (List D)
  | [.int i, .int j, .int k] => if k = -1 ∧ inR i = true ∧ inR j = true then some ((List.range (i - j).toNat).map fun (t : Nat) => .int (i - (t : Int))) else none
  | _ => none
theorem rng3_inv {xs its : List D} (h : rng3 xs = some its) : ∃ i j : Int, xs = [.int i, .int j, .int (-1)] ∧ ((-(2 ^ 62) ≤ i ∧ i < 2 ^ 62) ∧ -(2 ^ 62) ≤ j ∧ j < 2 ^ 62) ∧ its = (List.range (i - j).toNat).map fun (t : Nat) => .int (i - (t : Int)) := by
  unfold rng3 at h
  split at h
  · rename_i i j k
    split at h
    · rename_i hj
      obtain ⟨rfl, hi, hj⟩ := hj
      exact ⟨i, j, rfl, ⟨cB_iff.mp hi, cB_iff.mp hj⟩, (Option.some.inj h).symm⟩
    · cases h
  · cases h
theorem isIt_rngC {K : PySem.W.Frag} {lo : Int} {n : Nat} {m : List Addr} {H : Hp} : IsIt K (Itc lo (-1) n) ((List.range n).map fun (k : Nat) => .int (lo - (k : Int))) (fun _ => True) m H := by
  intro i m' H' h' g' rh' _
  refine ⟨fun d hd => ?_, fun hi => (show n ≤ i by simpa using hi)⟩
  rw [List.getElem?_map] at hd
  by_cases hl : i < n
  · rw [List.getElem?_range hl] at hd
    cases hd
    refine ⟨hl, fun y H2 ⟨e2, q⟩ => ?_⟩
    subst e2 q
    refine ⟨.refl _ _, ?_, rh'⟩
    unfold RepV
    have e : lo + (i : Nat) * (-1 : Int) = lo - (i : Nat) := by omega
    rw [e]
  · rw [List.getElem?_eq_none (by simpa using hl)] at hd; cases hd
theorem repL3 {K : PySem.W.Frag} {m : List Addr} {H : Hp} {d e f : D} {vs : List V} (r : RepL K m H [d, e, f] vs) : ∃ v u w, vs = [v, u, w] ∧ RepV K m H d v ∧ RepV K m H e u ∧ RepV K m H f w := by
  unfold RepL at r
  obtain ⟨x, r, rfl, h1, h2⟩ := r
  obtain ⟨u, w, rfl, h3, h4⟩ := repL2 h2
  exact ⟨x, u, w, rfl, h1, h3, h4⟩
section
variable {X : Cx} {g : Cfg} {tg e a b c : Expr} {A : EM} {pos : Pos}
theorem im_rng3 {As : AM} {p : Pos} (hg : Gl X "range") (hm : X.mg "range" = none) (ha : PA X [a, b, c] (tA g As)) (hs : starEach [a, b, c] X.env = (false, eval a X.env) :: starEach [b, c] X.env := by rfl) (hpl : (backTo pos (starEach [b, c] X.env)).any (·.1) = false := by rfl) : PI X tg (.Call (.Name "range" p) [a, b, c] [] pos) (tI g (rngI rng3 As)) := by
  refine PI.weak (pi_range3 hg hm ha hs hpl) fun σ H R ⟨m, ds, h, hs, rh, o⟩ => ⟨m, ds, h, hs, rh, OutA.toI o fun xs h1 vs m1 H1 g1 rl rh1 o1 => ?_⟩
  cases q : rng3 xs with
  | none => simp only [q] at o1; exact o1.elim
  | some its =>
    simp only [q] at o1
    obtain ⟨i, j, rfl, hj, rfl⟩ := rng3_inv q
    obtain ⟨v, u, w, rfl, r1, r2, r3⟩ := repL3 rl
    unfold RepV at r1 r2 r3
    subst r1 r2 r3
    exact ⟨i, j, -1, _, rfl, .neg hj.1.1 hj.1.2 hj.2.1 hj.2.2, o1 _ m1 H1 (.refl _ _) rh1 isIt_rngC⟩
end
/-- the receiver is of that type when it has been read -/
def mtMc (ck : D → Hs → Bool) (F : D → List D → Hs → Res) (O : EM) (As : AM) : EM := fun ds h => (O ds h).bind fun d h => if ck d h = true then (As ds h).bind fun xs h => .ofO (F d xs h) else .bad
def ckList : D → Hs → Bool
  | .loc l, h => match h[l]? with
    | some (.lst _) => true
    | _ => false
  | .ro _, _ => true
  | _, _ => false
def ckDct : D → Hs → Bool
  | .loc l, h => match h[l]? with
    | some (.dct _) => true
    | _ => false
  | _, _ => false
theorem ckList_ty {K : PySem.W.Frag} {m : List Addr} {H : Hp} {h : Hs} {d : D} {v : V} (r : RepV K m H d v) (rh : RepH K m H h) (c : ckList d h = true) : tyV K "list" v H := by
  unfold ckList at c
  split at c
  · unfold RepV at r
    obtain ⟨a, ha, rfl⟩ := r
    split at c
    · rename_i e
      obtain ⟨vs, hv, _⟩ := rh.lst ha e
      exact .inl ⟨rfl, vs, SqL.of hv⟩
    · cases c
  · unfold RepV at r
    obtain ⟨a, rfl, ha⟩ := r
    exact .inl ⟨rfl, _, ha.sq⟩
  · cases c
theorem ckDct_ty {K : PySem.W.Frag} {m : List Addr} {H : Hp} {h : Hs} {d : D} {v : V} (r : RepV K m H d v) (rh : RepH K m H h) (c : ckDct d h = true) : tyV K "dict" v H := by
  unfold ckDct at c
  split at c
  · unfold RepV at r
    obtain ⟨a, ha, rfl⟩ := r
    split at c
    · rename_i e
      obtain ⟨ks, hk, _⟩ := rh.at_ _ a _ ha e
      exact .inr (.inr (.inl ⟨rfl, .inl ⟨ks, hk⟩⟩))
    · cases c
  · cases c
/-- a method's rule by values -/
def rMt (K : PySem.W.Frag) (F : D → List D → Hs → Res) : V → List V → Hp → VK → Prop := fun x vs H Q => ∃ m h d ds, RepV K m H d x ∧ RepL K m H ds vs ∧ RepH K m H h ∧ OutV K m H Q (F d ds h)
section
variable {X : Cx} {g : Cfg} {o e : Expr} {es : List Expr} {O : EM} {As : AM} {name : Str} {apos cpos : Pos} {T id : String} {F : D → List D → Hs → Res} {ck : D → Hs → Bool}
theorem em_bm (hK : X.K = g.K) (pa : PlainAttrs T) (slot : Slot T name id) (hty : typeOf (.builtin id) = pure (.type "method_descriptor")) (hm : MtR X id (rMt g.K F))
    (hck : ∀ m H h d v, RepV g.K m H d v → RepH g.K m H h → ck d h = true → tyV g.K T v H) (ho : PE X o (tM g O)) (ha : PA X (e :: es) (tA g As))
    (hbase : attributeBase o name X.env (eval o X.env) = eval o X.env := by rfl)
    (hfew : ((backTo cpos (starEach (e :: es) X.env)).all (fun x => !x.1) && (backToKw cpos (keywordEach [] X.env)).all (fun x => x.1.isSome)
      && decide ((e :: es).length + ([] : List Keyword).length + (if ([] : List Keyword).isEmpty then 0 else 1) < 30)) = true := by rfl)
    (hline : (apos.endLine == cpos.line) = true := by rfl) (hs : starEach (e :: es) X.env = (false, eval e X.env) :: starEach es X.env := by rfl) (hplain : (backTo cpos (starEach es X.env)).any (·.1) = false := by rfl) :
    PE X (.Call (.Attribute o name apos) (e :: es) [] cpos) (tM g (mtMc ck F O As)) := by
  refine PE.weak (pe_bm pa slot hty hm ho ha hbase hfew hline hs hplain) fun σ H Q ⟨m, ds, h, hs, rh, o⟩ => ⟨m, ds, h, hs, rh, OutE.toE o fun d h1 v m1 H1 g1 r1 rh1 o1 => ?_⟩
  by_cases c : ck d h1 = true
  · rw [if_pos c] at o1
    refine ⟨by rw [hK]; exact hck m1 H1 h1 d v r1 rh1 c, m1, ds, h1, hs.mono g1, rh1, OutA.toE o1 fun xs h2 vs m2 H2 g2 rl rh2 o2 => ?_⟩
    exact ⟨m2, h2, d, xs, r1.mono g2, rl, rh2, .of o2⟩
  · rw [if_neg c] at o1; exact o1.elim
theorem em_bm0 (hK : X.K = g.K) (pa : PlainAttrs T) (slot : Slot T name id) (hty : typeOf (.builtin id) = pure (.type "method_descriptor")) (hm : MtR X id (rMt g.K F))
    (hck : ∀ m H h d v, RepV g.K m H d v → RepH g.K m H h → ck d h = true → tyV g.K T v H) (ho : PE X o (tM g O))
    (hbase : attributeBase o name X.env (eval o X.env) = eval o X.env := by rfl) (hline : (apos.endLine == cpos.line) = true := by rfl) :
    PE X (.Call (.Attribute o name apos) [] [] cpos) (tM g (mtMc ck F O nilA)) := by
  refine PE.weak (pe_bm0 pa slot hty hm ho hbase hline) fun σ H Q ⟨m, ds, h, hs, rh, o⟩ => ⟨m, ds, h, hs, rh, OutE.toE o fun d h1 v m1 H1 g1 r1 rh1 o1 => ?_⟩
  by_cases c : ck d h1 = true
  · rw [if_pos c] at o1
    exact ⟨by rw [hK]; exact hck m1 H1 h1 d v r1 rh1 c, m1, h1, d, [], r1, .nil, rh1, .of o1⟩
  · rw [if_neg c] at o1; exact o1.elim
end
def appendF : D → List D → Hs → Res
  | .loc l, [d], h => match h[l]? with
    | some (.lst ds) => if ds.length < LIM then some (.non, h.set l (.lst (ds ++ [d]))) else none
    | _ => none
  | _, _, _ => none
def popF : D → List D → Hs → Res
  | .loc l, [], h => match h[l]? with
    | some (.lst ds) => (ds[ds.length - 1]?).map fun d => (d, h.set l (.lst ds.dropLast))
    | _ => none
  | _, _, _ => none
theorem RepL.dropLast {K : PySem.W.Frag} {m : List Addr} {H : Hp} {ds : List D} {vs : List V} (r : RepL K m H ds vs) : RepL K m H ds.dropLast vs.dropLast := by
  rw [List.dropLast_eq_take, List.dropLast_eq_take, r.length]
  exact r.take _
/-- a list written -/
theorem write_lst {K : PySem.W.Frag} {m : List Addr} {H : Hp} {h : Hs} {l : Nat} {a : Addr} {xs ys : List V} {ds : List D} {Q : VK} {d : D} {v : V} (rh : RepH K m H h) (ha : m[l]? = some a) (hv : H a = some (.lst xs)) (rl : RepL K m H ds ys) (rv : RepV K m H d v)
    (o : OutV K m H Q (some (d, h.set l (.lst ds)))) : Q v (upd H a (.lst ys)) :=
  have w : Grow m H m (upd H a (.lst ys)) := .write hv (fun _ z => nomatch z) (fun _ _ z => nomatch z) (fun _ z => nomatch z)
  o v m _ w (rv.mono w) (rh.write ha hv (fun _ z => nomatch z) (fun _ _ z => nomatch z) (fun _ z => nomatch z) ⟨ys, upd_same, rl.mono w⟩)
section
variable {X : Cx}
theorem k_append : MtR X "list.append" (rMt X.K appendF) := by
  intro pns s σ H x vs v us Q I rx rv h
  obtain ⟨m, hs, d, ds, r1, rl, rh, o⟩ := h
  unfold appendF at o
  split at o
  · unfold RepV at r1
    obtain ⟨a, ha, rfl⟩ := r1
    obtain ⟨y, rfl, r2⟩ := repL1 rl
    split at o
    · rename_i xs e
      obtain ⟨ws, hw, rl2⟩ := rh.lst ha e
      split at o
      · rename_i hz
        exact mt_append pns s σ H _ _ v us Q I rx rv ⟨a, ws, y, rfl, rfl, hw, by rw [LIM_eq, rl2.length]; exact hz, write_lst rh ha hw (rl2.append (.cons r2 .nil)) (by unfold RepV; rfl) o⟩
      · exact o.elim
    · exact o.elim
  · exact o.elim
theorem k_pop : MtR X "list.pop" (rMt X.K popF) := by
  intro pns s σ H x vs v us Q I rx rv h
  obtain ⟨m, hs, d, ds, r1, rl, rh, o⟩ := h
  unfold popF at o
  split at o
  · unfold RepV at r1
    obtain ⟨a, ha, rfl⟩ := r1
    unfold RepL at rl
    subst rl
    split at o
    · rename_i xs e
      obtain ⟨ws, hw, rl2⟩ := rh.lst ha e
      cases q : xs[xs.length - 1]? with
      | none => rw [q] at o; exact o.elim
      | some d =>
        rw [q] at o
        obtain ⟨y, hy, ry⟩ := rl2.get q
        exact mt_pop pns s σ H _ _ v us Q I rx rv ⟨a, ws, y, rfl, rfl, hw, by rw [rl2.length]; exact hy, write_lst rh ha hw rl2.dropLast ry o⟩
    · exact o.elim
  · exact o.elim
end
def setIxM (F : D → D → D → Hs → Option Hs) (V O I : EM) : SM := fun ds h => lift (V ds h) ds fun v h => lift (O ds h) ds fun o h => lift (I ds h) ds fun i h => match F o i v h with
  | some h' => .nx ds h'
  | none => .bad
def setLF : D → D → D → Hs → Option Hs
  | .loc l, .int i, v, h => match h[l]? with
    | some (.lst ds) => (ixN ds.length i).map fun j => h.set l (.lst (ds.set j v))
    | _ => none
  | _, _, _, _ => none
def OutN (K : PySem.W.Frag) (m : List Addr) (H : Hp) (Q : Hp → Prop) : Option Hs → Prop
  | some h' => ∀ m' H', Grow m H m' H' → RepH K m' H' h' → Q H'
  | none => False
def rSt (K : PySem.W.Frag) (F : D → D → D → Hs → Option Hs) : TSet := fun o i v H Q => ∃ m h od id vd, RepV K m H od o ∧ RepV K m H id i ∧ RepV K m H vd v ∧ RepH K m H h ∧ OutN K m H Q (F od id vd h)
section
variable {X : Cx} {g : Cfg} {o i e : Expr} {V O I : EM} {pos tpos : Pos} {F : D → D → D → Hs → Option Hs}
theorem sm_setIx (hset : PSet X (rSt g.K F)) (he : PE X e (tM g V)) (ho : PE X o (tM g O)) (hi : PE X i (tM g I))
    (ha : ∀ v, assign (.Subscript o i tpos) X.env v = (do
      let ov ← holding [v] (eval o X.env)
      let iv ← holding [v, ov] (eval i X.env)
      standAt tpos
      holding [v, ov, iv] (setItem ov iv v)
      release [v, ov, iv] []) := by intro _; rfl)
    (hs : swapsWithSole [.Subscript o i tpos] e pos.line X.env = pure false := by rfl) (hw : swappedStores [.Subscript o i tpos] e X.env = pure none := by rfl)
    (h1 : (assignEach [.Subscript o i tpos] X.env).map (·.2) = [assign (.Subscript o i tpos) X.env] := by rfl) : PS X (.Assign [.Subscript o i tpos] e pos) (tS g (setIxM F V O I)) := by
  refine PS.weak (ps_asg he (pg_sub ho hi hset ha) hs hw h1) fun N σ H ⟨m, ds, h, hs, rh, o⟩ => ⟨m, ds, h, hs, rh, OutE.toS hs o fun d1 h1 v1 m1 H1 g1 r1 rh1 o1 => ?_⟩
  refine ⟨m1, ds, h1, hs.mono g1, rh1, OutE.toS (hs.mono g1) o1 fun d2 h2 v2 m2 H2 g2 r2 rh2 o2 => ?_⟩
  refine ⟨m2, ds, h2, (hs.mono g1).mono g2, rh2, OutE.toS ((hs.mono g1).mono g2) o2 fun d3 h3 v3 m3 H3 g3 r3 rh3 o3 => ?_⟩
  refine ⟨m3, h3, d2, d3, d1, r2.mono g3, r3, (r1.mono g2).mono g3, rh3, ?_⟩
  cases q : F d2 d3 d1 h3 with
  | none => rw [q] at o3; exact o3.elim
  | some h4 => rw [q] at o3; exact fun m4 H4 g4 rh4 => o3 σ m4 H4 g4 (((hs.mono g1).mono g2).mono (g3.trans g4)) rh4
theorem s_list : PSet X (rSt X.K setLF) := by
  intro pns s σ H o i v ov iv u Q I ro ri rv h
  obtain ⟨m, hs, od, id, vd, r1, r2, r3, rh, q⟩ := h
  unfold setLF at q
  split at q
  · unfold RepV at r1 r2
    obtain ⟨a, ha, rfl⟩ := r1
    subst r2
    split at q
    · rename_i xs e
      obtain ⟨ws, hw, rl2⟩ := rh.lst ha e
      cases c : ixN xs.length _ with
      | none => rw [c] at q; exact q.elim
      | some j =>
        rw [c] at q
        refine set_list pns s σ H _ _ _ ov iv u Q I ro ri rv ⟨a, ws, _, j, rfl, rfl, hw, by rw [rl2.length]; exact c, ?_⟩
        have w : Grow m H m (upd H a (.lst (ws.set j v))) := .write hw (fun _ z => nomatch z) (fun _ _ z => nomatch z) (fun _ z => nomatch z)
        exact q m _ w (rh.write ha hw (fun _ z => nomatch z) (fun _ _ z => nomatch z) (fun _ z => nomatch z) ⟨_, upd_same, (rl2.set j r3).mono w⟩)
    · exact q.elim
  · exact q.elim
end
def maxdR (d e : D) (h : Hs) : R D := match d, e with
  | .loc l, .int k => match h[l]? with
    | some (.lst xs) => match intsOf xs with
      | some [] => .ok (.int k) h
      | some (n :: ns) => .ok (.int (maxI n ns)) h
      | none => .bad
    | _ => .bad
  | _, _ => .bad
def maxdF (A B : EM) : EM := fun ds h => (A ds h).bind fun d h => (B ds h).bind fun e h => maxdR d e h
end DV
namespace DV
open PySem PySem.Spec PyProof.Rows L2
structure Blt (mg : Str → Option Value) : Prop where
  z_len : mg "len" = none
  z_range : mg "range" = none
  z_int : mg "int" = none
  z_str : mg "str" = none
  z_sum : mg "sum" = none
  z_max : mg "max" = none
  z_min : mg "min" = none
  z_enumerate : mg "enumerate" = none
  z_isinstance : mg "isinstance" = none
  z_tuple : mg "tuple" = none
  z_list : mg "list" = none
  z_dict : mg "dict" = none
  z_sorted : mg "sorted" = none
  z_abs : mg "abs" = none
  z_all : mg "all" = none
  z_set : mg "set" = none
  z_bool : mg "bool" = none
theorem hu1 {k : Nat} {A : Around} (hr : Room k A) : A.units + 1 < cLine := hu_of hr
theorem hu195 {k : Nat} {A : Around} (hr : Room k A) : A.units + 195 < cLine := by have := hr.un; omega
def flatD : D → Bool
  | .non => true
  | .bl _ => true
  | .int _ => true
  | .str _ => true
  | _ => false
def toV : D → V
  | .non => .non
  | .bl b => .bl b
  | .int i => .int i
  | .str s => .str s
  | _ => .non
theorem flat_toV {K : PySem.W.Frag} {m : List Addr} {H : Hp} {d : D} {v : V} (r : RepV K m H d v) (f : flatD d = true) : v = toV d ∧ flatV v = true := by
  cases d with
  | non => unfold RepV at r; subst r; exact ⟨rfl, rfl⟩
  | bl b => unfold RepV at r; subst r; exact ⟨rfl, rfl⟩
  | int b => unfold RepV at r; subst r; exact ⟨rfl, rfl⟩
  | str b => unfold RepV at r; subst r; exact ⟨rfl, rfl⟩
  | tup _ => cases f
  | loc _ => cases f
  | ro _ => cases f
  | exn _ => cases f
theorem flat_toVL {K : PySem.W.Frag} {m : List Addr} {H : Hp} : ∀ {ds : List D} {vs : List V}, RepL K m H ds vs → ds.all flatD = true → vs = ds.map toV ∧ vs.all flatV = true
  | [], vs, r, _ => by unfold RepL at r; subst r; exact ⟨rfl, rfl⟩
  | d :: ds, vs, r, f => by
    unfold RepL at r
    obtain ⟨x, xs, rfl, h1, h2⟩ := r
    rw [List.all_cons, Bool.and_eq_true] at f
    obtain ⟨e1, e2⟩ := flat_toV h1 f.1
    obtain ⟨e3, e4⟩ := flat_toVL h2 f.2
    exact ⟨by rw [e1, e3]; rfl, by rw [List.all_cons, e2, e4]; rfl⟩
def inFlat (x : D) (ds : List D) : Bool := ds.any fun d => eqV (toV d) (toV x)
theorem inV_map (x : D) (ds : List D) : inV (toV x) (ds.map toV) = inFlat x ds := by
  unfold inV inFlat
  rw [List.any_map]; rfl
/-- x in y -/
def inB : D → D → Hs → Option Bool
  | .str i, .str j, _ => match i.cps.toList with
    | [c] => some (decide (c ∈ j.cps.toList))
    | _ => none
  | x, .loc l, h => match h[l]? with
    | some (.lst ds) => if flatD x && ds.all flatD then some (inFlat x ds) else none
    | some (.dct kvs) => (keyD x).map fun k => (valD kvs k).isSome
    | some (.fdc kvs) => (keyD x).map fun k => (valD kvs k).isSome
    | _ => none
  | x, .tup ds, _ => if flatD x && ds.all flatD then some (inFlat x ds) else none
  | _, _, _ => none
def ninF : VF2 := fun x y h => (inB x y h).map fun b => (.bl (!b), h)
section
variable {X : Cx} {K : PySem.W.Frag}
theorem in_core (hu : X.A.units + 1 < cLine) {pns : List (Addr × Obj)} {s : Shared} {σ : St} {H : Hp} {x y : V} {v u : Value} {m : List Addr} {hs : Hs} {dx dy : D} {b : Bool} (I : Inv X pns σ H s) (rx : RelV x v) (ry : RelV y u) (r1 : RepV X.K m H dx x) (r2 : RepV X.K m H dy y)
    (rh : RepH X.K m H hs) (e : inB dx dy hs = some b) {Q : VK} :
    (Q (.bl b) H → wpAny (model X.prog X.w) X.A (compareOp .In v u) (EP X pns σ Q) X.xe s) ∧ (Q (.bl (!b)) H → wpAny (model X.prog X.w) X.A (compareOp .NotIn v u) (EP X pns σ Q) X.xe s) := by
  unfold inB at e
  split at e
  · rename_i i j
    unfold RepV at r1 r2
    subst r1 r2
    split at e
    · rename_i c hc
      cases e
      have hi : i = ⟨#[c]⟩ := by
        cases i with
        | mk a => congr; exact Array.toList_inj.mp (by simpa using hc)
      subst hi
      exact ⟨fun q => op_in_sign pns s σ H _ _ v u Q I rx ry ⟨c, j, rfl, rfl, q⟩, fun q => op_notIn_sign pns s σ H _ _ v u Q I rx ry ⟨c, j, rfl, rfl, q⟩⟩
    · cases e
  · rename_i l
    unfold RepV at r2
    obtain ⟨a, ha, rfl⟩ := r2
    split at e
    · rename_i ds e1
      obtain ⟨vs, hv, rl⟩ := rh.lst ha e1
      split at e
      · rename_i c
        cases e
        obtain ⟨c1, c2⟩ := Bool.and_eq_true_iff.mp c
        obtain ⟨q1, q2⟩ := flat_toV r1 c1
        obtain ⟨q3, q4⟩ := flat_toVL rl c2
        have ei : inV x vs = inFlat dx ds := by rw [q1, q3, inV_map]
        exact ⟨fun q => op_in_seq pns s σ H _ _ v u Q I rx ry ⟨a, vs, rfl, .inl (SqL.of hv), q2, q4, by rw [if_neg Bool.false_ne_true, ei]; exact q⟩, fun q => op_notIn_seq pns s σ H _ _ v u Q I rx ry ⟨a, vs, rfl, .inl (SqL.of hv), q2, q4, by rw [if_pos rfl, ei]; exact q⟩⟩
      · cases e
    · rename_i kvs e1
      obtain ⟨ks, hk, kk, rk⟩ := rh.at_ _ a _ ha e1
      cases q : keyD dx with
      | none => rw [q] at e; cases e
      | some k =>
        rw [q] at e
        cases e
        have hx := kV_keyD r1 q
        subst hx
        have es : (valV ks k).isSome = (valD kvs k).isSome := by
          rcases valD_rep k kk rk with ⟨a, b⟩ | ⟨d, v, a, b, _⟩ <;> rw [a, b] <;> rfl
        have g : DGet H a (kV k) (valV ks k) := DGet.k hk
        cases ry
        exact ⟨fun q => d_in hu I g rx fun s' I' => ⟨.bl (valV ks k).isSome, H, I', rfl, by rw [es]; exact q⟩, fun q => d_notIn hu I g rx fun s' I' => ⟨.bl (!(valV ks k).isSome), H, I', rfl, by rw [es]; exact q⟩⟩
    · rename_i kvs e1
      obtain ⟨ob, ks, hk, kk, rk⟩ := rh.at_ _ a _ ha e1
      cases q : keyD dx with
      | none => rw [q] at e; cases e
      | some k =>
        rw [q] at e
        cases e
        have hx := kV_keyD r1 q
        subst hx
        have es : (valV ks k).isSome = (valD kvs k).isSome := by
          rcases valD_rep k kk rk with ⟨a, b⟩ | ⟨d, v, a, b, _⟩ <;> rw [a, b] <;> rfl
        have g : DGet H a (kV k) (valV ks k) := .inl ⟨ks, k, .inr ⟨ob, hk⟩, rfl, rfl⟩
        cases ry
        exact ⟨fun q => d_in hu I g rx fun s' I' => ⟨.bl (valV ks k).isSome, H, I', rfl, by rw [es]; exact q⟩, fun q => d_notIn hu I g rx fun s' I' => ⟨.bl (!(valV ks k).isSome), H, I', rfl, by rw [es]; exact q⟩⟩
    · cases e
  · rename_i ds
    unfold RepV at r2
    obtain ⟨a, vs, rfl, ha, rl⟩ := r2
    split at e
    · rename_i c
      cases e
      obtain ⟨c1, c2⟩ := Bool.and_eq_true_iff.mp c
      obtain ⟨q1, q2⟩ := flat_toV r1 c1
      obtain ⟨q3, q4⟩ := flat_toVL rl c2
      have ei : inV x vs = inFlat dx ds := by rw [q1, q3, inV_map]
      exact ⟨fun q => op_in_seq pns s σ H _ _ v u Q I rx ry ⟨a, vs, rfl, .inr (SqT.of ha), q2, q4, by rw [if_neg Bool.false_ne_true, ei]; exact q⟩, fun q => op_notIn_seq pns s σ H _ _ v u Q I rx ry ⟨a, vs, rfl, .inr (SqT.of ha), q2, q4, by rw [if_pos rfl, ei]; exact q⟩⟩
    · cases e
  · cases e
theorem o_nin (hu : X.A.units + 195 < cLine) : OpR X (compareOp .NotIn) (rV X.K ninF) := by
  intro pns s σ H x y v u Q I rx ry h
  obtain ⟨m, hs, dx, dy, r1, r2, rh, o⟩ := h
  unfold ninF at o
  cases e : inB dx dy hs with
  | none => rw [e] at o; exact o.elim
  | some b =>
    rw [e] at o
    exact (in_core (by omega) I rx ry r1 r2 rh e).2 (o _ m H (.refl _ _) (by unfold RepV; rfl) rh)
end
end DV
namespace DV
open PySem PySem.Spec PyProof.Rows L2
/-- no exception leaves where none is let -/
theorem cx_none {P : Program} {w : World} {H : Hp} {s : Shared} {e : Value} {s' : Shared} (c : L2.CX P w [] H s (fun _ _ _ => False) e s') : False := by
  obtain ⟨_, _, _, _, _, _, _, _, _, _, _, _, z⟩ := c
  exact z
theorem spM_ro {K : PySem.W.Frag} {φ : Fm} {H : Hp} {a : Addr} {ns : List Int} {h' : Hs} (hO : Only H) (hS : SqL K H a (ns.map V.int)) (e : φ [.ro ns] [] = .ok (.bl true) h') : spM K 1 φ [.ref a] H (fun v _ => v = .bl true) (fun _ _ _ => False) := by
  have hq : SqR K H a (ns.map V.int) := by
    rcases hS with h | h
    · rcases h with h | ⟨o, h⟩
      · rcases hO a with z | ⟨o, xs, z⟩
        · rw [z] at h; cases h
        · rw [z] at h; cases h
      · exact .inl ⟨o, h⟩
    · exact .inr h
  refine ⟨rfl, [], [.ro ns], [], .cons (by unfold RepV; exact ⟨a, rfl, hq⟩) .nil, ⟨rfl, List.nodup_nil, fun i b o hi => by simp at hi⟩, ?_⟩
  rw [e]
  intro v m' H' _ rv _
  unfold RepV at rv
  exact rv
theorem law_end {l : PySem.W.OpenLaw} {k : Nat} {q : Program} {loose : List Str} {XP : (Str → Option Value) → Heap → Prop} {YP : World → Heap → Prop} {d : DefRec} {φ : Fm}
    (hn : l.most = some 63) (hdf : d.params.defaults = []) (hr : Room k callerA) (hφ : ∀ ns : List Int, ns.length ≤ 63 → ∃ h', φ [.ro ns] [] = .ok (.bl true) h')
    (G : ∀ (w : World) (mg : Str → Option Value) (fa : Addr) (h : Heap), YP w h → h.Ns mainGlobals mg → mg d.name = some (.ref fa) →
      ∃ (K : PySem.W.Frag) (fd : FuncData), K.In h ∧ (∀ (s : Shared) (u : Value), BindsTo s fd ⟨[u], []⟩ [("script", u)]) ∧
        ∀ base : Heap, K.In base → base.Ns mainGlobals mg → FnOk l.prog w K mg base (L2.CX l.prog w) k fa fd ["script"] (spM K 1 φ)) :
    PySem.W.WalkO q loose XP YP l.row.toRowW d [] (fun f vs => PySem.call f vs) := by
  refine Att.attach_call hn hdf fun w sA sB mg mb fa o pm cd doc a vs ns T Y ho hd hcd hmg hobj hints hlen hg => ?_
  obtain ⟨K, fd, KX, hb, hF⟩ := G w mg fa _ Y T.T.g hmg
  refine law_call KX T.T.g T.T.b T.T.builtins T.T.nolimit hg hobj hints (Nat.le_trans hlen (by rw [sizeLine_eq]; decide)) hr hF hb (fun H hO hS => ?_) fun H e s' => cx_none
  obtain ⟨h', e⟩ := hφ ns hlen
  exact spM_ro hO hS e
def FUEL : Nat := 100000
theorem fnAt_by {P : Program} {w : World} {K : PySem.W.Frag} {mg : Str → Option Value} {base : Heap} {x qual : Str} {params : Arguments} {body : List Stmt} {scope : Scope} {f : Addr} {fd : FuncData} {ps : List Str} {k np nN : Nat} {M : SM} (kd : Nrm) (hp : ps.length = np)
    (F : FunD K x qual params body scope [] [] f fd) (hm : mg x = some (.ref f)) (hb : Binds K fd ps []) (G : FnOk P w K mg base (L2.CX P w) (k + 1) f fd ps (spM K np (kd.f (runM np nN M)))) : FnAt P w K mg base (k + 1) x ps (kd.f (runM np nN M)) := by
  subst hp
  exact ⟨⟨f, fd, hm, F.kp, hb, G⟩, kd.ar _ _ (runM_ar _ _ _)⟩
end DV
namespace DV
open PySem PySem.Spec PyProof.Rows L2
abbrev QX := Str → Hs → Prop
def R.wp {α : Type} (r : R α) (Q : α → Hs → Prop) (X : QX) : Prop := match r with
  | .ok a h => Q a h
  | .exc c h => X c h
  | .bad => False
def RS.wp (r : RS) (N : Sl → Hs → Prop) (Q : D → Hs → Prop) (X : QX) : Prop := match r with
  | .nx ds h => N ds h
  | .rt d h => Q d h
  | .exc c _ h => X c h
  | _ => False
def xF : QX := fun _ _ => False
@[simp] theorem wp_ok {α : Type} (a : α) (h : Hs) (Q : α → Hs → Prop) (X : QX) : (R.ok a h).wp Q X = Q a h := rfl
@[simp] theorem wp_exc {α : Type} (c : Str) (h : Hs) (Q : α → Hs → Prop) (X : QX) : (R.exc c h : R α).wp Q X = X c h := rfl
@[simp] theorem wp_bad {α : Type} (Q : α → Hs → Prop) (X : QX) : (R.bad : R α).wp Q X = False := rfl
@[simp] theorem wp_bind {α β : Type} (r : R α) (k : α → Hs → R β) (Q : β → Hs → Prop) (X : QX) : (r.bind k).wp Q X = r.wp (fun a h => (k a h).wp Q X) X := by cases r <;> rfl
@[simp] theorem ws_lift {α : Type} (r : R α) (ds : Sl) (k : α → Hs → RS) (N : Sl → Hs → Prop) (Q : D → Hs → Prop) (X : QX) : (lift r ds k).wp N Q X = r.wp (fun a h => (k a h).wp N Q X) X := by cases r <;> rfl
theorem R.wp_mono {α : Type} {r : R α} {Q Q' : α → Hs → Prop} {X X' : QX} (w : r.wp Q X) (f : ∀ a h, Q a h → Q' a h) (g : ∀ c h, X c h → X' c h) : r.wp Q' X' := by
  cases r with
  | ok a h => exact f a h w
  | exc c h => exact g c h w
  | bad => exact w
theorem RS.wp_mono {r : RS} {N N' : Sl → Hs → Prop} {Q Q' : D → Hs → Prop} {X X' : QX} (w : r.wp N Q X) (e : ∀ ds h, N ds h → N' ds h) (f : ∀ a h, Q a h → Q' a h) (g : ∀ c h, X c h → X' c h) : r.wp N' Q' X' := by
  cases r with
  | nx ds h => exact e ds h w
  | rt a h => exact f a h w
  | exc c ds h => exact g c h w
  | bk _ _ => exact w
  | ct _ _ => exact w
  | bad => exact w
/-- a told end -/
theorem R.wp_eq {α : Type} {r : R α} {a : α} {h : Hs} : r.wp (fun a' h' => a' = a ∧ h' = h) xF ↔ r = .ok a h := by
  cases r with
  | ok a' h' => exact ⟨fun ⟨e1, e2⟩ => by rw [e1, e2], fun e => by cases e; exact ⟨rfl, rfl⟩⟩
  | exc c h => exact ⟨fun e => e.elim, fun e => nomatch e⟩
  | bad => exact ⟨fun e => e.elim, fun e => nomatch e⟩
theorem R.wp_ex {α : Type} {r : R α} {Q : α → Hs → Prop} (w : r.wp Q xF) : ∃ a h, r = .ok a h ∧ Q a h := by
  cases r with
  | ok a h => exact ⟨a, h, rfl, w⟩
  | exc c h => exact w.elim
  | bad => exact w.elim
section
variable {N : Sl → Hs → Prop} {Q : D → Hs → Prop} {X : QX} {ds : Sl} {h : Hs}
@[simp] theorem wp_c (d : D) : (cM d ds h).wp Q X = Q d h := rfl
theorem wp_v (i : Nat) : (vM i ds h).wp Q X = (match ds[i]? with | some (some d) => Q d h | _ => False) := by
  unfold vM
  rcases ds[i]? with _ | _ | d <;> rfl
@[simp] theorem wp_ofO (o : Res) : (R.ofO o).wp Q X = (match o with | some p => Q p.1 p.2 | none => False) := by cases o <;> rfl
@[simp] theorem wp_bin (F : VF2) (A B : EM) : (binM F A B ds h).wp Q X = (A ds h).wp (fun x h => (B ds h).wp (fun y h => (R.ofO (F x y h)).wp Q X) X) X := by simp only [binM, wp_bind]
@[simp] theorem wp_un (F : D → Hs → Res) (A : EM) : (unM F A ds h).wp Q X = (A ds h).wp (fun x h => (R.ofO (F x h)).wp Q X) X := by simp only [unM, wp_bind]
@[simp] theorem wp_nilA {P : List D → Hs → Prop} : (nilA ds h).wp P X = P [] h := rfl
@[simp] theorem wp_consA {P : List D → Hs → Prop} (A : EM) (B : AM) : (consA A B ds h).wp P X = (A ds h).wp (fun x h => (B ds h).wp (fun xs h => P (x :: xs) h) X) X := by simp only [consA, wp_bind, wp_ok]
@[simp] theorem wp_arg (F : List D → Hs → Res) (A : AM) : (argM F A ds h).wp Q X = (A ds h).wp (fun xs h => (R.ofO (F xs h)).wp Q X) X := by simp only [argM, wp_bind]
@[simp] theorem wp_call (φ : Fm) (A : AM) : (callM φ A ds h).wp Q X = (A ds h).wp (fun xs h => (φ xs h).wp Q X) X := by simp only [callM, wp_bind]
@[simp] theorem wp_mt (ck : D → Hs → Bool) (F : D → List D → Hs → Res) (O : EM) (A : AM) : (mtMc ck F O A ds h).wp Q X = (O ds h).wp (fun d h => ck d h = true ∧ (A ds h).wp (fun xs h => (R.ofO (F d xs h)).wp Q X) X) X := by
  simp only [mtMc, wp_bind]
  congr 1
  funext d h
  by_cases c : ck d h = true
  · simp [c]
  · simp [c]
@[simp] theorem wp_ifE (T : TM) (A B : EM) : (ifE T A B ds h).wp Q X = (T ds h).wp (fun b h => if b = true then (A ds h).wp Q X else (B ds h).wp Q X) X := by
  simp only [ifE, wp_bind]
  congr 1
  funext b h
  split <;> rfl
@[simp] theorem wp_sl (A : EM) (lo hi : OM) : (slM A lo hi ds h).wp Q X = (A ds h).wp (fun d h => (lo ds h).wp (fun l h => (hi ds h).wp (fun u h => (R.ofO (slF d l u h)).wp Q X) X) X) X := by simp only [slM, wp_bind]
@[simp] theorem wp_noP {P : Option Int → Hs → Prop} : (noP ds h).wp P X = P none h := rfl
@[simp] theorem wp_someP {P : Option Int → Hs → Prop} (A : EM) : (someP A ds h).wp P X = (A ds h).wp (fun d h => match d with | .int i => P (some i) h | _ => False) X := by
  simp only [someP, wp_bind]
  congr 1
  funext d h
  cases d <;> rfl
def isBl (d : D) (P : Bool → Prop) : Prop := match d with
  | .bl b => P b
  | _ => False
@[simp] theorem isBl_bl (b : Bool) (P : Bool → Prop) : isBl (.bl b) P = P b := rfl
@[simp] theorem wp_tb {P : Bool → Hs → Prop} (A : EM) : (tbM A ds h).wp P X = (A ds h).wp (fun d h => isBl d fun b => P b h) X := by
  simp only [tbM, wp_bind]
  congr 1
  funext d h
  cases d <;> rfl
@[simp] theorem wp_tru {P : Bool → Hs → Prop} (A : EM) : (truM A ds h).wp P X = (A ds h).wp (fun d h => match truD d h with | some b => P b h | none => False) X := by
  simp only [truM, wp_bind]
  congr 1
  funext d h
  cases truD d h <;> rfl
@[simp] theorem wp_yes {P : Bool → Hs → Prop} : (yesM ds h).wp P X = P true h := rfl
@[simp] theorem wp_and {P : Bool → Hs → Prop} (A B : TM) : (andM A B ds h).wp P X = (A ds h).wp (fun b h => if b = true then (B ds h).wp P X else P false h) X := by
  simp only [andM, wp_bind]
  congr 1
  funext b h
  split <;> rfl
@[simp] theorem wp_or {P : Bool → Hs → Prop} (A B : TM) : (orM A B ds h).wp P X = (A ds h).wp (fun b h => if b = true then P true h else (B ds h).wp P X) X := by
  simp only [orM, wp_bind]
  congr 1
  funext b h
  split <;> rfl
@[simp] theorem wp_not {P : Bool → Hs → Prop} (A : TM) : (notM A ds h).wp P X = (A ds h).wp (fun b h => P (!b) h) X := by simp only [notM, wp_bind, wp_ok]
@[simp] theorem wp_andV (A B : EM) : (andV A B ds h).wp Q X = (A ds h).wp (fun d h => isBl d fun b => if b = true then (B ds h).wp Q X else Q (.bl false) h) X := by
  simp only [andV, wp_bind]
  congr 1
  funext d h
  cases d with
  | bl b => simp only [isBl]; split <;> rfl
  | _ => rfl
@[simp] theorem wp_orV (A B : EM) : (orV A B ds h).wp Q X = (A ds h).wp (fun d h => isBl d fun b => if b = true then Q (.bl true) h else (B ds h).wp Q X) X := by
  simp only [orV, wp_bind]
  congr 1
  funext d h
  cases d with
  | bl b => simp only [isBl]; split <;> rfl
  | _ => rfl
@[simp] theorem wp_notV (A : EM) : (notV A ds h).wp Q X = (A ds h).wp (fun d h => isBl d fun b => Q (.bl (!b)) h) X := by
  simp only [notV, wp_bind]
  congr 1
  funext d h
  cases d <;> rfl
@[simp] theorem wp_chain (F G : VF2) (A B C : EM) : (chainM F G A B C ds h).wp Q X = (A ds h).wp (fun x h => (B ds h).wp (fun y h => (R.ofO (F x y h)).wp (fun z h => isBl z fun b => if b = true then (C ds h).wp (fun w h => (R.ofO (G y w h)).wp Q X) X else Q (.bl false) h) X) X) X := by
  simp only [chainM, wp_bind]
  congr 1
  funext x h
  congr 1
  funext y h
  congr 1
  funext z h
  cases z with
  | bl b => simp only [isBl]; split <;> simp only [wp_bind, wp_ok]
  | _ => rfl
@[simp] theorem ws_pass : (passM ds h).wp N Q X = N ds h := rfl
@[simp] theorem ws_seq (A B : SM) : (seqM A B ds h).wp N Q X = (A ds h).wp (fun ds h => (B ds h).wp N Q X) Q X := by
  unfold seqM
  cases e : A ds h <;> rfl
@[simp] theorem ws_set (i : Nat) (A : EM) : (setM i A ds h).wp N Q X = (A ds h).wp (fun d h => N (ds.set i (some d)) h) X := by simp only [setM, ws_lift]; rfl
@[simp] theorem ws_expr (A : EM) : (exprM A ds h).wp N Q X = (A ds h).wp (fun _ h => N ds h) X := by simp only [exprM, ws_lift]; rfl
@[simp] theorem ws_ret (A : EM) : (retM A ds h).wp N Q X = (A ds h).wp Q X := by simp only [retM, ws_lift]; rfl
@[simp] theorem ws_retN : (retN ds h).wp N Q X = Q .non h := rfl
@[simp] theorem ws_raise (c : Str) : (raiseM c ds h).wp N Q X = X c h := rfl
@[simp] theorem ws_if (T : TM) (A B : SM) : (ifM T A B ds h).wp N Q X = (T ds h).wp (fun b h => if b = true then (A ds h).wp N Q X else (B ds h).wp N Q X) X := by
  simp only [ifM, ws_lift]
  congr 1
  funext b h
  split <;> rfl
@[simp] theorem ws_asg (A : EM) (T : GM) : (asgM A (okG T) ds h).wp N Q X = (A ds h).wp (fun d h => (T d ds h).wp N (fun _ _ => False) xF) X := by
  simp only [asgM, ws_lift]
  congr 1
  funext d h
  unfold okG
  cases T d ds h <;> rfl
@[simp] theorem ws_nameG (i : Nat) (d : D) {Qr : D → Hs → Prop} : (nameG i d ds h).wp N Qr X = N (ds.set i (some d)) h := rfl
@[simp] theorem ws_nilG {Qr : D → Hs → Prop} : (nilG [] ds h).wp N Qr X = N ds h := rfl
@[simp] theorem ws_consG (T : GM) (U : List D → Sl → Hs → RS) (d : D) (xs : List D) : (consG T U (d :: xs) ds h).wp N (fun _ _ => False) xF = (T d ds h).wp (fun ds h => (U xs ds h).wp N (fun _ _ => False) xF) (fun _ _ => False) xF := by
  show (match T d ds h with | .nx ds h => U xs ds h | _ => .bad).wp N (fun _ _ => False) xF = _
  cases T d ds h <;> rfl
@[simp] theorem ws_tupG (n : Nat) (U : List D → Sl → Hs → RS) (xs : List D) {Qr : D → Hs → Prop} : (tupG n U (.tup xs) ds h).wp N Qr X = (xs.length = n ∧ (U xs ds h).wp N Qr X) := by
  unfold tupG
  simp only
  split
  · rename_i c; simp [c]
  · rename_i c; simp only [c, false_and]; rfl
@[simp] theorem ws_setIx (F : D → D → D → Hs → Option Hs) (V O I : EM) : (setIxM F V O I ds h).wp N Q X = (V ds h).wp (fun v h => (O ds h).wp (fun o h => (I ds h).wp (fun i h => match F o i v h with | some h' => N ds h' | none => False) X) X) X := by
  simp only [setIxM, ws_lift]
  congr 1; funext v h
  congr 1; funext o h
  congr 1; funext i h
  cases F o i v h <;> rfl
/-- a loop with what holds ahead of each turn -/
theorem ws_loop {gd : Hs → Prop} {T : GM} {B : SM} (its : List D) (J : Nat → Sl → Hs → Prop) (start : J 0 ds h) (guard : ∀ i ds h, J i ds h → gd h)
    (turn : ∀ i d ds h, its[i]? = some d → J i ds h → (T d ds h).wp (fun ds h => (B ds h).wp (J (i + 1)) Q X) (fun _ _ => False) xF) (done : ∀ ds h, J its.length ds h → N ds h) : (loopM gd T B its ds h).wp N Q X := by
  have gen : ∀ (r : List D) (k : Nat) (ds : Sl) (h : Hs), its.drop k = r → k ≤ its.length → J k ds h → (loopM gd T B r ds h).wp N Q X := by
    intro r
    induction r with
    | nil =>
      intro k ds h e hk j
      have : k = its.length := by have := congrArg List.length e; simp at this; omega
      subst this
      unfold loopM
      rw [if_pos (guard _ _ _ j)]
      exact done ds h j
    | cons d r ih =>
      intro k ds h e hk j
      have hlt : k < its.length := by
        by_cases c : k < its.length
        · exact c
        · rw [List.drop_eq_nil_of_le (by omega)] at e; cases e
      rw [List.drop_eq_getElem_cons hlt] at e
      injection e with e1 e2
      have t := turn k d ds h (by rw [List.getElem?_eq_getElem hlt, e1]) j
      unfold loopM
      rw [if_pos (guard _ _ _ j)]
      cases q : T d ds h with
      | nx ds1 h1 =>
        rw [q] at t
        have t : (B ds1 h1).wp (J (k + 1)) Q X := t
        simp only
        cases q2 : B ds1 h1 with
        | nx ds2 h2 => rw [q2] at t; exact ih (k + 1) ds2 h2 e2 hlt t
        | rt d h2 => rw [q2] at t; exact t
        | exc c ds2 h2 => rw [q2] at t; exact t
        | bk _ _ => rw [q2] at t; exact t.elim
        | ct _ _ => rw [q2] at t; exact t.elim
        | bad => rw [q2] at t; exact t.elim
      | _ => rw [q] at t; exact (show False from t).elim
  exact gen its 0 ds h rfl (Nat.zero_le _) start
@[simp] theorem ws_for (I : IM) (T : GM) (B : SM) : (forM I T B ds h).wp N Q X = (I ds h).wp (fun p h => (loopM p.2 T B p.1 ds h).wp N Q X) X := by simp only [forM, ws_lift]
@[simp] theorem wp_valI {P : List D × (Hs → Prop) → Hs → Prop} (A : EM) : (valI A ds h).wp P X = (A ds h).wp (fun d h => match itsF d h with | some p => P p h | none => False) X := by
  simp only [valI, wp_bind]
  congr 1; funext d h
  cases itsF d h <;> rfl
@[simp] theorem wp_rngI {P : List D × (Hs → Prop) → Hs → Prop} (F : List D → Option (List D)) (A : AM) : (rngI F A ds h).wp P X = (A ds h).wp (fun xs h => match F xs with | some its => P (its, fun _ => True) h | none => False) X := by
  simp only [rngI, wp_bind]
  congr 1; funext d h
  cases F d <;> rfl
/-- a while with what holds and what falls -/
theorem ws_while {T : TM} {B : SM} (J : Nat → Sl → Hs → Prop) (n k : Nat) (hk : k < n) (start : J k ds h)
    (turn : ∀ k ds h, J k ds h → (T ds h).wp (fun b h => if b = true then (B ds h).wp (fun ds h => ∃ j, j < k ∧ J j ds h) Q X else N ds h) X) : (whileM T B n ds h).wp N Q X := by
  induction n generalizing k ds h with
  | zero => omega
  | succ n ih =>
    have t := turn k ds h start
    unfold whileM
    rw [ws_lift]
    refine R.wp_mono t (fun b h1 w => ?_) (fun _ _ x => x)
    cases b with
    | true =>
      rw [if_pos rfl] at w ⊢
      cases q : B ds h1 with
      | nx ds2 h2 => rw [q] at w; obtain ⟨j, hj, w⟩ := w; exact ih j (by omega) w
      | rt d h2 => rw [q] at w; exact w
      | exc c ds2 h2 => rw [q] at w; exact w
      | bk _ _ => rw [q] at w; exact w.elim
      | ct _ _ => rw [q] at w; exact w.elim
      | bad => rw [q] at w; exact w.elim
    | false => rw [if_neg Bool.false_ne_true] at w ⊢; exact w
theorem wp_run (np nN : Nat) (M : SM) (xs : List D) : (runM np nN M xs h).wp Q X = (xs.length = np ∧ (M (startD nN xs) h).wp (fun _ h => Q .non h) Q X) := by
  unfold runM
  by_cases c : xs.length = np
  · rw [if_pos c]
    simp only [c, true_and]
    cases M (startD nN xs) h <;> rfl
  · rw [if_neg c]; simp [c]
theorem wp_pure (φ : Fm) (xs : List D) : (kPure.f φ xs h).wp Q X = (φ xs h).wp (fun d h' => (noloc d = true ∧ h'.take h.length = h) ∧ Q d h) (fun c h' => h'.take h.length = h ∧ X c h) := by
  show (nPure φ xs h).wp Q X = _
  unfold nPure
  cases φ xs h with
  | ok d h' =>
    simp only [wp_ok]
    split
    · rename_i c; simp [c]
    · rename_i c; simp [c]
  | exc c h' =>
    simp only [wp_exc]
    split
    · rename_i c; simp [c]
    · rename_i c; simp [c]
  | bad => rfl
end
end DV
namespace DV
open PySem PySem.Spec PyProof.Rows L2
section
variable {h : Hs} {i j : Int} {a b : Str} {xs ys : List D}
@[simp] theorem add_int : addF (.int i) (.int j) h = some (.int (i + j), h) := rfl
@[simp] theorem add_strs : addF (.str a) (.str b) h = if a.length + b.length ≤ LIM then some (.str (a ++ b), h) else none := rfl
@[simp] theorem add_tup : addF (.tup xs) (.tup ys) h = if xs.length + ys.length ≤ LIM then some (.tup (xs ++ ys), h) else none := rfl
@[simp] theorem sub_int : subF (.int i) (.int j) h = some (.int (i - j), h) := rfl
@[simp] theorem mul_int' : mulF (.int i) (.int j) h = if cMul i j = true then some (.int (i * j), h) else none := rfl
@[simp] theorem mul_strn : mulF (.str a) (.int j) h = if cB (-1000000 ≤ j ∧ j ≤ 1000000 ∧ a.length ≤ 1000000 ∧ a.length * j.toNat ≤ LIM) = true then some (.str (repS a j.toNat), h) else none := rfl
theorem ipF_int {C : Int → Int → Bool} {g : Int → Int → Int} : ipF C g (.int i) (.int j) h = if C i j = true then some (.int (g i j), h) else none := by
  unfold ipF intF
  simp only
  split <;> rfl
@[simp] theorem mod_int' : modF (.int i) (.int j) h = if cMod i j = true then some (.int (i % j), h) else none := ipF_int
@[simp] theorem fdiv_int : fdivF (.int i) (.int j) h = if cDiv i j = true then some (.int (i / j), h) else none := ipF_int
@[simp] theorem pow_int : powF (.int i) (.int j) h = if cPow i j = true then some (.int (i ^ j.toNat), h) else none := ipF_int
theorem cMul_l (h1 : -18446744073709551616 < i) (h2 : i < 18446744073709551616) : cMul i j = true := cB_of (.inl ⟨h1, h2⟩)
theorem cMul_r (h1 : -18446744073709551616 < j) (h2 : j < 18446744073709551616) : cMul i j = true := cB_of (.inr ⟨h1, h2⟩)
theorem cMod_of (h1 : 0 < j) : cMod i j = true := cB_of h1
theorem cDiv_of (h1 : 0 < j) (h2 : j < 1073741824) : cDiv i j = true := cB_of ⟨h1, h2⟩
theorem cPow_of (h1 : 0 ≤ j) (h2 : j ≤ 1000000) (h3 : i.natAbs < 18446744073709551616) : cPow i j = true := cB_of ⟨h1, h2, h3⟩
@[simp] theorem lt_int : ltF (.int i) (.int j) h = some (.bl (decide (i < j)), h) := rfl
@[simp] theorem gt_int : gtF (.int i) (.int j) h = some (.bl (decide (j < i)), h) := rfl
@[simp] theorem neg_int : negF (.int i) h = some (.int (-i), h) := rfl
@[simp] theorem tup_F : tupF xs h = if xs.length ≤ LIM then some (.tup xs, h) else none := rfl
@[simp] theorem lst_F : lstF xs h = if xs.length ≤ LIM then some (.loc h.length, h ++ [.lst xs]) else none := rfl
@[simp] theorem le_LIM {n : Nat} : (n ≤ LIM) = (n ≤ 16777216) := rfl
@[simp] theorem lt_LIM {n : Nat} : (n < LIM) = (n < 16777216) := rfl
theorem eq_of {d e : D} (a : pyOk d = true) (b : pyOk e = true) (z : depD d ≤ 190) [Decidable (d = e)] : eqF d e h = some (.bl (decide (d = e)), h) := by
  unfold eqF; rw [eqB_of a b z, Option.map_some]; congr
theorem ne_of' {d e : D} (a : pyOk d = true) (b : pyOk e = true) (z : depD d ≤ 190) [Decidable (d = e)] : neF d e h = some (.bl (!decide (d = e)), h) := by
  unfold neF; rw [eqB_of a b z, Option.map_some]; congr
open Classical in
@[simp] theorem eq_int : eqF (.int i) (.int j) h = some (.bl (decide (i = j)), h) := by rw [eq_of rfl rfl (Nat.zero_le _)]; simp
open Classical in
@[simp] theorem ne_int' : neF (.int i) (.int j) h = some (.bl (!decide (i = j)), h) := by rw [ne_of' rfl rfl (Nat.zero_le _)]; simp
@[simp] theorem eq_bool' {c d : Bool} : eqF (.bl c) (.bl d) h = some (.bl (c == d), h) := by simp [eqF, eqB, lenNe, pyH, pyW, PyData.canLay0, PyData.depth, PyData.eqv]
@[simp] theorem ne_bool' {c d : Bool} : neF (.bl c) (.bl d) h = some (.bl (!(c == d)), h) := by simp [neF, eqB, lenNe, pyH, pyW, PyData.canLay0, PyData.depth, PyData.eqv]
open Classical in
theorem eq_strs (ha : PyData.strOk a = true) (hb : PyData.strOk b = true) : eqF (.str a) (.str b) h = some (.bl (decide (a = b)), h) := by rw [eq_of (by unfold pyOk; exact ha) (by unfold pyOk; exact hb) (Nat.zero_le _)]; simp
open Classical in
theorem ne_strs (ha : PyData.strOk a = true) (hb : PyData.strOk b = true) : neF (.str a) (.str b) h = some (.bl (!decide (a = b)), h) := by rw [ne_of' (by unfold pyOk; exact ha) (by unfold pyOk; exact hb) (Nat.zero_le _)]; simp
@[simp] theorem ix_tup' : ixF (.tup xs) (.int i) h = (atI xs i).map fun d => (d, h) := rfl
@[simp] theorem ix_str' : ixF (.str a) (.int i) h = if a.length ≤ LIM then (atI a.cps.toList i).map (fun c => (.str ⟨#[c]⟩, h)) else none := rfl
@[simp] theorem len_tup : lenF [.tup xs] h = some (.int xs.length, h) := rfl
@[simp] theorem len_ro {ns : List Int} : lenF [.ro ns] h = some (.int ns.length, h) := rfl
@[simp] theorem len_str' : lenF [.str a] h = if a.length ≤ LIM then some (.int a.length, h) else none := rfl
@[simp] theorem int_int : intT [.int i] h = some (.int i, h) := rfl
@[simp] theorem int_bool {c : Bool} : intT [.bl c] h = some (.int (if c then 1 else 0), h) := rfl
@[simp] theorem min2_int : min2F [.int i, .int j] h = some (.int (if j < i then j else i), h) := rfl
theorem ix_lst {l : Nat} (e : h[l]? = some (.lst xs)) : ixF (.loc l) (.int i) h = (atI xs i).map fun d => (d, h) := by simp [ixF, e]
theorem len_lst {l : Nat} (e : h[l]? = some (.lst xs)) : lenF [.loc l] h = some (.int xs.length, h) := by simp [lenF, e]
theorem its_lst {l : Nat} (e : h[l]? = some (.lst xs)) : itsF (.loc l) h = some (xs, fun h => h[l]? = some (.lst xs)) := by simp [itsF, e]
@[simp] theorem its_tup : itsF (.tup xs) h = some (xs, fun _ => True) := rfl
@[simp] theorem its_str : itsF (.str a) h = some (a.cps.toList.map fun c => .str ⟨#[c]⟩, fun _ => True) := rfl
@[simp] theorem its_ro {ns : List Int} : itsF (.ro ns) h = some (ns.map D.int, fun _ => True) := rfl
@[simp] theorem nin_sign {c : Nat} : ninF (.str ⟨#[c]⟩) (.str b) h = some (.bl (!decide (c ∈ b.cps.toList)), h) := rfl
theorem atI_nat {α : Type} {zs : List α} {k : Nat} (hk : k < zs.length) : atI zs (k : Int) = zs[k]? := by
  unfold atI ixN
  simp [hk]
theorem atI_of {α : Type} {zs : List α} {i : Int} (h0 : 0 ≤ i) (h1 : i < zs.length) : ∃ z, atI zs i = some z ∧ zs[i.toNat]? = some z := by
  obtain ⟨k, rfl⟩ := Int.eq_ofNat_of_zero_le h0
  have hk : k < zs.length := by omega
  refine ⟨zs[k], ?_, by simp⟩
  rw [atI_nat hk]
  simp
theorem pw62 : (2 : Int) ^ 62 = 4611686018427387904 := by decide +kernel
theorem inR_of (h1 : -1000000000000 ≤ j) (h2 : j ≤ 1000000000000) : inR j = true := by
  unfold inR
  rw [pw62]
  exact cB_of ⟨by omega, by omega⟩
@[simp] theorem rng1_int : rng1 [.int j] = if inR j = true then some ((List.range j.toNat).map fun (i : Nat) => .int (i : Int)) else none := rfl
@[simp] theorem rng2_int : rng2 [.int i, .int j] = if inR i = true ∧ inR j = true then some ((List.range (j - i).toNat).map fun (k : Nat) => .int (i + (k : Int))) else none := rfl
end
section
variable {h r : Hs} {o : AO} {l k : Nat}
theorem get_app (e : h[l]? = some o) : (h ++ r)[l]? = some o := by
  obtain ⟨q, _⟩ := List.getElem?_eq_some_iff.mp e
  rw [List.getElem?_append_left q]; exact e
@[simp] theorem get_new : (h ++ r)[h.length + k]? = r[k]? := by rw [List.getElem?_append_right (by omega)]; congr 1; omega
@[simp] theorem get_new0 : (h ++ r)[h.length]? = r[0]? := by rw [List.getElem?_append_right (by omega)]; congr 1; omega
@[simp] theorem set_new : (h ++ r).set (h.length + k) o = h ++ r.set k o := (List.set_append_right _ _ (by omega)).trans (by rw [Nat.add_sub_cancel_left])
@[simp] theorem set_new0 : (h ++ r).set h.length o = h ++ r.set 0 o := (List.set_append_right _ _ (Nat.le_refl _)).trans (by rw [Nat.sub_self])
end
end DV
namespace DV
open PySem PySem.Spec PyProof.Rows L2
end DV
namespace DV
open PySem PySem.Spec PyProof.Rows L2
/-- the tuple at a, each item in a new pair with jts number -/
def Itm (K : PySem.W.Frag) (a : Addr) : It where
  go := fun i H => ∃ (xs : List V) (x : V), SqT K H a xs ∧ xs[i]? = some x
  yld := fun i H v H' => ∃ T x, v = .ref T ∧ H T = none ∧ H' = upd H T (.tup [.int (i : Nat), x]) ∧ ∀ xs, SqT K H a xs → xs[i]? = some x
  stop := fun i H => ∃ xs : List V, SqT K H a xs ∧ xs.length ≤ i
theorem enum_apart {h : Heap} {e it a : Addr} {c : Int} {old : Value} {items : Array Value} (he : IsEnum h e it c old) (ha : h.IsTuple a items) : e ≠ a := by
  rintro rfl
  obtain ⟨o, ho, hc, _⟩ := ha
  have he : h.get? e = some _ := he
  rw [he] at ho
  cases ho
  injection hc with z
  exact absurd z (by decide)
theorem turn_enumT {P : Program} {w : World} {K : PySem.W.Frag} {elts : List Expr} {kk : Nat} {tpos : Pos} (a e it : Addr) :
    Turn P w K (.Tuple elts kk tpos) (Itm K a) [e, it] e (fun i h => (∃ old, IsEnum h e it (i : Nat) old) ∧ h.IsTupleIter it a i ∧ e ≠ it ∧ a ≠ it) where
  mem := List.mem_cons_self
  obj := by
    rintro i h ⟨⟨old, he⟩, ⟨o, ho, hc, hd⟩, _⟩ b hb
    rcases List.mem_cons.mp hb with rfl | hb
    · exact ⟨_, he, fun v q => nomatch q⟩
    · cases List.mem_singleton.mp hb
      exact ⟨o, ho, fun v q => by rw [hd] at q; cases q⟩
  keep := by
    rintro i h h' ⟨⟨old, he⟩, hi, hne, hna⟩ k
    exact ⟨⟨old, k e (by simp) _ he⟩, hi.at fun o q => k it (by simp) o q, hne, hna⟩
  item := by
    intro X hP hw hK hc i pns s σ H E I hf st hg
    subst hP hw hK
    obtain ⟨⟨old, he⟩, hit, hne, hna⟩ := st
    obtain ⟨xs, x, hq, hx⟩ := hg
    obtain ⟨jts, rv, p, hz⟩ := I.tuple hq
    have p' : s.heap.IsTuple a jts.toArray := p
    obtain ⟨u, hu, ru⟩ := rv.get hx
    have hel : e < s.heap.objs.size := Heap.lt_size he
    have hil : it < s.heap.objs.size := by obtain ⟨_, q, _⟩ := hit; exact Heap.lt_size q
    have hh : X.A.in1.handled = none := I.ok.hd hc
    have D := Draws.tuple (prog := X.prog) (w := X.w) hh it a hna jts.toArray
    have hlt : i < jts.toArray.size := by
      have := (List.getElem?_eq_some_iff.mp hu).1
      simpa using this
    refine wpAny_pyNext_enum_itemD D he ⟨hit, p'⟩ hlt hne (fun q => ?_) fun y h' tk hy ho hst hT hsz hk => ?_
    · rcases List.mem_cons.mp q with q | q
      · exact hne q
      · exact enum_apart he p' (List.mem_singleton.mp q)
    · have ey : y = u := by
        have hy : jts.toArray[i]? = some y := hy
        rw [List.getElem?_toArray, hu] at hy
        exact (Option.some.inj hy).symm
      subst ey
      refine ⟨_, rfl, wpAny_letOwnedTupleGo_enum (s := { s with heap := h', toks := tk + 1 }) ho fun h2 he2 sb => ?_⟩
      have hT2 : h2.get? s.heap.objs.size = some { cls := .type "tuple", data := .seq #[.int i tk, y] } := (sb.2 _ (Nat.ne_of_gt hel)).trans hT
      have new : ObjOk X.prog X.w (upd H s.heap.objs.size (.tup [.int (i : Nat), x])) h2 s.heap.objs.size (.tup [.int (i : Nat), x]) :=
        ⟨by show 2 ≤ sizeLine; decide, [.int i tk, y], .cons ⟨_, rfl⟩ (.cons ru .nil), ⟨_, hT2, rfl, _, rfl⟩⟩
      have I1 : Inv X pns σ (upd H s.heap.objs.size (.tup [.int (i : Nat), x])) { s with heap := h2, toks := tk + 1 } :=
        I.turnedNew (ch := [e, it]) (fun b ob hb q => (sb.2 b (fun z => hb (by simp [z]))).trans (hk b ob (fun z => hb (by simp [z])) (fun z => hb (by simp [z])) q)) hf (Nat.le_refl _) new
      refine ⟨.ref s.heap.objs.size, _, I1, rfl, ⟨_, x, rfl, I.hok.fresh (Nat.le_refl _), rfl, fun ys hy => by rw [I.tuple_inj hy hq]; exact hx⟩, ⟨⟨y, ?_⟩, hst.1.at fun o q => (sb.2 it (Ne.symm hne)).trans q, hne, hna⟩, fun b hb => ?_⟩
      · have e1 : ((i + 1 : Nat) : Int) = (i : Int) + 1 := by omega
        rw [e1]; exact he2
      · have hb' : b < s.heap.objs.size := by
          rcases List.mem_cons.mp hb with rfl | hb
          · exact hel
          · cases List.mem_singleton.mp hb; exact hil
        rw [upd_ne (Nat.ne_of_lt hb')]
        exact (hf b hb).1
  done := by
    intro X hP hw hK hc i pns s σ H E I hf st hg
    subst hP hw hK
    obtain ⟨⟨old, he⟩, hit, hne, hna⟩ := st
    obtain ⟨xs, hq, hx⟩ := hg
    obtain ⟨jts, rv, p, hz⟩ := I.tuple hq
    have p' : s.heap.IsTuple a jts.toArray := p
    obtain ⟨f0, f1, f2, f3, f4, f5⟩ := hf it (by simp)
    have hl := rv.length
    have hh : X.A.in1.handled = none := I.ok.hd hc
    have D : Draws X.prog X.w X.A.in1 it [it, a] 0 (fun _ _ => False) (fun _ h => h.IsTupleIter it a i ∧ h.IsTuple a jts.toArray) := {
      live := fun _ _ st => let ⟨o, ho, _⟩ := st.1; ⟨o, ho⟩
      frame := fun _ _ _ st hk => ⟨st.1.at fun o z => hk it (by simp) o z, st.2.at fun o z => hk a (by simp) o z⟩
      item := fun k s Q E hk => absurd hk (Nat.not_lt_zero _)
      done := fun s Q E st hE => wpAny_nextOf_tuple_end hh st.1 st.2 (by rw [List.getElem?_toArray]; exact List.getElem?_eq_none (by omega)) hE }
    exact wpAny_pyNext_enum_endD D he ⟨hit, p'⟩ fun h' eb => ⟨rfl, I.turned (t' := s.toks) (fun b o hb q => eb b o hb q) f0 f1 f3 f4 f5⟩
  self := fun A i s Q E st h => let ⟨⟨_, he⟩, _⟩ := st; wpAny_pyIter_enum he h
/-- enumerate(t): jts new cells -/
theorem meets_enumT (v : Value) (o : Obj) (G : Heap → Prop) (B : Begins v o G) :
    Meets (Builtin.«enumerate.__new__» ⟨[.type "enumerate", v], []⟩) (fun _ R s => G s.heap ∧ R (.ok (.ret (.ref (s.heap.push o).objs.size)))
      { s with heap := (s.heap.push o).push { cls := .type "enumerate", data := .fields #[.none, .bool false, .ref s.heap.objs.size, rawInt 0, .none, .none] } }) :=
  .of_wp fun prog w A R s h => by
    obtain ⟨hp, gg, dd, tk, os⟩ := s
    obtain ⟨g1, h⟩ := h
    have hsub := sub_enumerate
    have go : ∀ {A' : Around} {E Q : Value → Shared → Prop}, Q (.ref hp.objs.size) ⟨hp.push o, gg, dd, tk, os⟩ → wpAny (model prog w) A' (pyIter v) Q E ⟨hp, gg, dd, tk, os⟩ := fun q => B.iter prog w _ _ ⟨hp, gg, dd, tk, os⟩ _ g1 q
    wp_walk
    refine wpAny_stack_any fun st => wpAny_pure ?_
    split
    · rename_i c _ _ _ _ _
      cases (c == Value.type "enumerate")
      · wp_walk using go
        exact ⟨_, rfl, h⟩
      · wp_walk using go
        exact ⟨_, rfl, h⟩
    · wp_walk using go
      exact ⟨_, rfl, h⟩
theorem call_enumT {P : Program} {w : World} {A : Around} {E Q : Value → Shared → Prop} {s : Shared} {t : Addr} {items : Array Value} (ht : s.heap.IsTuple t items)
    (h : ∀ h', IsEnum h' (s.heap.objs.size + 1) s.heap.objs.size ((0 : Nat) : Int) .none → h'.IsTupleIter s.heap.objs.size t 0 → h'.objs.size = s.heap.objs.size + 2 → (∀ b o, s.heap.get? b = some o → h'.get? b = some o) → Q (.ref (s.heap.objs.size + 1)) { s with heap := h' }) :
    wpAny (model P w) A (call (.type "enumerate") [.ref t]) Q E s := by
  refine callType_new F.called_enumerate (by decide) (F.typeCall_enumerate_1 _) (F.newCall_enumerate_1 _) (fun obj => F.args_object_init_2 obj _) F.entry_enumerate_new (meets_enumT _ _ _ (begins_tuple t items)) ⟨ht, ?_⟩
  have hz := Heap.size_push s.heap { cls := .type "tuple_iterator", data := .fields #[.ref t, .int 0 0] }
  have he := Heap.get?_push_size (s.heap.push { cls := .type "tuple_iterator", data := .fields #[.ref t, .int 0 0] }) (o := { cls := .type "enumerate", data := .fields #[.none, .bool false, .ref s.heap.objs.size, rawInt 0, .none, .none] }) rfl
  show _ ∧ _
  rw [hz] at he ⊢
  exact ⟨⟨_, he, rfl⟩, h _ he ⟨_, Heap.get?_push_of_some _ (Heap.get?_push_size _ rfl), rfl, rfl⟩ (by rw [Heap.size_push, hz]) fun b o x => Heap.get?_push_of_some _ (Heap.get?_push_of_some _ x)⟩
def numD (xs : List D) : List D := xs.zipIdx.map fun p => .tup [.int (p.2 : Nat), p.1]
def enumF (d : D) (h : Hs) : Option (List D × (Hs → Prop)) := match d with
  | .tup ds => some (numD ds, fun _ => True)
  | .loc l => match h[l]? with
    | some (.lst ds) => some (numD ds, fun h => h[l]? = some (.lst ds))
    | _ => none
  | _ => none
def enumI (A : EM) : IM := fun ds h => (A ds h).bind fun d h => match enumF d h with
  | some p => .ok p h
  | none => .bad
theorem numD_get {xs : List D} {i : Nat} {d : D} (e : (numD xs)[i]? = some d) : ∃ x, xs[i]? = some x ∧ d = .tup [.int (i : Nat), x] := by
  unfold numD at e
  rw [List.getElem?_map, List.getElem?_zipIdx] at e
  cases q : xs[i]? with
  | none => rw [q] at e; cases e
  | some x => rw [q] at e; cases e; exact ⟨x, rfl, by simp⟩
theorem numD_len (xs : List D) : (numD xs).length = xs.length := by simp [numD]
section
variable {K : PySem.W.Frag} {p : Addr} {vs : List V} {ds : List D} {m : List Addr} {H : Hp}
theorem pair_rep {h : Hs} {i : Nat} {x : D} {v : V} {T : Addr} (rv : RepV K m H x v) (rh : RepH K m H h) (hT : H T = none) :
    Grow m H m (upd H T (.tup [.int (i : Nat), v])) ∧ RepV K m (upd H T (.tup [.int (i : Nat), v])) (.tup [.int (i : Nat), x]) (.ref T) ∧ RepH K m (upd H T (.tup [.int (i : Nat), v])) h := by
  refine ⟨.put hT, ?_, rh.put hT⟩
  unfold RepV
  exact ⟨T, _, rfl, upd_same, .cons (by unfold RepV; rfl) (.cons (rv.mono (.put hT)) .nil)⟩
theorem isIt_enumT (hp : H p = some (.tup vs)) (rl : RepL K m H ds vs) : IsIt K (Itm K p) (numD ds) (fun _ => True) m H := by
  intro i m' H' h' g' rh' _
  have hp' := g'.tup _ _ hp
  refine ⟨fun d hd => ?_, fun hi => ⟨vs, SqT.of hp', by rw [rl.length]; rw [numD_len] at hi; exact hi⟩⟩
  obtain ⟨x, hx, rfl⟩ := numD_get hd
  obtain ⟨v, hv, rv⟩ := rl.get hx
  refine ⟨⟨vs, v, SqT.of hp', hv⟩, fun y H2 ⟨T, u, ey, hT, eH, q⟩ => ?_⟩
  have := q vs (SqT.of hp')
  rw [hv] at this; cases this
  subst ey eH
  exact pair_rep (rv.mono g') rh' hT
theorem isIt_enumL {l : Nat} (hp : m[l]? = some p) : IsIt K (Ite K p) (numD ds) (fun h => h[l]? = some (.lst ds)) m H := by
  intro i m' H' h' g' rh' hg
  obtain ⟨⟨r, rfl⟩, _, _, _⟩ := g'
  obtain ⟨hlt, _⟩ := List.getElem?_eq_some_iff.mp hp
  have hp' : (m ++ r)[l]? = some p := by rw [List.getElem?_append_left hlt]; exact hp
  obtain ⟨vs, hv, rl⟩ := rh'.lst hp' hg
  refine ⟨fun d hd => ?_, fun hi => ⟨vs, SqL.of hv, by rw [rl.length]; rw [numD_len] at hi; exact hi⟩⟩
  obtain ⟨x, hx, rfl⟩ := numD_get hd
  obtain ⟨v, hw, rv⟩ := rl.get hx
  refine ⟨⟨vs, v, SqL.of hv, hw⟩, fun y H2 ⟨T, u, ey, hT, eH, q⟩ => ?_⟩
  have := q vs (SqL.of hv)
  rw [hw] at this; cases this
  subst ey eH
  exact pair_rep rv rh' hT
end
/-- enumerate of a list or a tuple -/
theorem pi_enumA {X : Cx} {e : Expr} {ta : TA} {p pos tpos : Pos} {elts : List Expr} {kk : Nat} (hg : Gl X "enumerate") (hm : X.mg "enumerate" = none) (ha : PA X [e] ta) (hs : starEach [e] X.env = [(false, eval e X.env)] := by rfl) :
    PI X (.Tuple elts kk tpos) (.Call (.Name "enumerate" p) [e] [] pos) (fun σ H R => ta σ H fun vs H1 => ∃ a, vs = [.ref a] ∧ ((∃ xs, SqL X.K H1 a xs ∧ R (Ite X.K a) H1) ∨ ∃ xs, SqT X.K H1 a xs ∧ R (Itm X.K a) H1)) := by
  refine ⟨fun pns s σ H R I h => ?_⟩
  refine Call_ (ld_blt I hg hm boot_enumerate (PyProof.Rows.callWith_type1 (thn (ha.run pos pns s σ H _ I h) fun us s1 ⟨vs, H1, I1, r1, q1⟩ => ?_) hs rfl))
  obtain ⟨a, rfl, q1⟩ := q1
  obtain ⟨u, rfl, r⟩ := vals1 r1
  cases r
  have cells : ∀ {b : Addr}, b ∈ [s1.heap.objs.size + 1, s1.heap.objs.size] → s1.heap.objs.size ≤ b := fun hb => by
    rcases List.mem_cons.mp hb with rfl | hb
    · exact Nat.le_add_right _ _
    · cases List.mem_singleton.mp hb; exact Nat.le_refl _
  rcases q1 with ⟨xs, hq, q⟩ | ⟨xs, hq, q⟩
  · obtain ⟨jts, rv, p', hz⟩ := I1.list hq
    refine call_enumerate_list p'.isList fun h' he hit hsz hk => wpAny_pyIter_enum he ?_
    exact ⟨s1.heap.objs.size + 1, [s1.heap.objs.size + 1, s1.heap.objs.size], _, _, H1, rfl, I1.kept (t' := s1.toks) hk, turn_enum a (s1.heap.objs.size + 1) s1.heap.objs.size, ⟨⟨.none, he⟩, hit, Nat.succ_ne_self _⟩, fun b hb => I1.fpOk (cells hb) (I1.hok.fresh (cells hb)), q⟩
  · obtain ⟨jts, rv, p', hz⟩ := I1.tuple hq
    have p2 : s1.heap.IsTuple a jts.toArray := p'
    have hlt : a < s1.heap.objs.size := by obtain ⟨o, ho, _⟩ := p2; exact Heap.lt_size ho
    refine call_enumT p2 fun h' he hit hsz hk => wpAny_pyIter_enum he ?_
    exact ⟨s1.heap.objs.size + 1, [s1.heap.objs.size + 1, s1.heap.objs.size], _, _, H1, rfl, I1.kept (t' := s1.toks) hk, turn_enumT a (s1.heap.objs.size + 1) s1.heap.objs.size, ⟨⟨.none, he⟩, hit, Nat.succ_ne_self _, Nat.ne_of_lt hlt⟩, fun b hb => I1.fpOk (cells hb) (I1.hok.fresh (cells hb)), q⟩
theorem im_enum {X : Cx} {g : Cfg} {e : Expr} {A : EM} {p pos tpos : Pos} {elts : List Expr} {kk : Nat} (hK : X.K = g.K) (hg : Gl X "enumerate") (hm : X.mg "enumerate" = none) (he : PE X e (tM g A)) (hs : starEach [e] X.env = [(false, eval e X.env)] := by rfl) :
    PI X (.Tuple elts kk tpos) (.Call (.Name "enumerate" p) [e] [] pos) (tI g (enumI A)) := by
  refine PI.weak (pi_enumA hg hm (pa_cons he pa_nil (by rw [hs] <;> rfl)) hs) fun σ H R ⟨m, ds, h, hs, rh, o⟩ => ⟨m, ds, h, hs, rh, OutE.toI o fun d h1 v m1 H1 g1 r1 rh1 o1 => ?_⟩
  rw [hK]
  cases d with
  | tup xs =>
    unfold RepV at r1
    obtain ⟨p, vs, rfl, hp, rl⟩ := r1
    exact ⟨p, rfl, .inr ⟨vs, SqT.of hp, o1 _ m1 H1 (.refl _ _) rh1 (isIt_enumT hp rl)⟩⟩
  | loc l =>
    unfold RepV at r1
    obtain ⟨p, hp, rfl⟩ := r1
    cases q : h1[l]? with
    | none => simp only [enumF, q] at o1; exact o1.elim
    | some ao =>
      cases ao with
      | lst xs =>
        obtain ⟨vs, hv, rl⟩ := rh1.lst hp q
        simp only [enumF, q] at o1
        exact ⟨p, rfl, .inl ⟨vs, SqL.of hv, o1 _ m1 H1 (.refl _ _) rh1 (isIt_enumL hp)⟩⟩
      | _ => simp only [enumF, q] at o1; exact o1.elim
  | _ => exact (show False from o1).elim
@[simp] theorem wp_enumI {ds : Sl} {h : Hs} {X : QX} {P : List D × (Hs → Prop) → Hs → Prop} (A : EM) : (enumI A ds h).wp P X = (A ds h).wp (fun d h => match enumF d h with | some p => P p h | none => False) X := by
  simp only [enumI, wp_bind]
  congr 1; funext d h
  cases enumF d h <;> rfl
end DV
namespace DV
open PySem PySem.Spec PyProof.Rows L2
section
variable {X : QX} {ds : Sl} {h h0 : Hs} {Q : D → Hs → Prop} {own : List Nat} {I : IM} {T : GM} {C : TM} {A : EM} {gd : Hs → Prop}
@[simp] theorem wp_lc : (lcM own I T C A ds h).wp Q X = (I ds h).wp (fun p h => (lcLoop p.2 h.length T C A (wipeD ds own) p.1 (h ++ [.lst []])).wp Q X) X := by simp only [lcM, wp_bind]
@[simp] theorem wipe_nil : wipeD ds [] = ds := rfl
@[simp] theorem wipe_cons {v : Nat} {vs : List Nat} : wipeD ds (v :: vs) = (wipeD ds vs).set v none := rfl
/-- one turn: what it gives (none: left out), the heap as it is -/
def LcTurn (T : GM) (C : TM) (A : EM) (ds : Sl) (d : D) (o : Option D) (h : Hs) : Prop :=
  (T d ds h).wp (fun ds1 h1 => h1 = h ∧ (C ds1 h).wp (fun b h2 => h2 = h ∧ match o with
    | some y => b = true ∧ (A ds1 h).wp (fun y' h3 => y' = y ∧ h3 = h) xF
    | none => b = false) xF) (fun _ _ => False) xF
theorem lc_loop (its : List D) (fs : List (Option D)) (hl : its.length = fs.length) (acc : List D) (hz : acc.length + its.length ≤ 16777216)
    (g : ∀ acc : List D, gd (h0 ++ [.lst acc])) (turn : ∀ (i : Nat) (d : D) (o : Option D) (acc : List D), its[i]? = some d → fs[i]? = some o → LcTurn T C A ds d o (h0 ++ [.lst acc])) :
    lcLoop gd h0.length T C A ds its (h0 ++ [.lst acc]) = .ok (.loc h0.length) (h0 ++ [.lst (acc ++ fs.filterMap id)]) := by
  induction its generalizing fs acc with
  | nil =>
    have : fs = [] := List.eq_nil_of_length_eq_zero hl.symm
    subst this
    unfold lcLoop
    rw [if_pos (g acc)]
    simp
  | cons d its ih =>
    cases fs with
    | nil => cases hl
    | cons o fs =>
      simp only [List.length_cons] at hl hz
      have t := turn 0 d o acc rfl rfl
      have rest := fun acc' (hz' : acc'.length + its.length ≤ 16777216) => ih fs (by omega) acc' hz' fun i d' o' a e1 e2 => turn (i + 1) d' o' a e1 e2
      unfold lcLoop
      rw [if_pos (g acc)]
      unfold LcTurn at t
      cases q : T d ds (h0 ++ [.lst acc]) with
      | nx ds1 h1 =>
        rw [q] at t
        obtain ⟨rfl, t⟩ := t
        simp only
        cases q2 : C ds1 (h0 ++ [.lst acc]) with
        | ok b h2 =>
          rw [q2] at t
          obtain ⟨rfl, t⟩ := t
          rw [R.noX_ok, R.bind_ok]
          cases o with
          | none =>
            have t : b = false := t
            subst t
            rw [if_neg Bool.false_ne_true, rest acc (by omega)]
            rfl
          | some y =>
            obtain ⟨rfl, t⟩ := t
            rw [if_pos rfl]
            obtain ⟨y', h3, e, rfl, rfl⟩ := R.wp_ex t
            rw [e, R.noX_ok, R.bind_ok]
            have e1 : (h0 ++ [AO.lst acc])[h0.length]? = some (.lst acc) := by simp
            have e2 : (h0 ++ [AO.lst acc]).set h0.length (.lst (acc ++ [y'])) = h0 ++ [.lst (acc ++ [y'])] := by simp
            rw [e1]
            simp only
            rw [if_pos (by show acc.length < 16777216; omega), e2, rest (acc ++ [y']) (by rw [List.length_append]; simp; omega)]
            simp
        | exc c h2 => rw [q2] at t; exact t.elim
        | bad => rw [q2] at t; exact t.elim
      | _ => rw [q] at t; exact (show False from t).elim
theorem lc_map (its ys : List D) (hl : its.length = ys.length) (hz : its.length ≤ 16777216)
    (g : ∀ acc : List D, gd (h0 ++ [.lst acc])) (turn : ∀ (i : Nat) (d y : D) (acc : List D), its[i]? = some d → ys[i]? = some y → LcTurn T C A ds d (some y) (h0 ++ [.lst acc])) :
    lcLoop gd h0.length T C A ds its (h0 ++ [.lst []]) = .ok (.loc h0.length) (h0 ++ [.lst ys]) := by
  have := lc_loop (h0 := h0) (gd := gd) (T := T) (C := C) (A := A) (ds := ds) its (ys.map some) (by simpa using hl) [] (by simpa using hz) g fun i d o acc e1 e2 => by
    rw [List.getElem?_map] at e2
    cases q : ys[i]? with
    | none => rw [q] at e2; cases e2
    | some y => rw [q] at e2; cases e2; exact turn i d y acc e1 q
  rw [this, List.nil_append, List.filterMap_map]
  simp
/-- the test is none: every item gives its image -/
theorem lc_map1 {i : Nat} (its ys : List D) (hl : its.length = ys.length) (hz : its.length ≤ 16777216)
    (g : ∀ acc : List D, gd (h0 ++ [.lst acc])) (turn : ∀ (k : Nat) (d y : D) (acc : List D), its[k]? = some d → ys[k]? = some y → A (ds.set i (some d)) (h0 ++ [.lst acc]) = .ok y (h0 ++ [.lst acc])) :
    lcLoop gd h0.length (nameG i) yesM A ds its (h0 ++ [.lst []]) = .ok (.loc h0.length) (h0 ++ [.lst ys]) :=
  lc_map its ys hl hz g fun k d y acc e1 e2 => ⟨rfl, rfl, rfl, R.wp_eq.mpr (turn k d y acc e1 e2)⟩
end
@[simp] theorem wp_maxd {ds : Sl} {h : Hs} {Q : D → Hs → Prop} {X : QX} (A B : EM) : (maxdF A B ds h).wp Q X = (A ds h).wp (fun d h => (B ds h).wp (fun e h => (maxdR d e h).wp Q X) X) X := by simp only [maxdF, wp_bind]
theorem wp_new {φ : Fm} {xs : List D} {h : Hs} {Q : D → Hs → Prop} {X : QX} (w : (φ xs h).wp (fun d h' => ∃ l o, d = .loc l ∧ h'[l]? = some o ∧ h.length ≤ l ∧ h'.take h.length = h ∧ nolocO o = true ∧ Q (.loc h.length) (h ++ [o])) (fun c h' => h'.take h.length = h ∧ X c h)) : (kNew.f φ xs h).wp Q X := by
  show (nNew φ xs h).wp Q X
  unfold nNew
  cases e : φ xs h with
  | ok d h' =>
    rw [e] at w
    obtain ⟨l, o, rfl, e1, c1, c2, c3, q⟩ := w
    simp only [e1]
    rw [if_pos ⟨c1, c2, c3⟩]
    exact q
  | exc c h' =>
    rw [e] at w
    simp only
    rw [if_pos w.1]
    exact w.2
  | bad => rw [e] at w; exact w
theorem append_lst {h : Hs} {l : Nat} {xs : List D} {v : D} (e : h[l]? = some (.lst xs)) (hz : xs.length < 16777216) : appendF (.loc l) [v] h = some (.non, h.set l (.lst (xs ++ [v]))) := by
  simp [appendF, e, hz]
theorem pop_lst {h : Hs} {l : Nat} {xs : List D} {v : D} (e : h[l]? = some (.lst (xs ++ [v]))) : popF (.loc l) [] h = some (v, h.set l (.lst xs)) := by
  simp [popF, e]
theorem ck_lst {h : Hs} {l : Nat} {xs : List D} (e : h[l]? = some (.lst xs)) : ckList (.loc l) h = true := by simp [ckList, e]
theorem at_last {α : Type} {xs : List α} {a : α} : atI (xs ++ [a]) (-1) = some a := by
  have e : ixN (xs ++ [a]).length (-1) = some xs.length := by
    unfold ixN
    have e1 : ((-1 : Int) + ((xs ++ [a]).length : Int)).toNat = xs.length := by rw [List.length_append, List.length_singleton]; omega
    rw [if_neg (by decide), if_pos (by rw [List.length_append, List.length_singleton]; omega), e1]
  unfold atI
  rw [e]
  simp
section
variable {N : Sl → Hs → Prop} {Q : D → Hs → Prop} {X : QX} {ds : Sl} {h h1 : Hs} {d : D}
theorem st_set {i : Nat} {A : EM} {B : SM} (d : D) (h1 : Hs) (e : (A ds h).wp (fun a' h' => a' = d ∧ h' = h1) xF) (w : (B (ds.set i (some d)) h1).wp N Q X) : (seqM (setM i A) B ds h).wp N Q X := by
  rw [ws_seq, ws_set, R.wp_eq.mp e]
  exact w
theorem RS.wp_eq {r : RS} {ds : Sl} {h : Hs} (w : r.wp (fun a b => a = ds ∧ b = h) (fun _ _ => False) xF) : r = .nx ds h := by
  cases r with
  | nx a b => obtain ⟨rfl, rfl⟩ := w; rfl
  | rt _ _ => exact w.elim
  | exc _ _ _ => exact w.elim
  | bk _ _ => exact w.elim
  | ct _ _ => exact w.elim
  | bad => exact w.elim
theorem st_seq {A B : SM} (ds1 : Sl) (h1 : Hs) (e : (A ds h).wp (fun a b => a = ds1 ∧ b = h1) (fun _ _ => False) xF) (w : (B ds1 h1).wp N Q X) : (seqM A B ds h).wp N Q X := by
  rw [ws_seq, RS.wp_eq e]
  exact w
theorem st_if {T : TM} {A B : SM} (b : Bool) (h1 : Hs) (e : (T ds h).wp (fun a' h' => a' = b ∧ h' = h1) xF) (w : if b = true then (A ds h1).wp N Q X else (B ds h1).wp N Q X) : (ifM T A B ds h).wp N Q X := by
  rw [ws_if, R.wp_eq.mp e]
  exact w
end
theorem st_guard {N : Sl → Hs → Prop} {Q : D → Hs → Prop} {X : QX} {ds : Sl} {h : Hs} {T : TM} {A C : SM} (h1 : Hs) (e : (T ds h).wp (fun a' h' => a' = false ∧ h' = h1) xF) (w : (C ds h1).wp N Q X) : (seqM (ifM T A passM) C ds h).wp N Q X := by
  rw [ws_seq, ws_if, R.wp_eq.mp e]
  exact w
end DV
namespace DV
open PySem PySem.Spec PyProof.Rows L2
def dctO : AO → Option (List (Key × D))
  | .dct kvs => some kvs
  | .fdc kvs => some kvs
  | _ => none
def dK : Key → D
  | .inl i => .int i
  | .inr s => .str s
def newDM : EM := fun _ h => .ok (.loc h.length) (h ++ [.dct []])
def newTM : EM := fun _ h => .ok (.loc h.length) (h ++ [.dcT []])
/-- a list, a dict written -/
def setAF : D → D → D → Hs → Option Hs
  | .loc l, i, v, h => match h[l]? with
    | some (.lst ds) => (match i with
      | .int i => (ixN ds.length i).map fun j => h.set l (.lst (ds.set j v))
      | _ => none)
    | some (.dct kvs) => if kvs.length < LIM then (keyD i).map fun k => h.set l (.dct (putD kvs k v)) else none
    | some (.dcT kvs) => (match i with
      | .tup ks => if kvs.length < LIM then (keysD ks).map fun k => h.set l (.dcT (putD kvs k v)) else none
      | _ => none)
    | _ => none
  | _, _, _, _ => none
def getDF : D → List D → Hs → Res
  | .loc l, [i, x], h => match h[l]? with
    | some (.dct kvs) => (keyD i).map fun k => ((valD kvs k).getD x, h)
    | some (.fdc kvs) => (keyD i).map fun k => ((valD kvs k).getD x, h)
    | _ => none
  | _, _, _ => none
def setdF : D → List D → Hs → Res
  | .loc l, [i, x], h => match h[l]? with
    | some (.dct kvs) => if kvs.length < LIM then (keyD i).map fun k => (match valD kvs k with
      | some v => (v, h)
      | none => (x, h.set l (.dct (putD kvs k x)))) else none
    | _ => none
  | _, _, _ => none
section
variable {K : PySem.W.Frag} {m : List Addr} {H : Hp} {h : Hs} {l : Nat} {a : Addr}
theorem RepH.rdD {o : AO} {kvs : List (Key × D)} (rh : RepH K m H h) (ha : m[l]? = some a) (e : h[l]? = some o) (q : dctO o = some kvs) : ∃ ks : List (Key × V), Rd H a (.dK ks) ∧ kvs.map (·.1) = ks.map (·.1) ∧ RepL K m H (kvs.map (·.2)) (ks.map (·.2)) := by
  cases o with
  | dct x =>
    cases q
    obtain ⟨ks, hk, kk, rk⟩ := rh.at_ _ a _ ha e
    exact ⟨ks, .inl hk, kk, rk⟩
  | fdc x =>
    cases q
    obtain ⟨ob, ks, hk, kk, rk⟩ := rh.at_ _ a _ ha e
    exact ⟨ks, .inr ⟨ob, hk⟩, kk, rk⟩
  | lst _ => cases q
  | dcT _ => cases q
  | ins _ _ => cases q
theorem put_dct {kvs kvs0 : List (Key × D)} {ks ks0 : List (Key × V)} (rh : RepH K m H h) (ha : m[l]? = some a) (hv : H a = some (.dK ks0)) (kk : kvs.map (·.1) = ks.map (·.1)) (rk : RepL K m H (kvs.map (·.2)) (ks.map (·.2))) :
    Grow m H m (upd H a (.dK ks)) ∧ RepH K m (upd H a (.dK ks)) (h.set l (.dct kvs)) := by
  have w : Grow m H m (upd H a (.dK ks)) := .write hv (fun _ z => nomatch z) (fun _ _ z => nomatch z) (fun _ z => nomatch z)
  exact ⟨w, rh.write ha hv (fun _ z => nomatch z) (fun _ _ z => nomatch z) (fun _ z => nomatch z) ⟨ks, upd_same, kk, rk.mono w⟩⟩
end
section
variable {X : Cx} {g : Cfg} {pos : Pos}
theorem em_newD : PE X (.Dict [] [] pos) (tM g newDM) := PE.weak pe_dnewK fun σ H Q ⟨m, ds, h, hs, rh, o⟩ p hp =>
  o (.ref p) (m ++ [p]) _ (.app hp) (by unfold RepV; exact ⟨p, by rw [← rh.len]; simp, rfl⟩) (rh.new hp ⟨[], upd_same, rfl, by show RepL g.K _ _ [] []; exact .nil⟩)
theorem s_any (hu : X.A.units + 1 < cLine) : PSet X (rSt X.K setAF) := by
  intro pns s σ H o i v ov iv u Q I ro ri rv h
  obtain ⟨m, hs, od, id, vd, r1, r2, r3, rh, q⟩ := h
  unfold setAF at q
  split at q
  · rename_i l
    unfold RepV at r1
    obtain ⟨a, ha, rfl⟩ := r1
    split at q
    · rename_i xs e
      split at q
      · refine s_list pns s σ H _ _ _ ov iv u Q I ro ri rv ⟨m, hs, .loc l, .int _, vd, by unfold RepV; exact ⟨a, ha, rfl⟩, r2, r3, rh, ?_⟩
        unfold setLF
        simp only [e]
        exact q
      · exact q.elim
    · rename_i kvs e
      obtain ⟨ks, hk, kk, rk⟩ := rh.at_ _ a _ ha e
      split at q
      · rename_i hz
        cases c : keyD id with
        | none => rw [c] at q; exact q.elim
        | some k =>
          rw [c] at q
          have := kV_keyD r2 c
          subst this
          obtain ⟨kk2, rk2⟩ := put_rep k r3 kk rk
          obtain ⟨w, rh2⟩ := put_dct (kvs0 := kvs) rh ha hk kk2 rk2
          cases ro
          have hl : ks.length < sizeLine := by rw [LIM_eq]; have := congrArg List.length kk; simp at this; omega
          exact d_setItem hu I (DPut.k hk hl) ri rv fun s' I' => ⟨_, I', q m _ w rh2⟩
      · exact q.elim
    · rename_i kvs e
      obtain ⟨ks, hk, kk, rk⟩ := rh.at_ _ a _ ha e
      split at q
      · rename_i kd
        split at q
        · rename_i hz
          cases c : keysD kd with
          | none => rw [c] at q; exact q.elim
          | some k =>
            rw [c] at q
            unfold RepV at r2
            obtain ⟨b, xs, rfl, hb, rl⟩ := r2
            have := kV_keysD rl c
            subst this
            obtain ⟨kk2, rk2⟩ := put_rep k r3 kk rk
            have w : Grow m H m (upd H a (.dT (putK ks k v))) := .write hk (fun _ z => nomatch z) (fun _ _ z => nomatch z) (fun _ z => nomatch z)
            have rh2 : RepH X.K m (upd H a (.dT (putK ks k v))) (hs.set l (.dcT (putD kvs k vd))) := rh.write ha hk (fun _ z => nomatch z) (fun _ _ z => nomatch z) (fun _ z => nomatch z) ⟨_, upd_same, kk2, rk2.mono w⟩
            cases ro
            have hl : ks.length < sizeLine := by rw [LIM_eq]; have := congrArg List.length kk; simp at this; omega
            exact d_setItem hu I (DPut.t hk hb hl) ri rv fun s' I' => ⟨_, I', q m _ w rh2⟩
        · exact q.elim
      · exact q.elim
    · exact q.elim
  · exact q.elim
theorem get_core (hu : X.A.units + 1 < cLine) {pns : List (Addr × Obj)} {s : Shared} {σ : St} {H : Hp} {v : Value} {us : List Value} {Q : VK} {m : List Addr} {hs : Hs} {l : Nat} {a : Addr} {o : AO} {kvs : List (Key × D)} {i x : D} {y z : V} {k : Key}
    (I : Inv X pns σ H s) (ha : m[l]? = some a) (rx : RelV (.ref a) v) (rv : Vals [y, z] us) (ry : RepV X.K m H i y) (rz : RepV X.K m H x z) (rh : RepH X.K m H hs) (e : hs[l]? = some o) (q : dctO o = some kvs) (c : keyD i = some k)
    (w : OutV X.K m H Q (some ((valD kvs k).getD x, hs))) : wpAny (model X.prog X.w) X.A (call (.builtin "dict.get") (v :: us)) (EP X pns σ Q) X.xe s := by
  obtain ⟨ks, hk, kk, rk⟩ := rh.rdD ha e q
  obtain ⟨u1, u2, rfl, r1, r2⟩ := vals2 rv
  have := kV_keyD ry c
  subst this
  cases rx
  refine d_get2 hu I (.inl ⟨ks, k, hk, rfl, rfl⟩) r1 r2 fun w' s' I' rw' => ⟨_, H, I', rw', ?_⟩
  refine OutV.keep w ?_ rh
  rcases valD_rep k kk rk with ⟨p, p2⟩ | ⟨d, v', p, p2, r⟩
  · rw [p, p2]; exact rz
  · rw [p, p2]; exact r
theorem k_get (hu : X.A.units + 1 < cLine) : MtR X "dict.get" (rMt X.K getDF) := by
  intro pns s σ H x vs v us Q I rx rv h
  obtain ⟨m, hs, d, ds, r1, rl, rh, o⟩ := h
  unfold getDF at o
  split at o
  · rename_i l i y
    unfold RepV at r1
    obtain ⟨a, ha, rfl⟩ := r1
    obtain ⟨v1, v2, rfl, q1, q2⟩ := repL2 rl
    split at o
    · rename_i kvs e
      cases c : keyD i with
      | none => rw [c] at o; exact o.elim
      | some k => rw [c] at o; exact get_core hu I ha rx rv q1 q2 rh e rfl c o
    · rename_i kvs e
      cases c : keyD i with
      | none => rw [c] at o; exact o.elim
      | some k => rw [c] at o; exact get_core hu I ha rx rv q1 q2 rh e rfl c o
    · exact o.elim
  · exact o.elim
theorem k_setd : MtR X "dict.setdefault" (rMt X.K setdF) := by
  intro pns s σ H x vs v us Q I rx rv h
  obtain ⟨m, hs, d, ds, r1, rl, rh, o⟩ := h
  unfold setdF at o
  split at o
  · rename_i l i y
    unfold RepV at r1
    obtain ⟨a, ha, rfl⟩ := r1
    obtain ⟨v1, v2, rfl, q1, q2⟩ := repL2 rl
    split at o
    · rename_i kvs e
      split at o
      · rename_i hz
        cases c : keyD i with
        | none => rw [c] at o; exact o.elim
        | some k =>
          rw [c, Option.map_some] at o
          obtain ⟨ks, hk, kk, rk⟩ := rh.at_ _ a _ ha e
          obtain ⟨u1, u2, rfl, w1, w2⟩ := vals2 rv
          have := kV_keyD q1 c
          subst this
          cases rx
          obtain ⟨z, hd, ws, rel, dd⟩ := dk_of I.hok hk
          have hz2 : ws.length ≤ sizeLine := by rw [← rel.length]; exact z
          refine call_meetsIn PySem.F.slot_dict_setdefault dd.typeIs PySem.F.entry_dict_setdefault (PySem.F.args_dict_setdefault_3 _ _ _) (kt_meets_setdefault (mixKind X.prog X.w) a (kV_is w1) hd u2) ⟨ws, dd, hz2, fun v' hv' => ?_, fun hn h' dd' hs' => ?_⟩
          · have rr := rel.val k
            rw [hv'] at rr
            rcases valD_rep k kk rk with ⟨p, p2⟩ | ⟨d', v'', p, p2, r⟩
            · rw [p2] at rr; exact rr.elim
            · rw [p2] at rr
              simp only [p] at o
              exact ⟨v'', H, I.tok _, rr, OutV.keep o r rh⟩
          · have rr := rel.val k
            rw [hn] at rr
            rcases valD_rep k kk rk with ⟨p, p2⟩ | ⟨d', v'', p, p2, r⟩
            · simp only [p] at o
              obtain ⟨kk2, rk2⟩ := put_rep k q2 kk rk
              obtain ⟨w, rh2⟩ := put_dct (kvs0 := kvs) rh ha hk kk2 rk2
              have he : ∃ q, h'.get? a = some q := let ⟨q, _, _, hq, _⟩ := dd'; ⟨q, hq⟩
              have hl : (putK ks k v2).length ≤ sizeLine := by
                have l1 := length_putK ks k v2
                rw [LIM_eq]
                have l2 := congrArg List.length kk
                simp at l2
                omega
              exact ⟨v2, _, d_write (t' := s.toks + 1) I (by rw [hk]; exact True.intro) hs' he (dk_new hl hd (rel.put k w2) dd'), w2, o v2 m _ w (q2.mono w) rh2⟩
            · rw [p2] at rr; exact rr.elim
      · exact o.elim
    · exact o.elim
  · exact o.elim
end
end DV
namespace DV
open PySem PySem.Spec PyProof.Rows L2
end DV
namespace DV
open PySem PySem.Spec PyProof.Rows L2
theorem tuple_mul1 (l : Addr) (items : Array Value) (n : Nat) (dd : Option Addr) (sl : Array (Option Value)) (x : Int) (u : Tok) (c0 : (decide (x < -(2 ^ 63)) || decide (x ≥ 2 ^ 63)) = false) (c1 : (items.isEmpty || x == 1) = true) :
    Meets (Builtin.«tuple.__mul__» ⟨[.ref l, .int x u], []⟩) (fun _ R s => s.heap.get? l = some { cls := .type "tuple", dict := dd, data := .seq items n, slots := sl } ∧ R (.ok (.ret (Value.ref l))) s) :=
  .of_wp fun prog w A R s h => by
    obtain ⟨hp, g, d, tk, os⟩ := s
    obtain ⟨hl, h⟩ := h
    have f1 := AutoSeq1.idx_int
    wp_walk using wpAny_loadPart' hl
    repeat (first
      | (refine wpAny_ite_false (decide_eq_false (by rw [c0]; exact Bool.false_ne_true)) ?_; wp_walk using wpAny_loadPart' hl)
      | (refine wpAny_ite_true (decide_eq_true c1) ?_; wp_walk using wpAny_loadPart' hl))
    exact ⟨_, rfl, h⟩
theorem tuple_mul0 (l : Addr) (items : Array Value) (n : Nat) (dd : Option Addr) (sl : Array (Option Value)) (x : Int) (u : Tok) (c0 : (decide (x < -(2 ^ 63)) || decide (x ≥ 2 ^ 63)) = false) (c1 : (items.isEmpty || x == 1) = false) (c2 : (decide (x ≤ 0) || items.isEmpty) = true) :
    Meets (Builtin.«tuple.__mul__» ⟨[.ref l, .int x u], []⟩) (fun _ R s => s.heap.get? l = some { cls := .type "tuple", dict := dd, data := .seq items n, slots := sl } ∧
      R (.ok (.ret (Value.ref s.heap.objs.size))) { s with heap := s.heap.push { cls := Value.type "tuple", data := Data.seq #[] }, toks := s.toks }) :=
  .of_wp fun prog w A R s h => by
    obtain ⟨hp, g, d, tk, os⟩ := s
    obtain ⟨hl, h⟩ := h
    have f1 := AutoSeq1.idx_int
    have hsz : (#[] : Array Value).size ≤ sizeLine := by rw [sizeLine_eq]; decide
    wp_walk using wpAny_loadPart' hl
    repeat (first
      | (refine wpAny_ite_false (decide_eq_false (by rw [c0]; exact Bool.false_ne_true)) ?_; wp_walk using wpAny_loadPart' hl)
      | (refine wpAny_ite_false (decide_eq_false (by rw [c1]; exact Bool.false_ne_true)) ?_; wp_walk using wpAny_loadPart' hl)
      | (refine wpAny_ite_true (decide_eq_true c2) ?_; wp_walk using wpAny_loadPart' hl))
    exact ⟨_, rfl, h⟩
def rRepX (K : PySem.W.Frag) : R2 := fun x y H Q => ∃ l k xs, x = .ref l ∧ y = .int k ∧ SqT K H l xs ∧ -1000 ≤ k ∧ k ≤ 1000 ∧ xs.length ≤ 1000 ∧ ((xs = [] ∨ k = 1) → Q (.ref l) H) ∧ ∀ p, H p = none → Q (.ref p) (upd H p (.tup (List.replicate k.toNat xs).flatten))
section
variable {X : Cx}
theorem op_repX : OpR X (binaryOp .Mult) (rRepX X.K) := by
  intro pns s σ H x y v u Q I rx ry h
  obtain ⟨l, k, xs, rfl, rfl, hT, h1, h2, hz, q1, q⟩ := h
  by_cases big : xs ≠ [] ∧ 2 ≤ k
  · exact op_repT pns s σ H _ _ v u Q I rx ry ⟨l, k, xs, rfl, rfl, hT, big.1, big.2, h2, hz, q⟩
  cases rx
  obtain ⟨t, rfl⟩ := ry
  obtain ⟨jts, r, ⟨⟨cls, dd, data, sl⟩, ho, hc, n, hd⟩, hs⟩ := I.tuple hT
  simp only at hc hd
  subst hc hd
  have hle : jts.length = xs.length := r.length.symm
  have c0 : (decide (k < -(2 ^ 63)) || decide (k ≥ 2 ^ 63)) = false := by
    rw [decide_eq_false (by omega), decide_eq_false (by omega)] <;> rfl
  refine wpAny_binaryOp_repeat_ref (T := "tuple") (U := "int") (by decide) ⟨_, ho, rfl⟩ (fun s' => typeIs_int s' k t) noFill_tuple_mul F.fills_int_mul F.slot_int_rmul repeat_tuple F.slot_int_index.lookup
    (call_meets F.slot_int_rmul (typeIs_int s k t) F.entry_int_rmul (F.args_int_rmul_2 _ _) (int_rmul_tuple k t l jts.toArray n dd sl) ⟨ho, rfl, ⟨_, ho, rfl⟩, ?_⟩)
  by_cases z : xs = [] ∨ k = 1
  · have c1 : (jts.toArray.isEmpty || k == 1) = true := by
      rcases z with z | z
      · have : jts = [] := List.eq_nil_of_length_eq_zero (by rw [hle, z]; rfl)
        subst this; rfl
      · subst z; simp
    exact call_meets F.slot_tuple_mul ⟨_, ho, rfl⟩ F.entry_tuple_mul (F.args_tuple_mul_2 _ _) (tuple_mul1 l jts.toArray n dd sl k t c0 c1) ⟨ho, ⟨.ref l, H, I, rfl, q1 z⟩⟩
  · have hn : jts ≠ [] := fun e => z (.inl (List.eq_nil_of_length_eq_zero (by rw [← hle, e]; rfl)))
    have hx : xs ≠ [] := fun e => z (.inl e)
    have hi : jts.toArray.isEmpty = false := by
      cases jts with
      | nil => exact absurd rfl hn
      | cons a b => rfl
    have hk : k ≤ 0 := by
      have : ¬ 2 ≤ k := fun c => big ⟨hx, c⟩
      have : k ≠ 1 := fun c => z (.inr c)
      omega
    have c1 : (jts.toArray.isEmpty || k == 1) = false := by
      rw [hi, Bool.false_or]; exact beq_eq_false_iff_ne.mpr (by omega)
    have c2 : (decide (k ≤ 0) || jts.toArray.isEmpty) = true := by rw [decide_eq_true hk]; rfl
    have e0 : (List.replicate k.toNat xs).flatten = [] := by
      have : k.toNat = 0 := by omega
      rw [this]; rfl
    have q2 := q s.heap.objs.size (I.hok.fresh (Nat.le_refl _))
    rw [e0] at q2
    refine call_meets F.slot_tuple_mul ⟨_, ho, rfl⟩ F.entry_tuple_mul (F.args_tuple_mul_2 _ _) (tuple_mul0 l jts.toArray n dd sl k t c0 c1 c2) ⟨ho, ?_⟩
    refine ⟨.ref s.heap.objs.size, _, I.laid (t' := s.toks) (o := .tup []) (fun b ob q => Heap.get?_push_of_some _ q) (Nat.le_refl _) ?_, rfl, q2⟩
    exact ⟨by rw [sizeLine_eq]; decide, [], .nil, IsTup.new _ _⟩
end
theorem RepL.rep {K : PySem.W.Frag} {m : List Addr} {H : Hp} {ds : List D} {vs : List V} (r : RepL K m H ds vs) : ∀ k : Nat, RepL K m H (List.replicate k ds).flatten (List.replicate k vs).flatten
  | 0 => .nil
  | k + 1 => by
    rw [List.replicate_succ, List.replicate_succ, List.flatten_cons, List.flatten_cons]
    exact r.append (RepL.rep r k)
noncomputable def mulXF : VF2
  | .tup xs, .int k, h => if -1000 ≤ k ∧ k ≤ 1000 ∧ xs.length ≤ 1000 then some (.tup (List.replicate k.toNat xs).flatten, h) else none
  | d, e, h => mulF d e h
theorem o_mulX {X : Cx} : OpR X (binaryOp .Mult) (rV X.K mulXF) := by
  intro pns s σ H x y v u Q I rx ry h
  obtain ⟨m, hs, dx, dy, r1, r2, rh, o⟩ := h
  unfold mulXF at o
  split at o
  · rename_i xs k
    split at o
    · rename_i c
      have r1' := r1
      unfold RepV at r1 r2
      obtain ⟨a, vs, rfl, ha, rl⟩ := r1
      subst r2
      have ne : vs = [] ↔ xs = [] := rl.nil_iff
      refine op_repX pns s σ H _ _ v u Q I rx ry ⟨a, k, vs, rfl, rfl, SqT.of ha, c.1, c.2.1, by rw [rl.length]; exact c.2.2, fun z => ?_, fun p hp => ?_⟩
      · have e : (List.replicate k.toNat xs).flatten = xs := by
          rcases z with z | z
          · rw [ne.mp z]; simp
          · subst z; simp
        rw [e] at o
        exact OutV.keep o r1' rh
      · exact o (.ref p) m _ (.put hp) (by unfold RepV; exact ⟨p, _, rfl, upd_same, (rl.rep _).mono (.put hp)⟩) (rh.put hp)
    · exact o.elim
  · exact o_mul pns s σ H x y v u Q I rx ry ⟨m, hs, dx, dy, r1, r2, rh, o⟩
/-- which items -/
def stepIx (n : Nat) (lo st : Option Int) : List Nat := sliceRange (sliceBounds lo none st n).1 (sliceBounds lo none st n).2.1 (sliceBounds lo none st n).2.2
def pickL {α : Type} (xs : List α) (lo st : Option Int) : List α := (stepIx xs.length lo st).filterMap fun i => xs[i]?
/-- with a step k, 2 to 9 -/
def stepF (d : D) (lo : Option Int) (k : Int) (h : Hs) : Res := match d with
  | .loc l => match h[l]? with
    | some (.lst ds) => if (pickL ds lo (some k)).length ≤ LIM then some (.loc h.length, h ++ [.lst (pickL ds lo (some k))]) else none
    | _ => none
  | .ro ns => if (pickL ns lo (some k)).length ≤ LIM then some (.loc h.length, h ++ [.lst ((pickL ns lo (some k)).map D.int)]) else none
  | _ => none
def stepM (A : EM) (lo : OM) (k : Int) : EM := fun ds h => (A ds h).bind fun d h => (lo ds h).bind fun l h => .ofO (stepF d l k h)
end DV
namespace DV
open PySem PySem.Spec PyProof.Rows L2
def strsOf : List D → Option (List Str)
  | [] => some []
  | .str s :: r => (strsOf r).map fun ss => s :: ss
  | _ => none
@[simp] theorem strsOf_map (ns : List Str) : strsOf (ns.map D.str) = some ns := by
  induction ns with
  | nil => rfl
  | cons n ns ih => rw [List.map_cons]; unfold strsOf; rw [ih]; rfl
def disp1M (A B : EM) : EM := fun ds h => (A ds (h ++ [.dct []])).bind fun k h1 => (B ds h1).bind fun v h2 => match keyD k, h2[h.length]? with
  | some k, some (.dct []) => .ok (.loc h.length) (h2.set h.length (.dct [(k, v)]))
  | _, _ => .bad
section
variable {N : Sl → Hs → Prop} {Q : D → Hs → Prop} {X : QX} {ds : Sl} {h : Hs}
@[simp] theorem wp_newD : (newDM ds h).wp Q X = Q (.loc h.length) (h ++ [.dct []]) := rfl
@[simp] theorem wp_newT : (newTM ds h).wp Q X = Q (.loc h.length) (h ++ [.dcT []]) := rfl
@[simp] theorem wp_step (A : EM) (lo : OM) (k : Int) : (stepM A lo k ds h).wp Q X = (A ds h).wp (fun d h => (lo ds h).wp (fun l h => (R.ofO (stepF d l k h)).wp Q X) X) X := by simp only [stepM, wp_bind]
@[simp] theorem wp_disp1 (A B : EM) : (disp1M A B ds h).wp Q X = (A ds (h ++ [.dct []])).wp (fun k h1 => (B ds h1).wp (fun v h2 => match keyD k, h2[h.length]? with
  | some k, some (.dct []) => Q (.loc h.length) (h2.set h.length (.dct [(k, v)]))
  | _, _ => False) X) X := by
  simp only [disp1M, wp_bind]
  congr 1; funext k h1
  congr 1; funext v h2
  split <;> rfl
end
end DV
namespace DV
open PySem PySem.Spec PyProof.Rows L2
def kxB (K : PySem.W.Frag) (C : Addr) : Bool :=
  (PySem.W.clsIn K C).isSome && (decide (PySem.W.findIn K (.ref C) "__getattribute__" = some (some (.builtin "BaseException.__getattribute__"))) && ((PySem.W.findIn K (.ref C) "__getattr__").isSome &&
  (decide (PySem.W.subIn K (.ref C) (.type "BaseException") = some true) && (decide (PySem.W.findIn K (.ref C) "__class__" = some (some (.builtin "object.__class__"))) &&
  (decide (PySem.W.specialIn K (.builtin "object.__class__") "__get__" = some (some (.builtin "getset_descriptor.__get__"))) && (decide (PySem.W.takesIn K (.builtin "object.__class__") = some true) && decide (PySem.W.mroIn K C (.type "object") = some true)))))))
inductive Fx where
  | he (f : He.Fa)
  | kx (x : Str)
  | ix (x y : Str) (b : Bool)
  | ib (x : Str) (T : String) (b : Bool)
def Fx.ok (K : PySem.W.Frag) : Fx → Bool
  | .he f => f.ok K
  | .kx x => kxB K (He.ga K x)
  | .ix x y b => decide (PySem.W.kitOne K (.ref (He.ga K x)) (.ref (He.ga K y)) = some b)
  | .ib x T b => decide (PySem.W.kitOne K (.ref (He.ga K x)) (.type T) = some b)
def obsX (fa : List Fx) (fn : List He.DefD) (K : PySem.W.Frag) : He.AlD := ((fa.all fun f => f.ok K) && fn.all fun d => d.ok K, fn.map fun d => He.fnW K d.at_)
def SaysX (fa : List Fx) (fn : List He.DefD) (K : PySem.W.Frag) : Prop := obsX fa fn K = He.valD fn
def obsXG (n : Nat) (fa : List Fx) (fn : List He.DefD) (g : Addr → Option Obj) : He.AlD := obsX fa fn (He.frG g (He.asD g n))
def hookX (n : Nat) (fa : List Fx) (fn : List He.DefD) : PySem.W.Hook where
  α := He.AlD
  obs := fun s => obsXG n fa fn s.heap.get?
  val := fun _ => He.valD fn
  says := fun _ h => ∃ K : PySem.W.Frag, K.In h ∧ SaysX fa fn K
  of := fun _ _ e => ⟨_, He.frG_in, e⟩
  keeps := fun _ _ _ ⟨K, hK, c⟩ k => ⟨K, PySem.W.Frag.In.keeps hK k, c⟩
theorem obsXG_eq {n : Nat} {fa : List Fx} {fn : List He.DefD} {g : Addr → Option Obj} {s : Shared} (h : ∀ a, g a = s.heap.get? a) : obsXG n fa fn g = (hookX n fa fn).obs s := by
  have e : g = s.heap.get? := funext h
  rw [e] <;> rfl
section
variable {fa : List Fx} {fn : List He.DefD} {K : PySem.W.Frag}
theorem SaysX.fact0 (c : SaysX fa fn K) (i : Nat) {f : Fx} (h : fa[i]? = some f := by rfl) : f.ok K = true := by
  have c1 := (He.ba (show ((fa.all fun f => f.ok K) && fn.all fun d => d.ok K) = true from congrArg (fun z : He.AlD => z.1) c)).1
  exact List.all_eq_true.mp c1 f (List.mem_of_getElem? h)
theorem SaysX.fact (c : SaysX fa fn K) (i : Nat) {f : He.Fa} (h : fa[i]? = some (.he f) := by rfl) : f.ok K = true := c.fact0 i h
theorem SaysX.def_ (c : SaysX fa fn K) (i : Nat) {d : He.DefD} (h : fn[i]? = some d := by rfl) : ∃ fd, FunD K d.name d.qual d.params d.body d.scope (d.dvs K) (d.kws K) (He.fAd K d.at_) fd := by
  have c2 := (He.ba (show ((fa.all fun f => f.ok K) && fn.all fun d => d.ok K) = true from congrArg (fun z : He.AlD => z.1) c)).2
  have e : fn.map (fun d => He.fnW K d.at_) = fn.map He.DefD.val := congrArg (fun z : He.AlD => z.2) c
  have e2 : (fn.map fun d => He.fnW K d.at_)[i]? = (fn.map He.DefD.val)[i]? := by rw [e]
  rw [List.getElem?_map, List.getElem?_map, h] at e2
  exact He.DefD.funD (Option.some.inj e2) (List.all_eq_true.mp c2 d (List.mem_of_getElem? h))
end
def tabF (tb : List (Str × Bool)) (c : Str) : Option Bool := (tb.find? fun p => decide (p.1 = c)).map (·.2)
def isXF (tb : List (Str × Bool)) (d : D) (h : Hs) : Res := match d with
  | .exn c => (tabF tb c).map fun b => (.bl b, h)
  | _ => none
end DV
namespace DV
open PySem PySem.Spec PyProof.Rows L2
end DV
namespace DV
open PySem PySem.Spec PyProof.Rows L2
def putFD (f : Str) (v : D) : List (Str × D) → List (Str × D)
  | [] => [(f, v)]
  | (g, x) :: r => if g = f then (g, v) :: r else (g, x) :: putFD f v r
def fldF (C f : Str) (d : D) (h : Hs) : Res := match d with
  | .loc l => match h[l]? with
    | some (.ins C' fs) => if C' = C then (fs.lookup f).map fun v => (v, h) else none
    | _ => none
  | _ => none
def fldM (C f : Str) (O : EM) : EM := unM (fldF C f) O
def setFldF (C f : Str) (d v : D) (h : Hs) : Option Hs := match d with
  | .loc l => match h[l]? with
    | some (.ins C' fs) => if C' = C ∧ fs.length < 1000 then some (h.set l (.ins C (putFD f v fs))) else none
    | _ => none
  | _ => none
def setFldM (C f : Str) (V O : EM) : SM := fun ds h => lift (V ds h) ds fun v h => lift (O ds h) ds fun o h => match setFldF C f o v h with
  | some h => .nx ds h
  | none => .bad
def methM (C m : Str) (φ : Fm) (O : EM) (As : AM) : EM := fun ds h => (O ds h).bind fun d h => match d with
  | .loc l => (match h[l]? with
    | some (.ins C' fs) => if C' = C ∧ fs.lookup m = none then (As ds h).bind fun xs h => φ (d :: xs) h else .bad
    | _ => .bad)
  | _ => .bad
def newM (C : Str) (φ : Fm) (As : AM) : EM := fun ds h => (As ds h).bind fun xs h => match φ (.loc h.length :: xs) (h ++ [.ins C []]) with
  | .ok .non h' => .ok (.loc h.length) h'
  | _ => .bad
end DV
namespace DV
open PySem PySem.Spec PyProof.Rows L2
section
variable {N : Sl → Hs → Prop} {Q : D → Hs → Prop} {X : QX} {ds : Sl} {h : Hs}
@[simp] theorem wp_fld (C f : Str) (O : EM) : (fldM C f O ds h).wp Q X = (O ds h).wp (fun d h => match fldF C f d h with | some p => Q p.1 p.2 | none => False) X := by
  unfold fldM
  rw [wp_un]
  congr 1; funext d h
  cases fldF C f d h <;> rfl
@[simp] theorem ws_setFld (C f : Str) (V O : EM) : (setFldM C f V O ds h).wp N Q X = (V ds h).wp (fun v h => (O ds h).wp (fun o h => match setFldF C f o v h with | some h => N ds h | none => False) X) X := by
  simp only [setFldM, ws_lift]
  congr 1; funext v h
  congr 1; funext o h
  cases setFldF C f o v h <;> rfl
@[simp] theorem wp_meth (C m : Str) (φ : Fm) (O : EM) (As : AM) : (methM C m φ O As ds h).wp Q X = (O ds h).wp (fun d h => match d with
    | .loc l => (match h[l]? with
      | some (.ins C' fs) => (C' = C ∧ fs.lookup m = none) ∧ (As ds h).wp (fun xs h => (φ (d :: xs) h).wp Q X) X
      | _ => False)
    | _ => False) X := by
  simp only [methM, wp_bind]
  congr 1; funext d h
  cases d with
  | loc l =>
    simp only
    cases h[l]? with
    | none => rfl
    | some o =>
      cases o with
      | ins C' fs =>
        simp only
        by_cases c : C' = C ∧ fs.lookup m = none
        · rw [if_pos c]; simp [c]
        · rw [if_neg c]; simp only [c, false_and]; rfl
      | _ => rfl
  | _ => rfl
@[simp] theorem wp_new_ (C : Str) (φ : Fm) (As : AM) : (newM C φ As ds h).wp Q X = (As ds h).wp (fun xs h => match φ (.loc h.length :: xs) (h ++ [.ins C []]) with
    | .ok .non h' => Q (.loc h.length) h'
    | _ => False) X := by
  simp only [newM, wp_bind]
  congr 1; funext xs h
  cases φ (.loc h.length :: xs) (h ++ [.ins C []]) with
  | ok d h' => cases d <;> rfl
  | exc _ _ => rfl
  | bad => rfl
end
end DV
namespace DV
open PySem PySem.Spec PyProof.Rows L2
section
variable {h : Hs} {i j : Int} {a b : Str} {xs ys : List D} {l : Nat} {v x : D}
@[simp] theorem mulX_int : mulXF (.int i) (.int j) h = if cMul i j = true then some (.int (i * j), h) else none := rfl
@[simp] theorem mulX_str : mulXF (.str a) (.int j) h = if cB (-1000000 ≤ j ∧ j ≤ 1000000 ∧ a.length ≤ 1000000 ∧ a.length * j.toNat ≤ LIM) = true then some (.str (repS a j.toNat), h) else none := rfl
@[simp] theorem mulX_tup : mulXF (.tup xs) (.int i) h = if -1000 ≤ i ∧ i ≤ 1000 ∧ xs.length ≤ 1000 then some (.tup (List.replicate i.toNat xs).flatten, h) else none := rfl
theorem set_lst {k : Nat} (e : h[l]? = some (.lst xs)) (hk : k < xs.length) : setAF (.loc l) (.int (k : Int)) v h = some (h.set l (.lst (xs.set k v))) := by
  simp [setAF, e, ixN, hk]
theorem set_dct {kvs : List (Key × D)} {k : D} {kk : Key} (e : h[l]? = some (.dct kvs)) (ek : keyD k = some kk) (hz : kvs.length < 16777216) : setAF (.loc l) k v h = some (h.set l (.dct (putD kvs kk v))) := by
  simp [setAF, e, hz, ek]
theorem get_dct {kvs : List (Key × D)} {k : D} {kk : Key} (e : h[l]? = some (.dct kvs)) (ek : keyD k = some kk) : getDF (.loc l) [k, x] h = some ((valD kvs kk).getD x, h) := by
  simp [getDF, e, ek]
theorem setd_dct {kvs : List (Key × D)} {k : D} {kk : Key} (e : h[l]? = some (.dct kvs)) (ek : keyD k = some kk) (hz : kvs.length < 16777216) : setdF (.loc l) [k, x] h = some (match valD kvs kk with | some v => (v, h) | none => (x, h.set l (.dct (putD kvs kk x)))) := by
  simp [setdF, e, hz, ek] <;> cases valD kvs kk <;> rfl
theorem ck_dct {kvs : List (Key × D)} (e : h[l]? = some (.dct kvs)) : ckDct (.loc l) h = true := by simp [ckDct, e]
@[simp] theorem key_int : keyD (.int i) = some (.inl i) := rfl
@[simp] theorem key_str : keyD (.str a) = some (.inr a) := rfl
end
end DV
namespace DV
open PySem PySem.Spec PyProof.Rows L2
def min2I (i j : Int) : Int := if j < i then j else i
def min3F : List D → Hs → Res
  | [.int i, .int j, .int k], h => some (.int (min2I (min2I i j) k), h)
  | _, _ => none
def blsOf : List D → Option (List Bool)
  | [] => some []
  | .bl s :: r => (blsOf r).map fun ss => s :: ss
  | _ => none
@[simp] theorem blsOf_map (ns : List Bool) : blsOf (ns.map D.bl) = some ns := by
  induction ns with
  | nil => rfl
  | cons n ns ih => rw [List.map_cons]; unfold blsOf; rw [ih]; rfl
def isTF : VF2
  | .bl a, .bl b, h => some (.bl (a == b), h)
  | _, _, _ => none
def isnTF : VF2
  | .bl a, .bl b, h => some (.bl (a != b), h)
  | _, _, _ => none
section
variable {X : Cx}
theorem o_isT : OpR X (compareOp .Is) (rV X.K isTF) := by
  intro pns s σ H x y v u Q I rx ry h
  obtain ⟨m, hs, dx, dy, r1, r2, rh, o⟩ := h
  unfold isTF at o
  split at o
  · rename_i a b
    unfold RepV at r1 r2
    subst r1 r2
    cases rx; cases ry
    exact is_bool ⟨.bl _, H, I, rfl, OutV.keep o (by unfold RepV; rfl) rh⟩
  · exact o.elim
end
@[simp] theorem min3_int {h : Hs} {i j k : Int} : min3F [.int i, .int j, .int k] h = some (.int (min2I (min2I i j) k), h) := rfl
@[simp] theorem isT_bl {h : Hs} {a b : Bool} : isTF (.bl a) (.bl b) h = some (.bl (a == b), h) := rfl
@[simp] theorem isnT_bl {h : Hs} {a b : Bool} : isnTF (.bl a) (.bl b) h = some (.bl (a != b), h) := rfl
end DV
namespace DV
open PySem PySem.Spec PyProof.Rows L2
end DV
namespace DV
open PySem PySem.Spec PyProof.Rows L2
noncomputable def m__law_draw : SM :=
  seqM (setM 3 (binM modF (binM mulXF (binM addF (vM 0) (cM (.int 1))) (binM addF (cM (.int 48271)) (binM mulXF (binM mulXF (cM (.int 7919)) (vM 1)) (vM 1)))) (cM (.int 2147483647)))) (retM (binM modF (binM fdivF (binM modF (binM mulXF (vM 3) (vM 3)) (cM (.int 2147483629))) (cM (.int 7))) (vM 2)))
noncomputable def F__law_draw : Nat → Fm
  | 0 => fun _ _ => .bad
  | n + 1 => kPure.f (runM 3 4 (m__law_draw))
noncomputable def m__law_cell_at : SM :=
  seqM (ifM (tbM (binM ltF (vM 1) (argM lenF (consA (vM 0) nilA)))) (retM (binM ixF (vM 0) (vM 1))) (passM)) (retM (cM (.int 0)))
noncomputable def F__law_cell_at : Nat → Fm
  | 0 => fun _ _ => .bad
  | n + 1 => kPure.f (runM 2 2 (m__law_cell_at))
theorem S__law_cell_at (n : Nat) : F__law_cell_at (n + 1) = kPure.f (runM 2 2 (m__law_cell_at)) := rfl
noncomputable def m__law_alike (f__law_alike : Fm) : SM :=
  seqM (ifM (truM (unM (isF "bool") (vM 1))) (retM (andV (unM (isF "bool") (vM 0)) (binM eqF (vM 0) (vM 1)))) (passM)) (seqM (ifM (truM (unM (isF "int") (vM 1))) (retM (andV (unM (isF "int") (vM 0)) (andV (notV (unM (isF "bool") (vM 0))) (binM eqF (vM 0) (vM 1))))) (passM)) (seqM (ifM (truM (unM (isF "str") (vM 1))) (retM (andV (unM (isF "str") (vM 0)) (binM eqF (vM 0) (vM 1)))) (passM)) (seqM (ifM (truM (unM (isF "tuple") (vM 1))) (ifM (notM (truM (unM (isF "tuple") (vM 0)))) (retM (cM (.bl false))) (passM)) (ifM (notM (truM (unM (isF "list") (vM 0)))) (retM (cM (.bl false))) (passM))) (seqM (ifM (tbM (binM neF (argM lenF (consA (vM 0) nilA)) (argM lenF (consA (vM 1) nilA)))) (retM (cM (.bl false))) (passM)) (seqM (forM (rngI rng1 (consA (argM lenF (consA (vM 1) nilA)) nilA)) (nameG 2) (ifM (notM (truM (callM f__law_alike (consA (binM ixF (vM 0) (vM 2)) (consA (binM ixF (vM 1) (vM 2)) nilA))))) (retM (cM (.bl false))) (passM))) (retM (cM (.bl true))))))))
noncomputable def F__law_alike : Nat → Fm
  | 0 => fun _ _ => .bad
  | n + 1 => kPure.f (runM 2 3 (m__law_alike (F__law_alike n)))
theorem S__law_alike (n : Nat) : F__law_alike (n + 1) = kPure.f (runM 2 3 (m__law_alike (F__law_alike n))) := rfl
noncomputable def m__law_names (f__law_draw : Fm) : SM :=
  seqM (setM 1 (cM (.str "abcdefghijklmnopqrstuvwxyz0123456789"))) (seqM (setM 2 (binM addF (cM (.int 1)) (callM f__law_draw (consA (vM 0) (consA (cM (.int 57)) (consA (cM (.int 12)) nilA)))))) (seqM (setM 3 (callM f__law_draw (consA (vM 0) (consA (cM (.int 58)) (consA (vM 2) nilA))))) (seqM (setM 4 (argM lstF (consA (cM (.str "")) (consA (cM (.str "")) (consA (cM (.str "")) (consA (cM (.str "")) nilA)))))) (seqM (forM (rngI rng1 (consA (vM 2) nilA)) (nameG 5) (seqM (setM 6 (binM addF (cM (.int 26)) (binM mulXF (cM (.int 10)) (argM intT (consA (binM gtF (vM 5) (cM (.int 0))) nilA))))) (seqM (setM 7 (callM f__law_draw (consA (vM 0) (consA (binM addF (cM (.int 60)) (vM 5)) (consA (vM 6) nilA))))) (seqM (setM 8 (argM intT (consA (binM eqF (vM 5) (vM 3)) nilA))) (forM (rngI rng1 (consA (cM (.int 4)) nilA)) (nameG 9) (seqM (setM 10 (binM ixF (vM 1) (binM modF (binM addF (vM 7) (binM mulXF (vM 9) (vM 8))) (vM 6)))) (setIxM setAF (binM addF (binM ixF (vM 4) (vM 9)) (vM 10)) (vM 4) (vM 9)))))))) (retM (vM 4))))))
noncomputable def F__law_names : Nat → Fm
  | 0 => fun _ _ => .bad
  | n + 1 => kNew.f (runM 1 11 (m__law_names (F__law_draw n)))
theorem S__law_names (n : Nat) : F__law_names (n + 1) = kNew.f (runM 1 11 (m__law_names (F__law_draw n))) := rfl
noncomputable def m__law_leaf (f__law_draw : Fm) : SM :=
  seqM (ifM (tbM (binM ltF (callM f__law_draw (consA (vM 0) (consA (cM (.int 3)) (consA (cM (.int 4)) nilA)))) (vM 3))) (seqM (setM 4 (argM lstF (consA (cM (.int 1)) (consA (cM (.int 2)) (consA (cM (.int 7)) (consA (binM powF (cM (.int 10)) (cM (.int 9))) (consA (binM addF (cM (.int 1)) (binM modF (vM 1) (binM powF (cM (.int 10)) (cM (.int 9))))) nilA))))))) (retM (argM tupF (consA (cM (.str "blank")) (consA (binM ixF (vM 4) (callM f__law_draw (consA (vM 0) (consA (cM (.int 4)) (consA (cM (.int 5)) nilA))))) nilA))))) (passM)) (retM (argM tupF (consA (cM (.str "block")) (consA (binM ixF (vM 2) (callM f__law_draw (consA (vM 0) (consA (cM (.int 2)) (consA (cM (.int 4)) nilA))))) (consA (argM tupF (nilA)) nilA)))))
noncomputable def F__law_leaf : Nat → Fm
  | 0 => fun _ _ => .bad
  | n + 1 => kPure.f (runM 4 5 (m__law_leaf (F__law_draw n)))
theorem S__law_leaf (n : Nat) : F__law_leaf (n + 1) = kPure.f (runM 4 5 (m__law_leaf (F__law_draw n))) := rfl
noncomputable def m__law_tree (f__law_draw f__law_leaf f__law_names : Fm) : SM :=
  seqM (setM 3 (callM f__law_names (consA (vM 1) nilA))) (seqM (setM 4 (argM lstF (consA (argM tupF (consA (binM ixF (vM 3) (cM (.int 0))) (consA (argM lstF (nilA)) nilA))) nilA))) (seqM (forM (valI (slM (vM 0) (noP) (someP (cM (.int 62))))) (nameG 5) (seqM (setM 6 (callM f__law_draw (consA (vM 5) (consA (cM (.int 1)) (consA (cM (.int 8)) nilA))))) (ifM (orM (tbM (binM eqF (argM lenF (consA (binM ixF (binM ixF (vM 4) (unM negF (cM (.int 1)))) (cM (.int 1))) nilA)) (cM (.int 9)))) (andM (tbM (binM eqF (vM 6) (cM (.int 0)))) (tbM (binM gtF (argM lenF (consA (vM 4) nilA)) (cM (.int 1)))))) (seqM (asgM (mtMc ckList popF (vM 4) nilA) (okG (tupG 2 (consG (nameG 7) (consG (nameG 8) (nilG)))))) (seqM (setM 9 (argM tupF (consA (cM (.str "block")) (consA (vM 7) (consA (argM tupT (consA (vM 8) nilA)) nilA))))) (ifM (tbM (binM eqF (vM 4) (argM lstF (nilA)))) (exprM (mtMc ckList appendF (vM 4) (consA (argM tupF (consA (binM ixF (vM 3) (callM f__law_draw (consA (vM 5) (consA (cM (.int 2)) (consA (cM (.int 4)) nilA))))) (consA (argM lstF (consA (vM 9) nilA)) nilA))) nilA))) (exprM (mtMc ckList appendF (binM ixF (binM ixF (vM 4) (unM negF (cM (.int 1)))) (cM (.int 1))) (consA (vM 9) nilA)))))) (ifM (andM (tbM (binM ltF (vM 6) (cM (.int 4)))) (tbM (binM ltF (argM lenF (consA (vM 4) nilA)) (cM (.int 10))))) (exprM (mtMc ckList appendF (vM 4) (consA (argM tupF (consA (binM ixF (vM 3) (callM f__law_draw (consA (vM 5) (consA (cM (.int 2)) (consA (cM (.int 4)) nilA))))) (consA (argM lstF (nilA)) nilA))) nilA))) (forM (rngI rng1 (consA (argM min2F (consA (binM addF (cM (.int 1)) (callM f__law_draw (consA (vM 5) (consA (cM (.int 5)) (consA (cM (.int 3)) nilA))))) (consA (binM subF (cM (.int 9)) (argM lenF (consA (binM ixF (binM ixF (vM 4) (unM negF (cM (.int 1)))) (cM (.int 1))) nilA))) nilA))) nilA)) (nameG 10) (exprM (mtMc ckList appendF (binM ixF (binM ixF (vM 4) (unM negF (cM (.int 1)))) (cM (.int 1))) (consA (callM f__law_leaf (consA (binM addF (vM 5) (vM 10)) (consA (vM 1) (consA (vM 3) (consA (vM 2) nilA))))) nilA)))))))) (seqM (whileM (tbM (binM gtF (argM lenF (consA (vM 4) nilA)) (cM (.int 1)))) (seqM (asgM (mtMc ckList popF (vM 4) nilA) (okG (tupG 2 (consG (nameG 7) (consG (nameG 8) (nilG)))))) (exprM (mtMc ckList appendF (binM ixF (binM ixF (vM 4) (unM negF (cM (.int 1)))) (cM (.int 1))) (consA (argM tupF (consA (cM (.str "block")) (consA (vM 7) (consA (argM tupT (consA (vM 8) nilA)) nilA)))) nilA)))) FUEL) (retM (argM tupF (consA (cM (.str "block")) (consA (binM ixF (binM ixF (vM 4) (cM (.int 0))) (cM (.int 0))) (consA (argM tupT (consA (binM ixF (binM ixF (vM 4) (cM (.int 0))) (cM (.int 1))) nilA)) nilA))))))))
noncomputable def F__law_tree : Nat → Fm
  | 0 => fun _ _ => .bad
  | n + 1 => kPure.f (runM 3 11 (m__law_tree (F__law_draw n) (F__law_leaf n) (F__law_names n)))
theorem S__law_tree (n : Nat) : F__law_tree (n + 1) = kPure.f (runM 3 11 (m__law_tree (F__law_draw n) (F__law_leaf n) (F__law_names n))) := rfl
noncomputable def m__law_places : SM :=
  seqM (setM 1 (argM lstF (nilA))) (seqM (setM 2 (argM lstF (consA (argM tupF (consA (argM tupF (nilA)) (consA (vM 0) nilA))) nilA))) (seqM (whileM (tbM (binM neF (vM 2) (argM lstF (nilA)))) (seqM (asgM (mtMc ckList popF (vM 2) nilA) (okG (tupG 2 (consG (nameG 3) (consG (nameG 4) (nilG)))))) (seqM (exprM (mtMc ckList appendF (vM 1) (consA (argM tupF (consA (vM 3) (consA (vM 4) nilA))) nilA))) (ifM (tbM (binM eqF (binM ixF (vM 4) (cM (.int 0))) (cM (.str "block")))) (forM (rngI rng3 (consA (binM subF (argM lenF (consA (binM ixF (vM 4) (cM (.int 2))) nilA)) (cM (.int 1))) (consA (unM negF (cM (.int 1))) (consA (unM negF (cM (.int 1))) nilA)))) (nameG 5) (exprM (mtMc ckList appendF (vM 2) (consA (argM tupF (consA (binM addF (vM 3) (argM tupF (consA (vM 5) nilA))) (consA (binM ixF (binM ixF (vM 4) (cM (.int 2))) (vM 5)) nilA))) nilA)))) (passM)))) FUEL) (retM (vM 1))))
noncomputable def F__law_places : Nat → Fm
  | 0 => fun _ _ => .bad
  | n + 1 => kNew.f (runM 1 6 (m__law_places))
theorem S__law_places (n : Nat) : F__law_places (n + 1) = kNew.f (runM 1 6 (m__law_places)) := rfl
noncomputable def m_blanks_of (f_blanks_of : Fm) : SM :=
  seqM (ifM (tbM (binM eqF (binM ixF (vM 0) (cM (.int 0))) (cM (.str "blank")))) (retM (argM lstF (consA (binM ixF (vM 0) (cM (.int 1))) nilA))) (passM)) (seqM (setM 1 (argM lstF (nilA))) (seqM (forM (valI (binM ixF (vM 0) (cM (.int 2)))) (nameG 2) (forM (valI (callM f_blanks_of (consA (vM 2) nilA))) (nameG 3) (ifM (tbM (binM ninF (vM 3) (vM 1))) (exprM (mtMc ckList appendF (vM 1) (consA (vM 3) nilA))) (passM)))) (retM (vM 1))))
noncomputable def F_blanks_of : Nat → Fm
  | 0 => fun _ _ => .bad
  | n + 1 => kNew.f (runM 1 4 (m_blanks_of (F_blanks_of n)))
theorem S_blanks_of (n : Nat) : F_blanks_of (n + 1) = kNew.f (runM 1 4 (m_blanks_of (F_blanks_of n))) := rfl
noncomputable def m_exchanged (f_exchanged : Fm) : SM :=
  seqM (ifM (tbM (binM eqF (binM ixF (vM 0) (cM (.int 0))) (cM (.str "blank")))) (retM (mtMc ckDct getDF (vM 1) (consA (binM ixF (vM 0) (cM (.int 1))) (consA (vM 0) nilA)))) (passM)) (retM (argM tupF (consA (cM (.str "block")) (consA (binM ixF (vM 0) (cM (.int 1))) (consA (argM tupT (consA (lcM [2] (valI (binM ixF (vM 0) (cM (.int 2)))) (nameG 2) (yesM) (callM f_exchanged (consA (vM 2) (consA (vM 1) nilA)))) nilA)) nilA)))))
noncomputable def F_exchanged : Nat → Fm
  | 0 => fun _ _ => .bad
  | n + 1 => kPure.f (runM 2 3 (m_exchanged (F_exchanged n)))
theorem S_exchanged (n : Nat) : F_exchanged (n + 1) = kPure.f (runM 2 3 (m_exchanged (F_exchanged n))) := rfl
noncomputable def m__law_exchanged (f__law_exchanged : Fm) : SM :=
  seqM (ifM (tbM (binM eqF (binM ixF (vM 0) (cM (.int 0))) (cM (.str "blank")))) (retM (mtMc ckDct getDF (vM 1) (consA (binM ixF (vM 0) (cM (.int 1))) (consA (vM 0) nilA)))) (passM)) (retM (argM tupF (consA (cM (.str "block")) (consA (binM ixF (vM 0) (cM (.int 1))) (consA (argM tupT (consA (lcM [2] (valI (binM ixF (vM 0) (cM (.int 2)))) (nameG 2) (yesM) (callM f__law_exchanged (consA (vM 2) (consA (vM 1) nilA)))) nilA)) nilA)))))
noncomputable def F__law_exchanged : Nat → Fm
  | 0 => fun _ _ => .bad
  | n + 1 => kPure.f (runM 2 3 (m__law_exchanged (F__law_exchanged n)))
theorem S__law_exchanged (n : Nat) : F__law_exchanged (n + 1) = kPure.f (runM 2 3 (m__law_exchanged (F__law_exchanged n))) := rfl
noncomputable def m_plain (f_exchanged f_blanks_of : Fm) : SM :=
  seqM (setM 1 (newDM)) (seqM (forM (enumI (callM f_blanks_of (consA (vM 0) nilA))) (tupG 2 (consG (nameG 2) (consG (nameG 3) (nilG)))) (setIxM setAF (argM tupF (consA (cM (.str "blank")) (consA (binM addF (vM 2) (cM (.int 1))) nilA))) (vM 1) (vM 3))) (retM (callM f_exchanged (consA (vM 0) (consA (vM 1) nilA)))))
noncomputable def F_plain : Nat → Fm
  | 0 => fun _ _ => .bad
  | n + 1 => kPure.f (runM 1 4 (m_plain (F_exchanged n) (F_blanks_of n)))
theorem S_plain (n : Nat) : F_plain (n + 1) = kPure.f (runM 1 4 (m_plain (F_exchanged n) (F_blanks_of n))) := rfl
noncomputable def m_alike (f_plain : Fm) : SM :=
  retM (binM eqF (callM f_plain (consA (vM 0) nilA)) (callM f_plain (consA (vM 1) nilA)))
noncomputable def F_alike : Nat → Fm
  | 0 => fun _ _ => .bad
  | n + 1 => kPure.f (runM 2 2 (m_alike (F_plain n)))
theorem S_alike (n : Nat) : F_alike (n + 1) = kPure.f (runM 2 2 (m_alike (F_plain n))) := rfl
noncomputable def m__law_go_together (f__law_places : Fm) : SM :=
  seqM (setM 2 (callM f__law_places (consA (vM 0) nilA))) (seqM (setM 3 (callM f__law_places (consA (vM 1) nilA))) (seqM (setM 4 (newDM)) (seqM (setM 5 (newDM)) (seqM (ifM (tbM (binM neF (lcM [6, 7] (valI (vM 2)) (tupG 2 (consG (nameG 6) (consG (nameG 7) nilG))) (yesM) (vM 6)) (lcM [6, 7] (valI (vM 3)) (tupG 2 (consG (nameG 6) (consG (nameG 7) nilG))) (yesM) (vM 6)))) (retM (cM (.bl false))) (passM)) (seqM (forM (rngI rng1 (consA (argM lenF (consA (vM 2) nilA)) nilA)) (nameG 8) (seqM (setM 9 (binM ixF (binM ixF (vM 2) (vM 8)) (cM (.int 1)))) (seqM (setM 10 (binM ixF (binM ixF (vM 3) (vM 8)) (cM (.int 1)))) (seqM (ifM (tbM (binM neF (binM ixF (vM 9) (cM (.int 0))) (binM ixF (vM 10) (cM (.int 0))))) (retM (cM (.bl false))) (passM)) (seqM (ifM (andM (tbM (binM eqF (binM ixF (vM 9) (cM (.int 0))) (cM (.str "block")))) (orM (tbM (binM neF (binM ixF (vM 9) (cM (.int 1))) (binM ixF (vM 10) (cM (.int 1))))) (tbM (binM neF (argM lenF (consA (binM ixF (vM 9) (cM (.int 2))) nilA)) (argM lenF (consA (binM ixF (vM 10) (cM (.int 2))) nilA)))))) (retM (cM (.bl false))) (passM)) (ifM (tbM (binM eqF (binM ixF (vM 9) (cM (.int 0))) (cM (.str "blank")))) (ifM (orM (tbM (binM neF (mtMc ckDct setdF (vM 4) (consA (binM ixF (vM 9) (cM (.int 1))) (consA (binM ixF (vM 10) (cM (.int 1))) nilA))) (binM ixF (vM 10) (cM (.int 1))))) (tbM (binM neF (mtMc ckDct setdF (vM 5) (consA (binM ixF (vM 10) (cM (.int 1))) (consA (binM ixF (vM 9) (cM (.int 1))) nilA))) (binM ixF (vM 9) (cM (.int 1)))))) (retM (cM (.bl false))) (passM)) (passM))))))) (retM (cM (.bl true))))))))
noncomputable def F__law_go_together : Nat → Fm
  | 0 => fun _ _ => .bad
  | n + 1 => kPure.f (runM 2 11 (m__law_go_together (F__law_places n)))
theorem S__law_go_together (n : Nat) : F__law_go_together (n + 1) = kPure.f (runM 2 11 (m__law_go_together (F__law_places n))) := rfl
noncomputable def m__law_put (f__law_put : Fm) : SM :=
  seqM (ifM (tbM (binM eqF (vM 1) (argM tupF (nilA)))) (retM (vM 2)) (passM)) (seqM (setM 3 (binM ixF (vM 1) (cM (.int 0)))) (retM (argM tupF (consA (cM (.str "block")) (consA (binM ixF (vM 0) (cM (.int 1))) (consA (binM addF (binM addF (slM (binM ixF (vM 0) (cM (.int 2))) (noP) (someP (vM 3))) (argM tupF (consA (callM f__law_put (consA (binM ixF (binM ixF (vM 0) (cM (.int 2))) (vM 3)) (consA (slM (vM 1) (someP (cM (.int 1))) (noP)) (consA (vM 2) nilA)))) nilA))) (slM (binM ixF (vM 0) (cM (.int 2))) (someP (binM addF (vM 3) (cM (.int 1)))) (noP))) nilA))))))
noncomputable def F__law_put : Nat → Fm
  | 0 => fun _ _ => .bad
  | n + 1 => kPure.f (runM 3 4 (m__law_put (F__law_put n)))
theorem S__law_put (n : Nat) : F__law_put (n + 1) = kPure.f (runM 3 4 (m__law_put (F__law_put n))) := rfl
noncomputable def m_law_k19 (f_alike f__law_alike f__law_go_together f__law_draw f__law_put f__law_places f__law_exchanged f__law_tree f__law_cell_at : Fm) : SM :=
  seqM (setM 1 (callM f__law_cell_at (consA (vM 0) (consA (cM (.int 0)) nilA)))) (seqM (setM 2 (callM f__law_tree (consA (slM (vM 0) (someP (cM (.int 1))) (noP)) (consA (vM 1) (consA (binM addF (cM (.int 2)) (callM f__law_draw (consA (vM 1) (consA (cM (.int 50)) (consA (cM (.int 3)) nilA))))) nilA))))) (seqM (ifM (tbM (binM eqF (callM f__law_draw (consA (vM 1) (consA (cM (.int 50)) (consA (cM (.int 6)) nilA)))) (cM (.int 1)))) (setM 2 (argM tupF (consA (cM (.str "blank")) (consA (binM addF (cM (.int 1)) (binM modF (vM 1) (binM powF (cM (.int 10)) (cM (.int 9))))) nilA)))) (passM)) (seqM (setM 3 (argM lstF (consA (cM (.int 2)) (consA (binM powF (cM (.int 10)) (cM (.int 9))) (consA (cM (.int 1)) (consA (binM addF (cM (.int 1)) (binM modF (vM 1) (binM powF (cM (.int 10)) (cM (.int 9))))) (consA (cM (.int 7)) (consA (cM (.int 3)) (consA (cM (.int 11)) nilA))))))))) (seqM (setM 4 (newDM)) (seqM (setM 5 (binM ixF (argM lstF (consA (cM (.int 7)) (consA (cM (.int 7)) (consA (cM (.int 3)) nilA)))) (callM f__law_draw (consA (vM 1) (consA (cM (.int 56)) (consA (cM (.int 3)) nilA)))))) (seqM (forM (enumI (argM lstF (consA (cM (.int 1)) (consA (cM (.int 2)) (consA (cM (.int 7)) (consA (binM powF (cM (.int 10)) (cM (.int 9))) (consA (binM addF (cM (.int 1)) (binM modF (vM 1) (binM powF (cM (.int 10)) (cM (.int 9))))) nilA))))))) (tupG 2 (consG (nameG 6) (consG (nameG 7) (nilG)))) (setIxM setAF (argM tupF (consA (cM (.str "blank")) (consA (binM ixF (vM 3) (binM modF (binM addF (binM mulXF (vM 6) (binM addF (cM (.int 1)) (callM f__law_draw (consA (vM 1) (consA (cM (.int 51)) (consA (cM (.int 3)) nilA)))))) (callM f__law_draw (consA (vM 1) (consA (cM (.int 52)) (consA (cM (.int 7)) nilA))))) (vM 5))) nilA))) (vM 4) (vM 7))) (seqM (setM 8 (callM f__law_exchanged (consA (vM 2) (consA (vM 4) nilA)))) (seqM (ifM (tbM (binM eqF (callM f__law_draw (consA (vM 1) (consA (cM (.int 53)) (consA (cM (.int 3)) nilA)))) (cM (.int 1)))) (seqM (setM 9 (callM f__law_places (consA (vM 8) nilA))) (seqM (setM 10 (binM ixF (binM ixF (vM 9) (callM f__law_draw (consA (vM 1) (consA (cM (.int 54)) (consA (argM lenF (consA (vM 9) nilA)) nilA))))) (cM (.int 0)))) (seqM (setM 11 (binM ixF (argM lstF (consA (argM tupF (consA (cM (.str "blank")) (consA (cM (.int 2)) nilA))) (consA (argM tupF (consA (cM (.str "blank")) (consA (cM (.int 13)) nilA))) (consA (argM tupF (consA (cM (.str "block")) (consA (cM (.str "a")) (consA (argM tupF (nilA)) nilA)))) (consA (argM tupF (consA (cM (.str "block")) (consA (cM (.str "a")) (consA (argM tupF (consA (vM 2) nilA)) nilA)))) nilA))))) (callM f__law_draw (consA (vM 1) (consA (cM (.int 55)) (consA (cM (.int 4)) nilA)))))) (setM 8 (callM f__law_put (consA (vM 8) (consA (vM 10) (consA (vM 11) nilA)))))))) (passM)) (seqM (setM 12 (callM f__law_go_together (consA (vM 2) (consA (vM 8) nilA)))) (seqM (ifM (orM (notM (truM (callM f__law_alike (consA (callM f_alike (consA (vM 2) (consA (vM 8) nilA))) (consA (vM 12) nilA))))) (notM (truM (callM f__law_alike (consA (callM f_alike (consA (vM 8) (consA (vM 2) nilA))) (consA (vM 12) nilA)))))) (retM (cM (.bl false))) (passM)) (retM (binM isTF (callM f_alike (consA (vM 2) (consA (vM 2) nilA))) (cM (.bl true))))))))))))))
noncomputable def F_law_k19 : Nat → Fm
  | 0 => fun _ _ => .bad
  | n + 1 => kPure.f (runM 1 13 (m_law_k19 (F_alike n) (F__law_alike n) (F__law_go_together n) (F__law_draw n) (F__law_put n) (F__law_places n) (F__law_exchanged n) (F__law_tree n) (F__law_cell_at n)))
theorem S_law_k19 (n : Nat) : F_law_k19 (n + 1) = kPure.f (runM 1 13 (m_law_k19 (F_alike n) (F__law_alike n) (F__law_go_together n) (F__law_draw n) (F__law_put n) (F__law_places n) (F__law_exchanged n) (F__law_tree n) (F__law_cell_at n))) := rfl
end DV
namespace DV
open PySem PySem.Spec PyProof.Rows L2
def drawI (cell k many : Int) : Int := (cell + 1) * (48271 + 7919 * k * k) % 2147483647 * ((cell + 1) * (48271 + 7919 * k * k) % 2147483647) % 2147483629 / 7 % many
theorem drawI_lt (cell k : Int) {many : Int} (h : 0 < many) : 0 ≤ drawI cell k many ∧ drawI cell k many < many := ⟨Int.emod_nonneg _ (by omega), Int.emod_lt_of_pos _ h⟩
theorem draw_ok (n : Nat) (h : Hs) (cell k many : Int) (hm : 0 < many) (hk : -1000000 ≤ k ∧ k ≤ 1000000) : F__law_draw (n + 1) [.int cell, .int k, .int many] h = .ok (.int (drawI cell k many)) h := by
  have sq : k * k ≤ 1000000000000 ∧ 0 ≤ k * k := by
    constructor
    · have h1 : 0 ≤ (1000000 - k) * (1000000 + k) := Int.mul_nonneg (by omega) (by omega)
      have h2 : (1000000 - k) * (1000000 + k) = 1000000000000 - k * k := by rw [Int.sub_mul, Int.mul_add, Int.mul_add]; omega
      omega
    · rcases Int.le_total 0 k with h | h
      · exact Int.mul_nonneg h h
      · exact Int.mul_nonneg_of_nonpos_of_nonpos h h
  have b0 : ∀ j, cMul 7919 j = true := fun j => cMul_l (by decide) (by decide)
  have b1 : ∀ j, cMul (7919 * k) j = true := fun j => cMul_l (by omega) (by omega)
  have b2 : ∀ i, cMul i (48271 + 7919 * k * k) = true := fun i => cMul_r (by rw [Int.mul_assoc]; omega) (by rw [Int.mul_assoc]; omega)
  have b3 := Int.emod_nonneg ((cell + 1) * (48271 + 7919 * k * k)) (show (2147483647 : Int) ≠ 0 by decide)
  have b4 := Int.emod_lt_of_pos ((cell + 1) * (48271 + 7919 * k * k)) (show (0 : Int) < 2147483647 by decide)
  have b5 : ∀ j, cMul ((cell + 1) * (48271 + 7919 * k * k) % 2147483647) j = true := fun j => cMul_l (by omega) (by omega)
  have m1 : ∀ i, cMod i 2147483647 = true := fun i => cMod_of (by decide)
  have m2 : ∀ i, cMod i 2147483629 = true := fun i => cMod_of (by decide)
  have m3 : ∀ i, cDiv i 7 = true := fun i => cDiv_of (by decide) (by decide)
  have m4 : ∀ i, cMod i many = true := fun i => cMod_of hm
  refine R.wp_eq.mp ?_
  simp [F__law_draw, wp_pure, wp_run, m__law_draw, startD, wp_v, drawI, b0, b1, b2, b5, m1, m2, m3, m4, noloc]
/-- a text's signs in the alphabets -/
abbrev smallS : Str := "abcdefghijklmnopqrstuvwxyz"
abbrev figS : Str := "0123456789"
def okSign (c : Nat) : Bool := decide (c ∈ smallS.cps) || decide (c ∈ figS.cps)
def nameL : List Nat → Bool
  | [] => false
  | c :: r => decide (c ∈ smallS.cps) && r.all okSign
def nameB (s : Str) : Bool := decide (1 ≤ s.length ∧ s.length ≤ 12) && nameL s.cps.toList
theorem str_len (s : Str) : s.length = s.cps.toList.length := by rw [Array.length_toList]; rfl
theorem hL : LIM = 16777216 := rfl
/-- the sign at a place fits -/
def okAt (i c : Nat) : Bool := decide (c ∈ smallS.cps) || (decide (i ≠ 0) && decide (c ∈ figS.cps))
theorem nameL_iff (l : List Nat) : nameL l = true ↔ l ≠ [] ∧ ∀ i c, l[i]? = some c → okAt i c = true := by
  cases l with
  | nil => simp [nameL]
  | cons a r =>
    simp only [nameL, Bool.and_eq_true, decide_eq_true_eq, List.all_eq_true, ne_eq, reduceCtorEq, not_false_eq_true, true_and]
    constructor
    · rintro ⟨h1, h2⟩ i c e
      cases i with
      | zero => simp at e; subst e; simp [okAt, h1]
      | succ i =>
        simp at e
        have := h2 c (List.mem_of_getElem? e)
        simpa [okAt, okSign] using this
    · intro h
      refine ⟨by simpa [okAt] using h 0 a rfl, fun c hc => ?_⟩
      obtain ⟨i, hi⟩ := List.mem_iff_getElem?.mp hc
      have := h (i + 1) c (by simpa using hi)
      simpa [okAt, okSign] using this
theorem app_len (a b : Str) : (a ++ b).length = a.length + b.length := by
  show (a.cps ++ b.cps).size = _
  rw [Array.size_append]; rfl
theorem cut_len (s : Str) (lo hi : Option Int) : (cutS s lo hi).length ≤ s.length := by
  show Array.size (List.toArray _) ≤ s.cps.size
  rw [List.size_toArray, List.length_take, List.length_drop, Array.length_toList]
  omega
theorem rep_size (s : Str) (k : Nat) : (repS s k).length = s.length * k := by
  show Array.size (List.toArray _) = _
  rw [List.size_toArray, rep_len, ← str_len]
end DV
namespace DV
open PySem PySem.Spec PyProof.Rows L2
inductive Tr where
  | bl (k : Int)
  | bk (s : Str) (ps : List Tr)
def Tr.parts : Tr → List Tr
  | .bl _ => []
  | .bk _ ps => ps
mutual
def tD : Tr → D
  | .bl k => .tup [.str "blank", .int k]
  | .bk s ps => .tup [.str "block", .str s, .tup (tDs ps)]
def tDs : List Tr → List D
  | [] => []
  | t :: ts => tD t :: tDs ts
end
theorem tDs_map : ∀ ts : List Tr, tDs ts = ts.map tD
  | [] => by simp [tDs]
  | t :: ts => by rw [tDs, tDs_map ts]; rfl
@[simp] theorem tDs_len (ts : List Tr) : (tDs ts).length = ts.length := by rw [tDs_map, List.length_map]
theorem tDs_get {ts : List Tr} {i : Nat} {d : D} (e : (tDs ts)[i]? = some d) : ∃ t, ts[i]? = some t ∧ d = tD t := by
  rw [tDs_map, List.getElem?_map] at e
  cases q : ts[i]? with
  | none => rw [q] at e; cases e
  | some t => rw [q] at e; cases e; exact ⟨t, rfl, rfl⟩
mutual
theorem noloc_tD : ∀ t : Tr, noloc (tD t) = true
  | .bl k => rfl
  | .bk s ps => by simp [tD, noloc, nolocL, noloc_tDs ps]
theorem noloc_tDs : ∀ ts : List Tr, nolocL (tDs ts) = true
  | [] => by simp [tDs, nolocL]
  | t :: ts => by simp [tDs, nolocL, noloc_tD t, noloc_tDs ts]
end
mutual
def Tr.knots : Tr → Nat
  | .bl _ => 1
  | .bk _ ps => 1 + knotsL ps
def knotsL : List Tr → Nat
  | [] => 0
  | t :: ts => t.knots + knotsL ts
end
mutual
def Tr.depth : Tr → Nat
  | .bl _ => 1
  | .bk _ ps => 1 + depthL ps
def depthL : List Tr → Nat
  | [] => 0
  | t :: ts => max t.depth (depthL ts)
end
theorem knots_parts (t : Tr) : t.knots = 1 + knotsL t.parts := by cases t <;> simp [Tr.knots, Tr.parts, knotsL]
theorem depth_parts (t : Tr) : t.depth = 1 + depthL t.parts := by cases t <;> simp [Tr.depth, Tr.parts, depthL]
theorem knots_pos (t : Tr) : 1 ≤ t.knots := by rw [knots_parts]; omega
theorem depth_mem {t : Tr} : ∀ {ts : List Tr}, t ∈ ts → t.depth ≤ depthL ts
  | [], h => nomatch h
  | u :: ts, h => by
    rw [depthL]
    rcases List.mem_cons.mp h with rfl | h
    · exact Nat.le_max_left _ _
    · exact Nat.le_trans (depth_mem h) (Nat.le_max_right _ _)
theorem knots_mem {t : Tr} : ∀ {ts : List Tr}, t ∈ ts → t.knots ≤ knotsL ts
  | [], h => nomatch h
  | u :: ts, h => by
    rw [knotsL]
    rcases List.mem_cons.mp h with rfl | h
    · omega
    · have := knots_mem h; omega
theorem knotsL_sum : ∀ ts : List Tr, knotsL ts = (ts.map Tr.knots).sum
  | [] => rfl
  | t :: ts => by rw [knotsL, knotsL_sum ts]; simp
theorem len_knotsL : ∀ ts : List Tr, ts.length ≤ knotsL ts
  | [] => by simp
  | t :: ts => by rw [knotsL]; have := len_knotsL ts; have := knots_pos t; simp; omega
@[simp] theorem ok_block : PyData.strOk "block" = true := by decide +kernel
@[simp] theorem ok_blank : PyData.strOk "blank" = true := by decide +kernel
theorem bk_bl : ¬ ("block" : Str) = "blank" := by decide +kernel
theorem bl_bk : ¬ ("blank" : Str) = "block" := by decide +kernel
@[simp] theorem eq_bl1 {h : Hs} : eqF (.str "blank") (.str "blank") h = some (.bl true, h) := by rw [eq_strs ok_blank ok_blank]; simp
@[simp] theorem eq_bl2 {h : Hs} : eqF (.str "block") (.str "blank") h = some (.bl false, h) := by rw [eq_strs ok_block ok_blank, decide_eq_false bk_bl]
@[simp] theorem eq_bk1 {h : Hs} : eqF (.str "block") (.str "block") h = some (.bl true, h) := by rw [eq_strs ok_block ok_block]; simp
@[simp] theorem eq_bk2 {h : Hs} : eqF (.str "blank") (.str "block") h = some (.bl false, h) := by rw [eq_strs ok_blank ok_block, decide_eq_false bl_bk]
@[simp] theorem at0 {α : Type} {a : α} {l : List α} : atI (a :: l) 0 = some a := by
  have : (0 : Int) = ((0 : Nat) : Int) := rfl
  rw [this, atI_nat (by simp)]; rfl
@[simp] theorem at1 {α : Type} {a b : α} {l : List α} : atI (a :: b :: l) 1 = some b := by
  have : (1 : Int) = ((1 : Nat) : Int) := rfl
  rw [this, atI_nat (by simp)]; rfl
@[simp] theorem at2 {α : Type} {a b c : α} {l : List α} : atI (a :: b :: c :: l) 2 = some c := by
  have : (2 : Int) = ((2 : Nat) : Int) := rfl
  rw [this, atI_nat (by simp)]; rfl
end DV
namespace DV
open PySem PySem.Spec PyProof.Rows L2
/-- so many signs of a name -/
def NamePre (j : Nat) (s : Str) : Prop := s.length = j ∧ ∀ i c, s.cps.toList[i]? = some c → okAt i c = true
abbrev S36 : Str := "abcdefghijklmnopqrstuvwxyz0123456789"
theorem S36_len : S36.cps.toList.length = 36 := by decide +kernel
theorem S36_ok : ∀ (k : Nat) (c : Nat), S36.cps.toList[k]? = some c → decide (c ∈ smallS.cps) = decide (k < 26) ∧ (decide (c ∈ smallS.cps) || decide (c ∈ figS.cps)) = true := by
  intro k c e
  have hk : k < 36 := by have := (List.getElem?_eq_some_iff.mp e).1; rw [S36_len] at this; exact this
  have all : ∀ k : Fin 36, ∀ c, S36.cps.toList[k.val]? = some c → decide (c ∈ smallS.cps) = decide (k.val < 26) ∧ (decide (c ∈ smallS.cps) || decide (c ∈ figS.cps)) = true := by
    have q : (List.finRange 36).all (fun k => match S36.cps.toList[k.val]? with | some c => (decide (c ∈ smallS.cps) == decide (k.val < 26)) && (decide (c ∈ smallS.cps) || decide (c ∈ figS.cps)) | none => true) = true := by decide +kernel
    intro k c e
    have := List.all_eq_true.mp q k (List.mem_finRange k)
    rw [e] at this
    simp only [Bool.and_eq_true, beq_iff_eq] at this
    exact this
  exact all ⟨k, hk⟩ c e
theorem namePre_nil : NamePre 0 "" := ⟨rfl, fun i c e => by have : ([] : List Nat)[i]? = some c := e; simp at this⟩
theorem namePre_snoc {j : Nat} {s : Str} {c : Nat} (h : NamePre j s) (hc : okAt j c = true) : NamePre (j + 1) (s ++ ⟨#[c]⟩) := by
  refine ⟨by rw [app_len, h.1]; rfl, fun i d e => ?_⟩
  have e2 : (s ++ (⟨#[c]⟩ : Str)).cps.toList = s.cps.toList ++ [c] := by
    show (s.cps ++ #[c]).toList = _
    simp
  rw [e2] at e
  have hl : s.cps.toList.length = j := by rw [← str_len]; exact h.1
  by_cases q : i < j
  · rw [List.getElem?_append_left (by omega)] at e
    exact h.2 i d e
  · have : i = j := by
      have := (List.getElem?_eq_some_iff.mp e).1
      rw [List.length_append, hl, List.length_singleton] at this; omega
    subst this
    rw [List.getElem?_append_right (by omega), hl] at e
    simp at e
    subst e
    exact hc
theorem namePre_name {j : Nat} {s : Str} (h : NamePre j s) (h1 : 1 ≤ j) (h2 : j ≤ 12) : nameB s = true := by
  unfold nameB
  rw [h.1, decide_eq_true ⟨h1, h2⟩, Bool.true_and, nameL_iff]
  refine ⟨fun z => ?_, h.2⟩
  have := str_len s
  rw [z, h.1] at this
  simp at this; omega
theorem sign_36 {j : Nat} {c : Nat} {k many : Int} (hm : many = if j = 0 then 26 else 36) (h0 : 0 ≤ k) (h1 : k < many) (e : atI S36.cps.toList k = some c) : okAt j c = true := by
  obtain ⟨n, rfl⟩ := Int.eq_ofNat_of_zero_le h0
  have hn : n < S36.cps.toList.length := by rw [S36_len]; split at hm <;> omega
  rw [atI_nat hn] at e
  obtain ⟨q1, q2⟩ := S36_ok n c e
  unfold okAt
  by_cases z : j = 0
  · rw [if_pos z] at hm
    rw [q1, decide_eq_true (show n < 26 by omega)]
    rfl
  · rw [decide_eq_true z, Bool.true_and]
    exact q2
/-- four texts, those ahead of k with one sign more -/
def Names4 (j k : Nat) (ns : List Str) : Prop := ns.length = 4 ∧ ∀ i s, ns[i]? = some s → NamePre (if i < k then j + 1 else j) s
theorem names_set {j k : Nat} {ns : List Str} {s : Str} {c : Nat} (h : Names4 j k ns) (hs : ns[k]? = some s) (hc : okAt j c = true) : Names4 j (k + 1) (ns.set k (s ++ ⟨#[c]⟩)) := by
  refine ⟨by rw [List.length_set]; exact h.1, fun i t e => ?_⟩
  have hk := (List.getElem?_eq_some_iff.mp hs).1
  by_cases z : i = k
  · subst z
    rw [List.getElem?_set_self hk] at e
    cases e
    have := h.2 i s hs
    rw [if_neg (Nat.lt_irrefl _)] at this
    rw [if_pos (Nat.lt_succ_self _)]
    exact namePre_snoc this hc
  · rw [List.getElem?_set_ne (Ne.symm z)] at e
    have := h.2 i t e
    have e2 : (if i < k + 1 then j + 1 else j) = (if i < k then j + 1 else j) := by split <;> split <;> omega
    rw [e2]
    exact this
theorem map_set_str (ns : List Str) (k : Nat) (s : Str) : (ns.map D.str).set k (.str s) = (ns.set k s).map D.str := by rw [List.map_set]
theorem names_ok (n : Nat) (h : Hs) (cell : Int) : (F__law_names (n + 2) [.int cell] h).wp (fun d h' => ∃ ns : List Str, d = .loc h.length ∧ h' = h ++ [.lst (ns.map D.str)] ∧ ns.length = 4 ∧ ∀ s ∈ ns, nameB s = true) xF := by
  have dr : ∀ (k many : Int) (h : Hs), 0 < many → -1000000 ≤ k ∧ k ≤ 1000000 → F__law_draw (n + 1) [.int cell, .int k, .int many] h = .ok (.int (drawI cell k many)) h := fun k many h a b => draw_ok n h cell k many a b
  rw [S__law_names]
  refine wp_new ?_
  have m10 : ∀ j, cMul 10 j = true := fun j => cMul_l (by decide) (by decide)
  have d57 := drawI_lt cell 57 (many := 12) (by decide)
  generalize hsz : 1 + drawI cell 57 12 = sz
  have r1 : inR sz = true := inR_of (by omega) (by omega)
  have r4 : inR 4 = true := inR_of (by decide) (by decide)
  have sp : 0 < sz := by omega
  simp [wp_run, m__law_names, startD, wp_v, dr, hsz, sp, r1]
  obtain ⟨J, hJ⟩ : ∃ J : Nat → Sl → Hs → Prop, J = fun j ds h' => ∃ (ns : List Str) (a b c d e f : Option D), h' = h ++ [.lst (ns.map D.str)] ∧ Names4 j 0 ns ∧ ds = [some (.int cell), some (.str S36), some (.int sz), some (.int (drawI cell 58 sz)), some (.loc h.length), a, b, c, d, e, f] := ⟨_, rfl⟩
  have start : J 0 [some (.int cell), some (.str S36), some (.int sz), some (.int (drawI cell 58 sz)), some (.loc h.length), none, none, none, none, none, none] (h ++ [.lst [.str "", .str "", .str "", .str ""]]) := by
    rw [hJ]
    refine ⟨["", "", "", ""], none, none, none, none, none, none, rfl, ⟨rfl, fun i s hi => ?_⟩, rfl⟩
    have : s = "" := by
      have := List.mem_of_getElem? hi
      simpa using this
    subst this
    exact namePre_nil
  refine ws_loop _ J start (fun _ _ _ _ => trivial) ?_ ?_
  · intro j d ds h' hd hj
    rw [hJ] at hj
    obtain ⟨ns, a, b, c, d', e, f, rfl, hn, rfl⟩ := hj
    have hjs : j < sz.toNat := by
      have := (List.getElem?_eq_some_iff.mp hd).1
      simpa using this
    have ed : d = .int j := by
      rw [List.getElem?_map, List.getElem?_range hjs] at hd
      exact (Option.some.inj hd).symm
    subst ed
    obtain ⟨M, hM, hM2⟩ : ∃ M : Int, (26 + 10 * (if 0 < j then 1 else 0) : Int) = M ∧ M = if j = 0 then 26 else 36 := by
      by_cases z : j = 0
      · subst z; exact ⟨26, by simp, by simp⟩
      · exact ⟨36, by rw [if_pos (by omega)]; rfl, by simp [z]⟩
    have Mp : 0 < M := by rw [hM2]; split <;> omega
    have kb : -1000000 ≤ (60 + (j : Int)) ∧ (60 + (j : Int)) ≤ 1000000 := by omega
    simp [wp_v, dr, m10, hM, Mp, kb, r4]
    obtain ⟨G, hG⟩ : ∃ G : Nat → Sl → Hs → Prop, G = fun k ds h' => ∃ (ns : List Str) (e f : Option D), h' = h ++ [.lst (ns.map D.str)] ∧ Names4 j k ns ∧ ds = [some (.int cell), some (.str S36), some (.int sz), some (.int (drawI cell 58 sz)), some (.loc h.length), some (.int j), some (.int M), some (.int (drawI cell (60 + j) M)), some (.int (if (j : Int) = drawI cell 58 sz then 1 else 0)), e, f] := ⟨_, rfl⟩
    have start2 : G 0 [some (.int cell), some (.str S36), some (.int sz), some (.int (drawI cell 58 sz)), some (.loc h.length), some (.int j), some (.int M), some (.int (drawI cell (60 + j) M)), some (.int (if (j : Int) = drawI cell 58 sz then 1 else 0)), e, f] (h ++ [.lst (ns.map D.str)]) := by
      rw [hG]; exact ⟨ns, e, f, rfl, hn, rfl⟩
    refine ws_loop _ G start2 (fun _ _ _ _ => trivial) ?_ ?_
    · intro k d ds h' hd hj
      rw [hG] at hj
      obtain ⟨ns, e, f, rfl, hn, rfl⟩ := hj
      have hk4 : k < 4 := by
        have := (List.getElem?_eq_some_iff.mp hd).1
        simpa using this
      have ed : d = .int k := by
        rw [List.getElem?_map, List.getElem?_range hk4] at hd
        exact (Option.some.inj hd).symm
      subst ed
      have ck : ∀ i, cMul (k : Int) i = true := fun i => cMul_l (by omega) (by omega)
      have cm : ∀ i, cMod i M = true := fun i => cMod_of Mp
      generalize hx : (drawI cell (60 + j) M + (k : Int) * (if (j : Int) = drawI cell 58 sz then 1 else 0)) % M = x
      have x0 : 0 ≤ x := by rw [← hx]; exact Int.emod_nonneg _ (by omega)
      have x1 : x < M := by rw [← hx]; exact Int.emod_lt_of_pos _ Mp
      obtain ⟨c, hc, _⟩ := atI_of (zs := S36.cps.toList) x0 (by rw [S36_len]; rw [hM2] at x1; split at x1 <;> omega)
      have okc := sign_36 hM2 x0 x1 hc
      have hkl : k < ns.length := by rw [hn.1]; exact hk4
      obtain ⟨s, hs⟩ : ∃ s, ns[k]? = some s := ⟨_, List.getElem?_eq_getElem hkl⟩
      have as : atI (ns.map D.str) (k : Int) = some (.str s) := by rw [atI_nat (by simpa using hkl), List.getElem?_map, hs]; rfl
      have sl : s.length + (⟨#[c]⟩ : Str).length ≤ 16777216 := by
        have := (hn.2 k s hs).1
        rw [this, if_neg (Nat.lt_irrefl _)]
        show j + 1 ≤ _
        omega
      have st := set_lst (h := h ++ [.lst (ns.map D.str)]) (l := h.length) (k := k) (xs := ns.map D.str) (v := .str (s ++ ⟨#[c]⟩)) (by simp) (by simpa using hkl)
      have l36 : S36.length ≤ 16777216 := by decide +kernel
      have fin : G (k + 1) [some (.int cell), some (.str S36), some (.int sz), some (.int (drawI cell 58 sz)), some (.loc h.length), some (.int j), some (.int M), some (.int (drawI cell (60 + j) M)), some (.int (if (j : Int) = drawI cell 58 sz then 1 else 0)), some (.int k), some (.str ⟨#[c]⟩)] (h ++ [.lst ((ns.map D.str).set k (.str (s ++ ⟨#[c]⟩)))]) := by
        rw [hG, map_set_str]; exact ⟨_, _, _, rfl, names_set hn hs okc, rfl⟩
      simp [wp_v, ck, cm, hx, hc, l36, ix_lst, as, sl, st]
      exact fin
    · intro ds h' hj
      rw [hG] at hj
      obtain ⟨ns, e, f, rfl, hn, rfl⟩ := hj
      rw [hJ]
      refine ⟨ns, _, _, _, _, _, _, rfl, ⟨hn.1, fun i s hi => ?_⟩, rfl⟩
      have := hn.2 i s hi
      have il : i < 4 := by have := (List.getElem?_eq_some_iff.mp hi).1; rw [hn.1] at this; exact this
      rw [List.length_map, List.length_range, if_pos il] at this
      rw [if_neg (Nat.not_lt_zero _)]
      exact this
  · intro ds h' hj
    rw [hJ] at hj
    obtain ⟨ns, a, b, c, d', e, f, rfl, hn, rfl⟩ := hj
    have szl : (List.map (fun (i : Nat) => D.int (i : Int)) (List.range sz.toNat)).length = sz.toNat := by simp
    rw [szl] at hn
    have fl : nolocL (ns.map D.str) = true := by
      clear hn
      induction ns with
      | nil => rfl
      | cons s ns ih => simp [nolocL, noloc, ih]
    simp [nolocO, fl]
    refine ⟨ns, rfl, hn.1, fun s hs => ?_⟩
    obtain ⟨i, hi⟩ := List.mem_iff_getElem?.mp hs
    have := hn.2 i s hi
    rw [if_neg (Nat.not_lt_zero _)] at this
    exact namePre_name this (by omega) (by omega)
end DV
namespace DV
open PySem PySem.Spec PyProof.Rows L2
mutual
/-- names, counts of parts and numbers are as the document has them -/
def Tr.good : Tr → Prop
  | .bl k => 1 ≤ k ∧ k ≤ 1000000000
  | .bk s ps => nameB s = true ∧ ps.length ≤ 9 ∧ goodL ps
def goodL : List Tr → Prop
  | [] => True
  | t :: ts => t.good ∧ goodL ts
end
theorem goodL_iff : ∀ {ts : List Tr}, goodL ts ↔ ∀ t ∈ ts, t.good
  | [] => by simp [goodL]
  | t :: ts => by rw [goodL, goodL_iff]; simp
theorem names_at {ns : List Str} (h4 : ns.length = 4) {i : Int} (h0 : 0 ≤ i) (h1 : i < 4) : ∃ s, atI (ns.map D.str) i = some (.str s) ∧ s ∈ ns := by
  obtain ⟨z, hz, hz2⟩ := atI_of (zs := ns.map D.str) h0 (by rw [List.length_map, h4]; exact h1)
  have := List.mem_of_getElem? hz2
  obtain ⟨s, hs, rfl⟩ := List.mem_map.mp this
  exact ⟨s, hz, hs⟩
theorem leaf_ok (n : Nat) (h : Hs) (cell first shares : Int) (l : Nat) (ns : List Str) (hl : h[l]? = some (.lst (ns.map D.str))) (h4 : ns.length = 4) (hn : ∀ s ∈ ns, nameB s = true) :
    (F__law_leaf (n + 2) [.int cell, .int first, .loc l, .int shares] h).wp (fun d h' => h' = h ∧ ∃ t : Tr, d = tD t ∧ t.good ∧ t.parts = []) xF := by
  have dr : ∀ (k many : Int) (h : Hs), 0 < many → -1000000 ≤ k ∧ k ≤ 1000000 → F__law_draw (n + 1) [.int cell, .int k, .int many] h = .ok (.int (drawI cell k many)) h := fun k many h a b => draw_ok n h cell k many a b
  rw [S__law_leaf]
  have p9 : cPow 10 9 = true := cPow_of (by decide) (by decide) (by decide)
  have m9 : ∀ i, cMod i 1000000000 = true := fun _ => cMod_of (by decide)
  have f0 := Int.emod_nonneg first (show (1000000000 : Int) ≠ 0 by decide)
  have f1 := Int.emod_lt_of_pos first (show (0 : Int) < 1000000000 by decide)
  obtain ⟨z, hz, hz2⟩ := atI_of (zs := [D.int 1, .int 2, .int 7, .int 1000000000, .int (1 + first % 1000000000)]) (drawI_lt cell 4 (by decide : (0 : Int) < 5)).1 (drawI_lt cell 4 (by decide : (0 : Int) < 5)).2
  obtain ⟨m, rfl, m1, m2⟩ : ∃ m : Int, z = .int m ∧ 1 ≤ m ∧ m ≤ 1000000000 := by
    have := List.mem_of_getElem? hz2
    simp at this
    rcases this with rfl | rfl | rfl | rfl | rfl
    · exact ⟨_, rfl, by decide, by decide⟩
    · exact ⟨_, rfl, by decide, by decide⟩
    · exact ⟨_, rfl, by decide, by decide⟩
    · exact ⟨_, rfl, by decide, by decide⟩
    · exact ⟨_, rfl, by omega, by omega⟩
  obtain ⟨s, hs, hs2⟩ := names_at h4 (drawI_lt cell 2 (by decide : (0 : Int) < 4)).1 (drawI_lt cell 2 (by decide : (0 : Int) < 4)).2
  simp [wp_pure, wp_run, m__law_leaf, startD, wp_v, dr, p9, m9, ix_lst, hz, hl, hs]
  split
  · exact ⟨by simp [noloc, nolocL], .bl m, by simp [tD], ⟨m1, m2⟩, rfl⟩
  · exact ⟨by simp [noloc, nolocL], .bk s [], by simp [tD, tDs], ⟨hn s hs2, by simp, trivial⟩, rfl⟩
end DV
namespace DV
open PySem PySem.Spec PyProof.Rows L2
abbrev Fr := Str × Nat × List Tr
def fD (f : Fr) : D := .tup [.str f.1, .loc f.2.1]
/-- what stands in the heap: the old things, the names, the cells, the frames and their lists -/
structure FrI (h : Hs) (ns : List Str) (its : List D) (fr : List Fr) (h' : Hs) : Prop where
  pre : h'.take h.length = h
  nam : h'[h.length]? = some (.lst (ns.map D.str))
  cel : h'[h.length + 3]? = some (.lst its)
  frm : h'[h.length + 2]? = some (.lst (fr.map fD))
  par : ∀ f ∈ fr, h'[f.2.1]? = some (.lst (tDs f.2.2))
  dis : (fr.map (·.2.1)).Nodup
  low : ∀ f ∈ fr, h.length ≤ f.2.1 ∧ f.2.1 ≠ h.length ∧ f.2.1 ≠ h.length + 2 ∧ f.2.1 ≠ h.length + 3
section
variable {h h' : Hs} {ns : List Str} {its : List D} {fr : List Fr}
theorem FrI.lt (I : FrI h ns its fr h') : h.length + 3 < h'.length := (List.getElem?_eq_some_iff.mp I.cel).1
theorem FrI.plt (I : FrI h ns its fr h') {f : Fr} (hf : f ∈ fr) : f.2.1 < h'.length := (List.getElem?_eq_some_iff.mp (I.par f hf)).1
theorem take_set_ge {α : Type} {l : List α} {n k : Nat} {a : α} (hk : n ≤ k) : (l.set k a).take n = l.take n := by
  apply List.ext_getElem?
  intro i
  rw [List.getElem?_take, List.getElem?_take]
  split
  · rw [List.getElem?_set_ne (by omega)]
  · rfl
theorem FrI.grow (I : FrI h ns its fr h') (r : Hs) : FrI h ns its fr (h' ++ r) where
  pre := by rw [List.take_append_of_le_length (by have := I.lt; omega)]; exact I.pre
  nam := get_app I.nam
  cel := get_app I.cel
  frm := get_app I.frm
  par := fun f hf => get_app (I.par f hf)
  dis := I.dis
  low := I.low
/-- the frames' list written -/
theorem FrI.put (I : FrI h ns its fr h') (fr2 : List Fr) (hp : ∀ f ∈ fr2, h'[f.2.1]? = some (.lst (tDs f.2.2))) (hd : (fr2.map (·.2.1)).Nodup)
    (hl : ∀ f ∈ fr2, h.length ≤ f.2.1 ∧ f.2.1 ≠ h.length ∧ f.2.1 ≠ h.length + 2 ∧ f.2.1 ≠ h.length + 3) : FrI h ns its fr2 (h'.set (h.length + 2) (.lst (fr2.map fD))) where
  pre := by rw [take_set_ge (by omega)]; exact I.pre
  nam := by rw [List.getElem?_set_ne (by omega)]; exact I.nam
  cel := by rw [List.getElem?_set_ne (by omega)]; exact I.cel
  frm := by rw [List.getElem?_set_self (by have := I.lt; omega)]
  par := fun f hf => by rw [List.getElem?_set_ne (Ne.symm (hl f hf).2.2.1)]; exact hp f hf
  dis := hd
  low := hl
theorem FrI.pop {f : Fr} (I : FrI h ns its (fr ++ [f]) h') : FrI h ns its fr (h'.set (h.length + 2) (.lst (fr.map fD))) :=
  I.put fr (fun g hg => I.par g (List.mem_append_left _ hg)) (by have := I.dis; rw [List.map_append] at this; exact (List.nodup_append.mp this).1) fun g hg => I.low g (List.mem_append_left _ hg)
theorem FrI.push (I : FrI h ns its fr h') (s : Str) (ps : List Tr) : FrI h ns its (fr ++ [(s, h'.length, ps)]) ((h' ++ [AO.lst (tDs ps)] : Hs).set (h.length + 2) (.lst ((fr ++ [(s, h'.length, ps)]).map fD))) := by
  refine (I.grow [AO.lst (tDs ps)]).put _ (fun f hf => ?_) ?_ fun f hf => ?_
  · rcases List.mem_append.mp hf with hf | hf
    · exact get_app (I.par f hf)
    · cases List.mem_singleton.mp hf
      simp
  · rw [List.map_append]
    refine List.nodup_append.mpr ⟨I.dis, by simp, fun a ha b hb => ?_⟩
    obtain ⟨g, hg, rfl⟩ := List.mem_map.mp ha
    have : b = h'.length := by simpa using hb
    have := I.plt hg
    omega
  · rcases List.mem_append.mp hf with hf | hf
    · exact I.low f hf
    · cases List.mem_singleton.mp hf
      have := I.lt
      show h.length ≤ h'.length ∧ h'.length ≠ _ ∧ h'.length ≠ _ ∧ h'.length ≠ _
      omega
theorem tDs_app (ps : List Tr) (t : Tr) : tDs ps ++ [tD t] = tDs (ps ++ [t]) := by rw [tDs_map, tDs_map, List.map_append]; rfl
theorem FrI.app {s : Str} {l : Nat} {ps : List Tr} (I : FrI h ns its (fr ++ [(s, l, ps)]) h') (t : Tr) : FrI h ns its (fr ++ [(s, l, ps ++ [t])]) (h'.set l (.lst (tDs (ps ++ [t])))) := by
  have mem : (s, l, ps) ∈ fr ++ [(s, l, ps)] := by simp
  obtain ⟨l1, l2, l3, l4⟩ := I.low _ mem
  have ll := I.plt mem
  simp only at l1 l2 l3 l4 ll
  have dd : ∀ g ∈ fr, g.2.1 ≠ l := fun g hg z => by
    have := I.dis
    rw [List.map_append] at this
    exact (List.nodup_append.mp this).2.2 g.2.1 (List.mem_map.mpr ⟨g, hg, rfl⟩) l (by simp) z
  refine ⟨by rw [take_set_ge l1]; exact I.pre, by rw [List.getElem?_set_ne l2]; exact I.nam, by rw [List.getElem?_set_ne l4]; exact I.cel, ?_, fun f hf => ?_, ?_, fun f hf => ?_⟩
  · rw [List.getElem?_set_ne l3, I.frm, List.map_append, List.map_append]; rfl
  · rcases List.mem_append.mp hf with hf | hf
    · rw [List.getElem?_set_ne (Ne.symm (dd f hf))]; exact I.par f (List.mem_append_left _ hf)
    · cases List.mem_singleton.mp hf
      rw [List.getElem?_set_self ll]
  · have := I.dis
    rw [List.map_append] at this ⊢
    exact this
  · rcases List.mem_append.mp hf with hf | hf
    · exact I.low f (List.mem_append_left _ hf)
    · cases List.mem_singleton.mp hf
      exact ⟨l1, l2, l3, l4⟩
end
/-- knots begun in frames -/
def frK : List Fr → Nat
  | [] => 0
  | f :: fr => 1 + knotsL f.2.2 + frK fr
theorem frK_app : ∀ (a b : List Fr), frK (a ++ b) = frK a + frK b
  | [], b => by simp [frK]
  | f :: a, b => by rw [List.cons_append, frK, frK, frK_app a b]; omega
theorem knotsL_app (ps : List Tr) (t : Tr) : knotsL (ps ++ [t]) = knotsL ps + t.knots := by
  rw [knotsL_sum, knotsL_sum]; simp
theorem depthL_le {ps : List Tr} {n : Nat} : depthL ps ≤ n ↔ ∀ t ∈ ps, t.depth ≤ n := by
  induction ps with
  | nil => simp [depthL]
  | cons t ts ih => rw [depthL, Nat.max_le, ih]; simp
/-- the trees in frames: good, few; the lowest first -/
structure FrT (w : Nat) (fr : List Fr) (top : Fr) : Prop where
  nm : ∀ f ∈ fr ++ [top], nameB f.1 = true ∧ ∀ t ∈ f.2.2, t.good
  few : ∀ f ∈ fr, f.2.2.length ≤ 8
  few1 : top.2.2.length ≤ 9
  len : fr.length ≤ 9
  dep : ∀ j f, (fr ++ [top])[j]? = some f → ∀ t ∈ f.2.2, t.depth + j ≤ 10 + w
def lowN (fr : List Fr) (top : Fr) : Nat := match fr with
  | [] => top.2.2.length
  | b :: _ => b.2.2.length
section
variable {w : Nat} {fr : List Fr} {top g : Fr}
theorem FrT.good (T : FrT w fr top) : (Tr.bk top.1 top.2.2).good := by
  have := T.nm top (by simp)
  exact ⟨this.1, T.few1, goodL_iff.mpr this.2⟩
theorem FrT.depth (T : FrT w fr top) : (Tr.bk top.1 top.2.2).depth + fr.length ≤ 11 + w := by
  have : depthL top.2.2 + fr.length ≤ 10 + w := by
    by_cases z : fr.length ≤ 10 + w
    · have := depthL_le.mpr (fun t ht => by have := T.dep fr.length top (by simp) t ht; show t.depth ≤ 10 + w - fr.length; omega)
      omega
    · have := T.len; omega
  rw [Tr.depth]; omega
/-- a leaf, or a closed block -/
theorem FrT.add (T : FrT w fr top) {t : Tr} (ht : t.good) (hd : t.depth + fr.length ≤ 10 + w) (hl : top.2.2.length ≤ 8) : FrT w fr (top.1, top.2.1, top.2.2 ++ [t]) where
  nm := fun f hf => by
    rcases List.mem_append.mp hf with hf | hf
    · exact T.nm f (List.mem_append_left _ hf)
    · cases List.mem_singleton.mp hf
      have := T.nm top (by simp)
      refine ⟨this.1, fun u hu => ?_⟩
      rcases List.mem_append.mp hu with hu | hu
      · exact this.2 u hu
      · cases List.mem_singleton.mp hu; exact ht
  few := T.few
  few1 := by simp; omega
  len := T.len
  dep := fun j f e u hu => by
    by_cases z : j < fr.length
    · rw [List.getElem?_append_left z] at e
      exact T.dep j f (by rw [List.getElem?_append_left z]; exact e) u hu
    · have : j = fr.length := by have := (List.getElem?_eq_some_iff.mp e).1; simp at this; omega
      subst this
      simp at e
      subst e
      rcases List.mem_append.mp hu with hu | hu
      · exact T.dep fr.length top (by simp) u hu
      · cases List.mem_singleton.mp hu; exact hd
theorem FrT.open_ (T : FrT w fr top) {s : Str} {l : Nat} (hs : nameB s = true) (hl : top.2.2.length ≤ 8) (hf : fr.length ≤ 8) : FrT w (fr ++ [top]) (s, l, []) where
  nm := fun f hf => by
    rcases List.mem_append.mp hf with hf | hf
    · exact T.nm f hf
    · cases List.mem_singleton.mp hf
      exact ⟨hs, fun u hu => nomatch hu⟩
  few := fun f hf => by
    rcases List.mem_append.mp hf with hf | hf
    · exact T.few f hf
    · cases List.mem_singleton.mp hf; exact hl
  few1 := Nat.zero_le _
  len := by simp; omega
  dep := fun j f e u hu => by
    by_cases z : j < (fr ++ [top]).length
    · rw [List.getElem?_append_left z] at e
      exact T.dep j f e u hu
    · have : j = (fr ++ [top]).length := by have := (List.getElem?_eq_some_iff.mp e).1; simp at this z; simp; omega
      subst this
      simp only [List.getElem?_concat_length, Option.some.injEq] at e
      subst e
      exact nomatch hu
theorem FrT.close (T : FrT w (fr ++ [g]) top) : FrT w fr (g.1, g.2.1, g.2.2 ++ [.bk top.1 top.2.2]) := by
  have base : FrT w fr g := ⟨fun f hf => T.nm f (List.mem_append_left _ hf), fun f hf => T.few f (List.mem_append_left _ hf), by have := T.few g (by simp); omega, by have := T.len; simp at this; omega, fun j f e u hu => T.dep j f (by
    have hj := (List.getElem?_eq_some_iff.mp e).1
    rw [List.getElem?_append_left hj]; exact e) u hu⟩
  refine base.add T.good ?_ (T.few g (by simp))
  have := T.depth
  rw [List.length_append, List.length_singleton] at this
  omega
theorem FrT.wrap (T : FrT w [] top) {s : Str} {l : Nat} (hs : nameB s = true) : FrT (w + 1) [] (s, l, [.bk top.1 top.2.2]) where
  nm := fun f hf => by
    cases List.mem_singleton.mp hf
    exact ⟨hs, fun u hu => by cases List.mem_singleton.mp hu; exact T.good⟩
  few := fun f hf => nomatch hf
  few1 := by simp
  len := Nat.zero_le _
  dep := fun j f e u hu => by
    have : j = 0 := by have := (List.getElem?_eq_some_iff.mp e).1; simp at this; omega
    subst this
    cases e
    cases List.mem_singleton.mp hu
    have := T.depth
    simp at this
    omega
end
end DV
namespace DV
open PySem PySem.Spec PyProof.Rows L2
theorem tup_loc {h : Hs} {l : Nat} {xs : List D} (e : h[l]? = some (.lst xs)) : tupT [.loc l] h = some (.tup xs, h) := by simp [tupT, e]
theorem eqB_empty {h : Hs} {l : Nat} {xs : List D} (e : h[l]? = some (.lst xs)) : eqB (.loc l) (.loc h.length) (h ++ [AO.lst []]) = some xs.isEmpty := by
  have e1 : (h ++ [AO.lst []])[l]? = some (.lst xs) := get_app e
  have e2 : (h ++ [AO.lst []])[h.length]? = some (.lst []) := by simp
  cases xs with
  | nil =>
    rw [eqB_lst e1 e2 rfl rfl (Nat.zero_le _)]; simp
  | cons x xs => rw [eqB_len e1 e2 (by simp)]; rfl
theorem eq_empty {h : Hs} {l : Nat} {xs : List D} (e : h[l]? = some (.lst xs)) : eqF (.loc l) (.loc h.length) (h ++ [AO.lst []]) = some (.bl xs.isEmpty, h ++ [AO.lst []]) := by
  unfold eqF
  rw [eqB_empty e]; rfl
theorem cut62 (cs : List D) : cutL cs none (some 62) = cs.take 62 := by
  unfold cutL
  have e1 : HT.sIx cs.length 0 none = 0 := rfl
  have e2 : HT.sIx cs.length cs.length (some 62) = min 62 cs.length := HT.sIx_nat _ _ 62
  rw [e1, e2, List.drop_zero, Nat.sub_zero, ← List.take_take, List.take_length]
def treeS (lc : Nat) (first shares : Int) (h : Hs) (a b c d e f : Option D) : Sl := [some (.loc lc), some (.int first), some (.int shares), some (.loc h.length), some (.loc (h.length + 2)), a, b, c, d, e, f]
theorem law_tree_ok (n : Nat) (h : Hs) (lc : Nat) (cs : List Int) (first shares : Int) (hc : h[lc]? = some (.lst (cs.map D.int))) :
    (F__law_tree (n + 3) [.loc lc, .int first, .int shares] h).wp (fun d h' => h' = h ∧ ∃ t : Tr, d = tD t ∧ t.good ∧ t.knots ≤ 190 ∧ t.depth ≤ 28) xF := by
  have dr : ∀ (cell k many : Int) (h : Hs), 0 < many → -1000000 ≤ k ∧ k ≤ 1000000 → F__law_draw (n + 2) [.int cell, .int k, .int many] h = .ok (.int (drawI cell k many)) h := fun cell k many h a b => draw_ok (n + 1) h cell k many a b
  obtain ⟨dn, hn, en, ns, rfl, rfl, n4, ng⟩ := R.wp_ex (names_ok n h first)
  rw [S__law_tree, wp_pure]
  obtain ⟨s0, hs0, ms0⟩ := names_at n4 (show (0 : Int) ≤ 0 by decide) (by decide)
  have c2 : (h ++ [AO.lst (ns.map D.str), .lst [], .lst [.tup [.str s0, .loc (h.length + 1)]]])[lc]? = some (.lst (cs.map D.int)) := get_app hc
  simp only [wp_run, m__law_tree]
  simp [startD, wp_v, en, ix_lst, hs0, slF, c2, cut62, its_lst, Nat.add_assoc]
  obtain ⟨its, hits⟩ : ∃ its, its = (cs.map D.int).take 62 := ⟨_, rfl⟩
  have il : its.length ≤ 62 := by rw [hits]; simp; omega
  obtain ⟨J, hJ⟩ : ∃ J : Nat → Sl → Hs → Prop, J = fun i ds h' => ∃ (fr : List Fr) (top : Fr) (w : Nat) (a b c d e f : Option D), FrI h ns its (fr ++ [top]) h' ∧ FrT w fr top ∧ frK (fr ++ [top]) ≤ 1 + 3 * i ∧ 11 * w + lowN fr top ≤ 3 * i ∧ ds = treeS lc first shares h a b c d e f := ⟨_, rfl⟩
  have start : J 0 (treeS lc first shares h none none none none none none) (h ++ [AO.lst (ns.map D.str), .lst [], .lst [.tup [.str s0, .loc (h.length + 1)]], .lst its]) := by
    rw [hJ]
    refine ⟨[], (s0, h.length + 1, []), 0, none, none, none, none, none, none, ⟨?_, ?_, ?_, ?_, ?_, ?_, ?_⟩, ⟨?_, ?_, ?_, ?_, ?_⟩, by simp [frK, knotsL], by simp [lowN], rfl⟩
    all_goals simp [fD, tDs]
    · exact ng s0 ms0
    · intro j a b c e t ht
      have : j = 0 := by have := (List.getElem?_eq_some_iff.mp e).1; simp at this; exact this
      subst this
      cases e
      exact nomatch ht
  simp only [← hits]
  refine ws_loop _ J start (fun i ds h' j => by rw [hJ] at j; obtain ⟨_, _, _, _, _, _, _, _, _, I, _⟩ := j; exact I.cel) ?_ ?_
  · intro i d ds h' hd hj
    rw [hJ] at hj
    obtain ⟨fr, top, w, a, b, c, d', e, f, I, T, kn, pot, rfl⟩ := hj
    obtain ⟨cell, rfl⟩ : ∃ cell : Int, d = .int cell := by
      rw [hits] at hd
      have := List.mem_of_mem_take (List.mem_of_getElem? hd)
      obtain ⟨x, _, rfl⟩ := List.mem_map.mp this
      exact ⟨x, rfl⟩
    have i62 : i < 62 := by have := (List.getElem?_eq_some_iff.mp hd).1; omega
    have frm : h'[h.length + 2]? = some (.lst (fr.map fD ++ [.tup [.str top.1, .loc top.2.1]])) := by rw [I.frm, List.map_append]; rfl
    have pt : h'[top.2.1]? = some (.lst (tDs top.2.2)) := I.par top (by simp)
    have ck := ck_lst frm
    have cn := ck_lst pt
    obtain ⟨s1, hs1, ms1⟩ := names_at n4 (drawI_lt cell 2 (by decide : (0 : Int) < 4)).1 (drawI_lt cell 2 (by decide : (0 : Int) < 4)).2
    have c9 : ((top.2.2.length : Int) = 9) ↔ top.2.2.length = 9 := by omega
    have few := T.few1
    have low := I.low top (by simp)
    simp only [ws_nameG, treeS, List.set_cons_succ, List.set_cons_zero]
    refine st_set (.int (drawI cell 1 8)) h' (by simp [wp_v, dr]) ?_
    simp only [List.set_cons_succ, List.set_cons_zero]
    by_cases cA : top.2.2.length = 9 ∨ (drawI cell 1 8 = 0 ∧ 0 < fr.length)
    · refine st_if true h' ?_ ?_
      · by_cases z : top.2.2.length = 9
        · simp [wp_v, ix_lst frm, at_last, len_lst frm, len_lst pt, c9, z]
        · obtain ⟨z1, z2⟩ := cA.resolve_left z
          have z3 : (1 : Int) < (fr.length : Int) + 1 := by omega
          simp [wp_v, ix_lst frm, at_last, len_lst frm, len_lst pt, c9, z, z1, z3]
      · rw [if_pos rfl]
        have pop := pop_lst frm
        have I1 : FrI h ns its fr (h'.set (h.length + 2) (.lst (fr.map fD))) := I.pop
        generalize hh1 : h'.set (h.length + 2) (.lst (fr.map fD)) = h1 at pop I1
        have pt1 : h1[top.2.1]? = some (.lst (tDs top.2.2)) := by rw [← hh1, List.getElem?_set_ne (Ne.symm low.2.2.1)]; exact pt
        have emp := eq_empty I1.frm
        rcases List.eq_nil_or_concat fr with rfl | ⟨fr', g, rfl⟩
        · have l9 : top.2.2.length = 9 := cA.resolve_right fun z => absurd z.2 (by simp)
          have app := append_lst (h := h1 ++ [AO.lst [], AO.lst (tDs [.bk top.1 top.2.2])]) (l := h.length + 2) (xs := []) (v := .tup [.str s1, .loc (h1 ++ [AO.lst []]).length]) (get_app I1.frm) (by simp)
          have ckx := ck_lst (h := h1 ++ [AO.lst []]) (get_app I1.frm)
          have nm := get_app (r := [AO.lst []]) I1.nam
          have I2 := (I1.grow [AO.lst []]).push s1 [.bk top.1 top.2.2]
          have T2 := T.wrap (s := s1) (l := (h1 ++ [AO.lst []]).length) (ng s1 ms1)
          simp [tD, tDs] at app
          simp [wp_v, ck, pop, tup_loc pt1, emp, dr, ckx, ix_lst nm, hs1, app]
          rw [hJ]
          refine ⟨[], (s1, (h1 ++ [AO.lst []]).length, [.bk top.1 top.2.2]), w + 1, _, _, _, _, _, _, ?_, T2, ?_, ?_, rfl⟩
          · simpa [fD, tDs, tD] using I2
          · simp [frK, knotsL, Tr.knots] at kn ⊢; omega
          · simp [lowN] at pot ⊢; omega
        · rw [List.concat_eq_append] at *
          have ne : ((fr' ++ [g]).map fD).isEmpty = false := by simp
          rw [ne] at emp
          have pg : h1[g.2.1]? = some (.lst (tDs g.2.2)) := I1.par g (by simp)
          have frm1 : h1[h.length + 2]? = some (.lst (fr'.map fD ++ [.tup [.str g.1, .loc g.2.1]])) := by rw [I1.frm, List.map_append]; rfl
          have g8 := T.few g (by simp)
          have app := append_lst (h := h1 ++ [AO.lst []]) (v := tD (.bk top.1 top.2.2)) (get_app pg) (by simp; omega)
          rw [tDs_app] at app
          have ckg := ck_lst (h := h1 ++ [AO.lst []]) (get_app pg)
          have I2 := (I1.grow [AO.lst []]).app (.bk top.1 top.2.2)
          have T2 := T.close
          simp [tD] at app
          simp [wp_v, ck, pop, tup_loc pt1, emp, ix_lst (get_app (r := [AO.lst []]) frm1), at_last, ckg, app]
          rw [hJ]
          refine ⟨fr', (g.1, g.2.1, g.2.2 ++ [.bk top.1 top.2.2]), w, _, _, _, _, _, _, I2, T2, ?_, ?_, rfl⟩
          · simp only [frK_app, frK, knotsL_app, Tr.knots] at kn ⊢; omega
          · cases fr' with
            | nil => simp [lowN] at pot ⊢; omega
            | cons b r => simp [lowN] at pot ⊢; omega
    · have n9 : ¬ top.2.2.length = 9 := fun z => cA (.inl z)
      have n0 : ¬ (drawI cell 1 8 = 0 ∧ 0 < fr.length) := fun z => cA (.inr z)
      refine st_if false h' ?_ ?_
      · simp [wp_v, ix_lst frm, at_last, len_lst frm, len_lst pt, c9, n9]
        intro z
        have : ¬ 0 < fr.length := fun y => n0 ⟨z, y⟩
        omega
      · rw [if_neg Bool.false_ne_true]
        by_cases cB : drawI cell 1 8 < 4 ∧ fr.length ≤ 8
        · refine st_if true h' ?_ ?_
          · simp [wp_v, len_lst frm, cB]
            omega
          · rw [if_pos rfl]
            have app := append_lst (h := h' ++ [AO.lst []]) (v := .tup [.str s1, .loc h'.length]) (get_app frm) (by simp; omega)
            have ck2 := ck_lst (h := h' ++ [AO.lst []]) (get_app frm)
            have I2 := I.push s1 []
            have T2 := T.open_ (l := h'.length) (ng s1 ms1) (by omega) cB.2
            simp [wp_v, dr, ck, ix_lst I.nam, hs1, app]
            rw [hJ]
            refine ⟨fr ++ [top], (s1, h'.length, []), w, _, _, _, _, _, _, ?_, T2, ?_, ?_, rfl⟩
            · simpa [fD, tDs] using I2
            · rw [frK_app]; simp [frK, knotsL]; omega
            · have : lowN (fr ++ [top]) (s1, h'.length, []) = lowN fr top := by cases fr <;> rfl
              rw [this]; omega
        · refine st_if false h' ?_ ?_
          · simp [wp_v, len_lst frm]
            intro z
            have : ¬ fr.length ≤ 8 := fun y => cB ⟨z, y⟩
            omega
          · rw [if_neg Bool.false_ne_true]
            have d53 := drawI_lt cell 5 (many := 3) (by decide)
            obtain ⟨M, hM, M1, M2, M3⟩ : ∃ M : Int, (if (9 : Int) - (top.2.2.length : Int) < 1 + drawI cell 5 3 then 9 - (top.2.2.length : Int) else 1 + drawI cell 5 3) = M ∧ 1 ≤ M ∧ M ≤ 3 ∧ M ≤ 9 - (top.2.2.length : Int) := by
              split <;> exact ⟨_, rfl, by omega, by omega, by omega⟩
            have rM : inR M = true := inR_of (by omega) (by omega)
            simp [wp_v, ix_lst frm, at_last, len_lst pt, dr, hM, rM]
            obtain ⟨G, hG⟩ : ∃ G : Nat → Sl → Hs → Prop, G = fun k ds h' => ∃ (ps : List Tr) (f : Option D), FrI h ns its (fr ++ [(top.1, top.2.1, ps)]) h' ∧ FrT w fr (top.1, top.2.1, ps) ∧ ps.length = top.2.2.length + k ∧ knotsL ps = knotsL top.2.2 + k ∧ ds = treeS lc first shares h (some (.int cell)) (some (.int (drawI cell 1 8))) c d' e f := ⟨_, rfl⟩
            have startG : G 0 (treeS lc first shares h (some (.int cell)) (some (.int (drawI cell 1 8))) c d' e f) h' := by
              rw [hG]; exact ⟨top.2.2, f, I, T, rfl, rfl, rfl⟩
            refine ws_loop _ G startG (fun _ _ _ _ => trivial) ?_ ?_
            · intro k d ds h2 hd hj
              rw [hG] at hj
              obtain ⟨ps, f, I, T, pl, pk, rfl⟩ := hj
              have hk : k < M.toNat := by have := (List.getElem?_eq_some_iff.mp hd).1; simpa using this
              have ed : d = .int k := by
                rw [List.getElem?_map, List.getElem?_range hk] at hd
                exact (Option.some.inj hd).symm
              subst ed
              obtain ⟨ld, h3, le, e3, t, rfl, tg, tp⟩ := R.wp_ex (leaf_ok n h2 (cell + k) first shares h.length ns I.nam n4 ng)
              rw [e3] at le
              have frm : h2[h.length + 2]? = some (.lst (fr.map fD ++ [.tup [.str top.1, .loc top.2.1]])) := by rw [I.frm, List.map_append]; rfl
              have pt : h2[top.2.1]? = some (.lst (tDs ps)) := I.par (top.1, top.2.1, ps) (by simp)
              have cn := ck_lst pt
              have app := append_lst (v := tD t) pt (by simp; omega)
              rw [tDs_app] at app
              have kt : t.knots = 1 := by rw [knots_parts, tp]; rfl
              have dt : t.depth = 1 := by rw [depth_parts, tp]; rfl
              have fl := T.len
              have I2 := I.app t
              have T2 := T.add tg (by omega) (by show ps.length ≤ 8; omega)
              simp [treeS, wp_v, ix_lst frm, at_last, cn, le, app]
              rw [hG]
              refine ⟨ps ++ [t], _, I2, T2, by simp; omega, by rw [knotsL_app]; omega, rfl⟩
            · intro ds h2 hj
              rw [hG] at hj
              obtain ⟨ps, f, I, T, pl, pk, rfl⟩ := hj
              have ml : (List.map (fun (i : Nat) => D.int (i : Int)) (List.range M.toNat)).length = M.toNat := by simp
              rw [ml] at pl pk
              rw [hJ]
              refine ⟨fr, (top.1, top.2.1, ps), w, _, _, _, _, _, _, I, T, ?_, ?_, rfl⟩
              · simp only [frK_app, frK] at kn ⊢; omega
              · cases fr with
                | nil => simp [lowN] at pot ⊢; omega
                | cons b r => simp [lowN] at pot ⊢; omega
  · intro ds h' hj
    rw [hJ] at hj
    obtain ⟨fr, top, w, a, b, c, d', e, f, I, T, kn, pot, rfl⟩ := hj
    have w16 : w ≤ 16 := by omega
    have kn : frK (fr ++ [top]) ≤ 187 := by omega
    obtain ⟨G, hG⟩ : ∃ G : Nat → Sl → Hs → Prop, G = fun k ds h' => ∃ (fr : List Fr) (top : Fr) (c d : Option D), k = fr.length ∧ FrI h ns its (fr ++ [top]) h' ∧ FrT w fr top ∧ frK (fr ++ [top]) ≤ 187 ∧ ds = treeS lc first shares h a b c d e f := ⟨_, rfl⟩
    have startG : G fr.length (treeS lc first shares h a b c d' e f) h' := by rw [hG]; exact ⟨fr, top, c, d', rfl, I, T, kn, rfl⟩
    refine ws_while G FUEL fr.length (by have := T.len; unfold FUEL; omega) startG ?_
    intro k ds h' hj
    rw [hG] at hj
    obtain ⟨fr, top, c, d', rfl, I, T, kn, rfl⟩ := hj
    have frm : h'[h.length + 2]? = some (.lst (fr.map fD ++ [.tup [.str top.1, .loc top.2.1]])) := by rw [I.frm, List.map_append]; rfl
    have pt : h'[top.2.1]? = some (.lst (tDs top.2.2)) := I.par top (by simp)
    have low := I.low top (by simp)
    rcases List.eq_nil_or_concat fr with rfl | ⟨fr', g, rfl⟩
    · simp [treeS, wp_v, len_lst frm, ix_lst frm, tup_loc pt]
      have := T.depth
      have tg := T.good
      refine ⟨⟨?_, I.pre⟩, .bk top.1 top.2.2, by simp [tD], tg, ?_, ?_⟩
      · simp [noloc, nolocL, noloc_tDs]
      · simp [frK] at kn; rw [Tr.knots]; omega
      · simp at this; omega
    · rw [List.concat_eq_append] at *
      have pop := pop_lst frm
      have I1 : FrI h ns its (fr' ++ [g]) (h'.set (h.length + 2) (.lst ((fr' ++ [g]).map fD))) := I.pop
      generalize hh1 : h'.set (h.length + 2) (.lst ((fr' ++ [g]).map fD)) = h1 at pop I1
      have pt1 : h1[top.2.1]? = some (.lst (tDs top.2.2)) := by rw [← hh1, List.getElem?_set_ne (Ne.symm low.2.2.1)]; exact pt
      have pg : h1[g.2.1]? = some (.lst (tDs g.2.2)) := I1.par g (by simp)
      have frm1 : h1[h.length + 2]? = some (.lst (fr'.map fD ++ [.tup [.str g.1, .loc g.2.1]])) := by rw [I1.frm, List.map_append]; rfl
      have g8 := T.few g (by simp)
      have app := append_lst (v := tD (.bk top.1 top.2.2)) pg (by simp; omega)
      rw [tDs_app] at app
      have ckg := ck_lst pg
      have ck := ck_lst frm
      have I2 := I1.app (.bk top.1 top.2.2)
      have T2 := T.close
      simp [tD] at app
      have lt1 : (1 : Int) < (((fr' ++ [g]).map fD ++ [D.tup [.str top.1, .loc top.2.1]]).length : Int) := by simp; omega
      simp [treeS, wp_v, len_lst frm, lt1, ck, pop, tup_loc pt1, ix_lst frm1, at_last, ckg, app]
      rw [if_pos (by omega), hG]
      refine ⟨fr'.length, by omega, fr', (g.1, g.2.1, g.2.2 ++ [.bk top.1 top.2.2]), _, _, rfl, I2, T2, ?_, rfl⟩
      simp only [frK_app, frK, knotsL_app, Tr.knots] at kn ⊢; omega
end DV
namespace DV
open PySem PySem.Spec PyProof.Rows L2
mutual
def Tr.places : Tr → List (List Nat × Tr)
  | .bl k => [([], .bl k)]
  | .bk s ps => ([], .bk s ps) :: placesL 0 ps
def placesL (k : Nat) : List Tr → List (List Nat × Tr)
  | [] => []
  | t :: ts => (t.places.map fun p => (k :: p.1, p.2)) ++ placesL (k + 1) ts
end
theorem places_parts (t : Tr) : t.places = ([], t) :: placesL 0 t.parts := by cases t <;> simp [Tr.places, Tr.parts, placesL]
/-- the places of a tree that stands at a place -/
def placesAt (pl : List Nat) (t : Tr) : List (List Nat × Tr) := t.places.map fun p => (pl ++ p.1, p.2)
def placesAtL (pl : List Nat) (k : Nat) : List Tr → List (List Nat × Tr)
  | [] => []
  | t :: ts => placesAt (pl ++ [k]) t ++ placesAtL pl (k + 1) ts
theorem placesAtL_eq (pl : List Nat) : ∀ (ts : List Tr) (k : Nat), placesAtL pl k ts = (placesL k ts).map fun p => (pl ++ p.1, p.2)
  | [], k => rfl
  | t :: ts, k => by
    rw [placesAtL, placesL, List.map_append, placesAtL_eq pl ts, placesAt, List.map_map]
    congr 1
    apply List.map_congr_left
    intro p _
    simp
theorem placesAt_parts (pl : List Nat) (t : Tr) : placesAt pl t = (pl, t) :: placesAtL pl 0 t.parts := by
  rw [placesAt, places_parts, List.map_cons, placesAtL_eq]
  simp
theorem placesAt_nil (t : Tr) : placesAt [] t = t.places := by simp [placesAt]
def plInts (p : List Nat) : List D := p.map fun (k : Nat) => D.int (k : Int)
def plD (p : List Nat × Tr) : D := .tup [.tup (plInts p.1), tD p.2]
theorem noloc_pl (p : List Nat) : nolocL (plInts p) = true := by
  induction p with
  | nil => rfl
  | cons k p ih => simp [plInts, nolocL, noloc] at ih ⊢; exact ih
theorem noloc_pls (ps : List (List Nat × Tr)) : nolocL (ps.map plD) = true := by
  induction ps with
  | nil => rfl
  | cons p ps ih => simp [nolocL, noloc, plD, noloc_pl, noloc_tD, ih]
mutual
theorem places_len : ∀ t : Tr, t.places.length = t.knots
  | .bl k => by simp [Tr.places, Tr.knots]
  | .bk s ps => by rw [Tr.places, Tr.knots, List.length_cons, placesL_len ps 0]; omega
theorem placesL_len : ∀ (ts : List Tr) (k : Nat), (placesL k ts).length = knotsL ts
  | [], k => by simp [placesL, knotsL]
  | t :: ts, k => by rw [placesL, List.length_append, List.length_map, places_len t, placesL_len ts, knotsL]
end
theorem ne_empty {h : Hs} {l : Nat} {xs : List D} (e : h[l]? = some (.lst xs)) : neF (.loc l) (.loc h.length) (h ++ [AO.lst []]) = some (.bl (!xs.isEmpty), h ++ [AO.lst []]) := by
  unfold neF
  rw [eqB_empty e]; rfl
@[simp] theorem rng3_int {i j : Int} : rng3 [.int i, .int j, .int (-1)] = if inR i = true ∧ inR j = true then some ((List.range (i - j).toNat).map fun (t : Nat) => .int (i - (t : Int))) else none := by
  unfold rng3
  simp
/-- what waits: the last one first -/
def waitP : List (List Nat × Tr) → List (List Nat × Tr)
  | [] => []
  | p :: r => placesAt p.1 p.2 ++ waitP r
def waitK : List (List Nat × Tr) → Nat
  | [] => 0
  | p :: r => p.2.knots + waitK r
/-- the parts as they are laid upon the pile, from number k on -/
def pile (pl : List Nat) (k : Nat) : List Tr → List (List Nat × Tr)
  | [] => []
  | t :: ts => (pl ++ [k], t) :: pile pl (k + 1) ts
theorem waitP_pile (pl : List Nat) (r : List (List Nat × Tr)) : ∀ (ts : List Tr) (k : Nat), waitP (pile pl k ts ++ r) = placesAtL pl k ts ++ waitP r
  | [], k => rfl
  | t :: ts, k => by
    show placesAt (pl ++ [k]) t ++ waitP (pile pl (k + 1) ts ++ r) = _
    rw [waitP_pile pl r ts, placesAtL, List.append_assoc]
theorem waitK_pile (pl : List Nat) (r : List (List Nat × Tr)) : ∀ (ts : List Tr) (k : Nat), waitK (pile pl k ts ++ r) = knotsL ts + waitK r
  | [], k => by simp [pile, knotsL]
  | t :: ts, k => by
    show t.knots + waitK (pile pl (k + 1) ts ++ r) = _
    rw [waitK_pile pl r ts, knotsL]; omega
theorem pile_get (pl : List Nat) : ∀ (ts : List Tr) (k i : Nat) (t : Tr), ts[i]? = some t → (pile pl k ts).drop i = (pl ++ [k + i], t) :: (pile pl k ts).drop (i + 1)
  | [], k, i, t, e => by simp at e
  | u :: ts, k, 0, t, e => by simp at e; subst e; simp [pile]
  | u :: ts, k, i + 1, t, e => by
    simp at e
    have := pile_get pl ts (k + 1) i t e
    simp only [pile, List.drop_succ_cons]
    rw [this]
    have : k + 1 + i = k + (i + 1) := by omega
    rw [this]
theorem pile_len (pl : List Nat) : ∀ (ts : List Tr) (k : Nat), (pile pl k ts).length = ts.length
  | [], k => rfl
  | t :: ts, k => by simp [pile, pile_len pl ts]
mutual
theorem place_len : ∀ (t : Tr) (p : List Nat × Tr), p ∈ t.places → p.1.length + p.2.depth ≤ t.depth
  | .bl k, p, h => by
    rw [Tr.places] at h
    cases List.mem_singleton.mp h
    simp [Tr.depth]
  | .bk s ps, p, h => by
    rw [Tr.places] at h
    rcases List.mem_cons.mp h with rfl | h
    · simp
    · have := placeL_len ps 0 p h
      rw [Tr.depth]; omega
theorem placeL_len : ∀ (ts : List Tr) (k : Nat) (p : List Nat × Tr), p ∈ placesL k ts → p.1.length + p.2.depth ≤ 1 + depthL ts
  | [], k, p, h => by rw [placesL] at h; exact nomatch h
  | t :: ts, k, p, h => by
    rw [placesL] at h
    rw [depthL]
    rcases List.mem_append.mp h with h | h
    · obtain ⟨q, hq, rfl⟩ := List.mem_map.mp h
      have := place_len t q hq
      simp only [List.length_cons]
      omega
    · have := placeL_len ts (k + 1) p h
      omega
end
mutual
theorem depth_knots : ∀ t : Tr, t.depth ≤ t.knots
  | .bl k => by simp [Tr.depth, Tr.knots]
  | .bk s ps => by rw [Tr.depth, Tr.knots]; have := depthL_knots ps; omega
theorem depthL_knots : ∀ ts : List Tr, depthL ts ≤ knotsL ts
  | [] => Nat.le_refl _
  | t :: ts => by rw [depthL, knotsL]; have := depth_knots t; have := depthL_knots ts; omega
end
theorem waitP_len : ∀ w : List (List Nat × Tr), (waitP w).length = waitK w
  | [] => rfl
  | p :: r => by rw [waitP, List.length_append, placesAt, List.length_map, places_len, waitP_len r, waitK]
theorem wait_len : ∀ w : List (List Nat × Tr), w.length ≤ waitK w
  | [] => Nat.le_refl _
  | p :: r => by rw [waitK, List.length_cons]; have := wait_len r; have := knots_pos p.2; omega
theorem law_places_ok (n : Nat) (h : Hs) (t : Tr) (hk : t.knots ≤ 100000 - 1) : F__law_places (n + 1) [tD t] h = .ok (.loc h.length) (h ++ [.lst (t.places.map plD)]) := by
  refine R.wp_eq.mp ?_
  rw [S__law_places]
  refine wp_new ?_
  simp [wp_run, m__law_places, startD, wp_v, Nat.add_assoc]
  obtain ⟨J, hJ⟩ : ∃ J : Nat → Sl → Hs → Prop, J = fun k ds h' => ∃ (found wait : List (List Nat × Tr)) (r : Hs) (c d e : Option D), k = waitK wait ∧ h' = h ++ (.lst (found.map plD) :: .lst (wait.reverse.map plD) :: r) ∧ found ++ waitP wait = t.places ∧ ds = [some (tD t), some (.loc h.length), some (.loc (h.length + 1)), c, d, e] := ⟨_, rfl⟩
  have start : J t.knots [some (tD t), some (.loc h.length), some (.loc (h.length + 1)), none, none, none] (h ++ [AO.lst [], AO.lst [D.tup [D.tup [], tD t]]]) := by
    rw [hJ]
    exact ⟨[], [([], t)], [], none, none, none, by simp [waitK], by simp [plD, plInts], by simp [waitP, placesAt_nil], rfl⟩
  refine ws_while J FUEL t.knots (by unfold FUEL; omega) start ?_
  intro k ds h' hj
  rw [hJ] at hj
  obtain ⟨found, wait, r, c, d, e, rfl, rfl, inv, rfl⟩ := hj
  have ef : ∀ (a b : List D) (r : Hs), (h ++ (AO.lst a :: AO.lst b :: r))[h.length]? = some (.lst a) := fun a b r => by simp
  have ew : ∀ (a b : List D) (r : Hs), (h ++ (AO.lst a :: AO.lst b :: r))[h.length + 1]? = some (.lst b) := fun a b r => by simp
  have ne := ne_empty (ew (found.map plD) (wait.reverse.map plD) r)
  cases wait with
  | nil =>
    have ne2 := ne
    simp at ne2
    simp [wp_v, ne2]
    simp [waitP] at inv
    subst inv
    simp [nolocO, noloc_pls]
  | cons p rest =>
    obtain ⟨pl, u⟩ := p
    have lens : found.length + 1 ≤ t.knots := by
      have := congrArg List.length inv
      rw [List.length_append, places_len, waitP, List.length_append, placesAt, List.length_map, places_len] at this
      simp only at this
      have := knots_pos u
      omega
    have inv2 : (found ++ [(pl, u)]) ++ waitP (pile pl 0 u.parts ++ rest) = t.places := by
      rw [← inv, waitP_pile, waitP, placesAt_parts]
      simp
    have wk : waitK (pile pl 0 u.parts ++ rest) + 1 = waitK ((pl, u) :: rest) := by
      rw [waitK_pile, waitK]
      have := knots_parts u
      simp only
      omega
    have fin : ∀ (F W : List D) (r : Hs) (c d e : Option D), F = (found ++ [(pl, u)]).map plD → W = (pile pl 0 u.parts ++ rest).reverse.map plD → ∃ j, j < waitK ((pl, u) :: rest) ∧ J j [some (tD t), some (.loc h.length), some (.loc (h.length + 1)), c, d, e] (h ++ (.lst F :: .lst W :: r)) := by
      rintro F W r c d e rfl rfl
      refine ⟨waitK (pile pl 0 u.parts ++ rest), by omega, ?_⟩
      rw [hJ]
      exact ⟨_, _, r, c, d, e, rfl, rfl, inv2, rfl⟩
    obtain ⟨F, hF⟩ : ∃ F, F = found.map plD := ⟨_, rfl⟩
    obtain ⟨R0, hR⟩ : ∃ R0, R0 = rest.reverse.map plD := ⟨_, rfl⟩
    have e1 : ((pl, u) :: rest).reverse.map plD = R0 ++ [.tup [.tup (plInts pl), tD u]] := by rw [hR]; simp [plD]
    have Fl : F.length < 16777216 := by rw [hF, List.length_map]; omega
    rw [e1, ← hF] at ne ⊢
    have pop := pop_lst (h := h ++ (AO.lst F :: AO.lst (R0 ++ [.tup [.tup (plInts pl), tD u]]) :: (r ++ [AO.lst []]))) (ew _ _ _)
    have app := append_lst (h := h ++ (AO.lst F :: AO.lst R0 :: (r ++ [AO.lst []]))) (v := .tup [.tup (plInts pl), tD u]) (ef _ _ _) Fl
    have ck1 := ck_lst (ew F (R0 ++ [.tup [.tup (plInts pl), tD u]]) (r ++ [AO.lst []]))
    have ck2 := ck_lst (ef F R0 (r ++ [AO.lst []]))
    simp at pop app ne
    simp [wp_v, ne, ck1, pop, ck2, app]
    have total : waitK (pile pl 0 u.parts ++ rest) + found.length + 1 = t.knots := by
      have := congrArg List.length inv2
      rw [List.length_append, waitP_len, places_len, List.length_append, List.length_singleton] at this
      omega
    have wl := wait_len (pile pl 0 u.parts ++ rest)
    rw [List.length_append, pile_len] at wl
    cases u with
    | bl b =>
      simp [tD]
      exact fin _ _ _ _ _ _ (by rw [hF]; simp [plD, tD]) (by rw [hR]; simp [pile, Tr.parts])
    | bk s ps =>
      have pk : ps.length + rest.length ≤ 99999 := by simp only [Tr.parts] at wl total; omega
      have r1 : inR ((ps.length : Int) - 1) = true := inR_of (by omega) (by omega)
      have r2 : inR (-1) = true := inR_of (by decide) (by decide)
      have rl : (ps.length : Int) - 1 - -1 = ps.length := by omega
      simp [tD, r1, r2, rl]
      obtain ⟨G, hG⟩ : ∃ G : Nat → Sl → Hs → Prop, G = fun i ds h' => ∃ (W : List D) (r : Hs) (e : Option D), W = ((pile pl 0 ps).drop (ps.length - i) ++ rest).reverse.map plD ∧ h' = h ++ (.lst (F ++ [.tup [.tup (plInts pl), tD (.bk s ps)]]) :: .lst W :: r) ∧ ds = [some (tD t), some (.loc h.length), some (.loc (h.length + 1)), some (.tup (plInts pl)), some (tD (.bk s ps)), e] := ⟨_, rfl⟩
      have startG : G 0 [some (tD t), some (.loc h.length), some (.loc (h.length + 1)), some (.tup (plInts pl)), some (tD (.bk s ps)), e] (h ++ (.lst (F ++ [.tup [.tup (plInts pl), tD (.bk s ps)]]) :: .lst R0 :: (r ++ [AO.lst []]))) := by
        rw [hG]
        refine ⟨R0, _, _, ?_, rfl, rfl⟩
        have : (pile pl 0 ps).drop (ps.length - 0) = [] := by rw [List.drop_eq_nil_iff, pile_len]; omega
        rw [this, hR]; rfl
      simp [tD] at startG
      refine ws_loop _ G startG (fun _ _ _ _ => trivial) ?_ ?_
      · intro i d ds h' hd hj
        rw [hG] at hj
        obtain ⟨W, r, e, hW, rfl, rfl⟩ := hj
        have hi : i < ps.length := by have := (List.getElem?_eq_some_iff.mp hd).1; simpa using this
        have ed : d = .int ((ps.length - 1 - i : Nat) : Int) := by
          rw [List.getElem?_map, List.getElem?_range hi] at hd
          have e : (ps.length : Int) - 1 - (i : Int) = ((ps.length - 1 - i : Nat) : Int) := by omega
          rw [← e]
          exact (Option.some.inj hd).symm
        subst ed
        obtain ⟨p, hp⟩ : ∃ p, ps[ps.length - 1 - i]? = some p := ⟨_, List.getElem?_eq_getElem (by omega)⟩
        have ap : atI (tDs ps) ((ps.length - 1 - i : Nat) : Int) = some (tD p) := by
          rw [atI_nat (by rw [tDs_len]; omega), tDs_map, List.getElem?_map, hp]; rfl
        have pg := pile_get pl ps 0 (ps.length - 1 - i) p hp
        have Wl : W.length < 16777216 := by rw [hW]; simp [pile_len]; omega
        have app := append_lst (h := h ++ (AO.lst (F ++ [.tup [.tup (plInts pl), tD (.bk s ps)]]) :: AO.lst W :: r)) (v := .tup [.tup (plInts pl ++ [.int ((ps.length - 1 - i : Nat) : Int)]), tD p]) (ew _ _ _) Wl
        have ckw := ck_lst (ew (F ++ [.tup [.tup (plInts pl), tD (.bk s ps)]]) W r)
        have pll : (plInts pl).length + 1 ≤ 16777216 := by
          have mem : (pl, Tr.bk s ps) ∈ t.places := by rw [← inv2]; simp
          have q := place_len t _ mem
          have := depth_knots t
          simp only [plInts, List.length_map] at q ⊢
          omega
        simp [tD] at app ckw
        simp [tD, wp_v, ckw, pll, ap, app]
        rw [hG]
        refine ⟨_, r, some (.int ((ps.length - 1 - i : Nat) : Int)), ?_, rfl, by simp [tD]⟩
        have e1 : ps.length - (i + 1) = ps.length - 1 - i := by omega
        have e2 : ps.length - 1 - i + 1 = ps.length - i := by omega
        rw [e1, pg, e2, hW]
        simp [plD, plInts]
      · intro ds h' hj
        rw [hG] at hj
        obtain ⟨W, r, e, hW, rfl, rfl⟩ := hj
        rw [List.length_map, List.length_range] at hW
        have := fin (F ++ [.tup [.tup (plInts pl), tD (.bk s ps)]]) W r (some (.tup (plInts pl))) (some (tD (.bk s ps))) e (by rw [hF]; simp [plD]) (by rw [hW]; simp [Tr.parts])
        simp [tD] at this
        exact this
end DV
namespace DV
open PySem PySem.Spec PyProof.Rows L2
theorem strOk_name {s : Str} (h : nameB s = true) : PyData.strOk s = true := by
  unfold nameB at h
  rw [Bool.and_eq_true, nameL_iff] at h
  obtain ⟨_, _, h⟩ := h
  unfold PyData.strOk
  rw [Array.all_eq_true]
  intro i hi
  have e : s.cps.toList[i]? = some s.cps[i] := by rw [Array.getElem?_toList]; exact Array.getElem?_eq_getElem hi
  have := h i _ e
  unfold okAt at this
  simp only [Bool.or_eq_true, Bool.and_eq_true, decide_eq_true_eq] at this
  have small : ∀ c, c ∈ smallS.cps → c < 0x110000 := by decide +kernel
  have fig : ∀ c, c ∈ figS.cps → c < 0x110000 := by decide +kernel
  rcases this with z | ⟨_, z⟩
  · exact decide_eq_true (small _ z)
  · exact decide_eq_true (fig _ z)
mutual
theorem dep_tD : ∀ t : Tr, depD (tD t) ≤ 2 * t.depth
  | .bl k => by simp [tD, depD, depL, Tr.depth]
  | .bk s ps => by
    have := dep_tDs ps
    simp [tD, depD, depL, Tr.depth]
    omega
theorem dep_tDs : ∀ ts : List Tr, depL (tDs ts) ≤ 2 * depthL ts
  | [] => by simp [tDs, depL]
  | t :: ts => by
    have := dep_tD t
    have := dep_tDs ts
    simp only [tDs, depL, depthL]
    omega
end
end DV
namespace DV
open PySem PySem.Spec PyProof.Rows L2
@[simp] theorem ix_ro {h : Hs} {ns : List Int} {i : Int} : ixF (.ro ns) (.int i) h = (atI ns i).map fun n => (.int n, h) := rfl
def cellI (ns : List Int) (k : Nat) : Int := (ns[k]?).getD 0
theorem cell_ok (n : Nat) (h : Hs) (ns : List Int) (k : Nat) : F__law_cell_at (n + 1) [.ro ns, .int k] h = .ok (.int (cellI ns k)) h := by
  rw [S__law_cell_at]
  refine R.wp_eq.mp ?_
  by_cases c : k < ns.length
  · have e : atI ns (k : Int) = some ns[k] := by rw [atI_nat c, List.getElem?_eq_getElem c]
    have e2 : cellI ns k = ns[k] := by unfold cellI; rw [List.getElem?_eq_getElem c]; rfl
    simp [wp_pure, wp_run, m__law_cell_at, startD, wp_v, c, e, e2, noloc]
  · have e2 : cellI ns k = 0 := by unfold cellI; rw [List.getElem?_eq_none (by omega)]; rfl
    simp [wp_pure, wp_run, m__law_cell_at, startD, wp_v, c, e2, noloc]
theorem cell0_ok (n : Nat) (h : Hs) (ns : List Int) : F__law_cell_at (n + 1) [.ro ns, .int 0] h = .ok (.int (cellI ns 0)) h := cell_ok n h ns 0
theorem slF_ro {h : Hs} {ns : List Int} {lo hi : Option Int} : slF (.ro ns) lo hi h = some (.loc h.length, h ++ [.lst ((cutL ns lo hi).map D.int)]) := rfl
theorem slF_tup {h : Hs} {xs : List D} {lo hi : Option Int} : slF (.tup xs) lo hi h = some (.tup (cutL xs lo hi), h) := rfl
theorem cut_to {α : Type} (xs : List α) (k : Nat) : cutL xs none (some (k : Int)) = xs.take k := by
  unfold cutL
  have e1 : HT.sIx xs.length 0 none = 0 := rfl
  rw [e1, HT.sIx_nat, List.drop_zero, Nat.sub_zero, ← List.take_take, List.take_length]
theorem cut_from {α : Type} (xs : List α) (k : Nat) : cutL xs (some (k : Int)) none = xs.drop k := by
  unfold cutL
  have e1 : HT.sIx xs.length xs.length none = xs.length := rfl
  rw [e1, HT.sIx_nat]
  by_cases c : k ≤ xs.length
  · rw [Nat.min_eq_left c]
    exact List.take_of_length_le (by rw [List.length_drop]; omega)
  · rw [Nat.min_eq_right (by omega), List.drop_length, List.drop_eq_nil_of_le (by omega)]; simp
theorem drop1 (ns : List Int) : cutL ns (some 1) none = ns.drop 1 := cut_from ns 1
/-- the tree of the first family at the law's start -/
theorem start_tree (n : Nat) (h : Hs) (l : Nat) (cs : List Int) (first shares : Int) (hc : h[l]? = some (.lst (cs.map D.int))) :
    ∃ t : Tr, F__law_tree (n + 3) [.loc l, .int first, .int shares] h = .ok (tD t) h ∧ t.good ∧ t.knots ≤ 190 ∧ t.depth ≤ 28 := by
  obtain ⟨d, h', e, rfl, t, rfl, g⟩ := R.wp_ex (law_tree_ok n h l cs first shares hc)
  exact ⟨t, e, g⟩
theorem blank_good (first : Int) : (Tr.bl (1 + first % 1000000000)).good := by
  have f0 := Int.emod_nonneg first (show (1000000000 : Int) ≠ 0 by decide)
  have f1 := Int.emod_lt_of_pos first (show (0 : Int) < 1000000000 by decide)
  exact ⟨by omega, by omega⟩
theorem bl_small (k : Int) : (Tr.bl k).knots ≤ 190 ∧ (Tr.bl k).depth ≤ 28 := ⟨by simp [Tr.knots], by simp [Tr.depth]⟩
@[simp] theorem p109 : cPow 10 9 = true := cPow_of (by decide) (by decide) (by decide)
@[simp] theorem p108 : cPow 10 8 = true := cPow_of (by decide) (by decide) (by decide)
@[simp] theorem p106 : cPow 10 6 = true := cPow_of (by decide) (by decide) (by decide)
@[simp] theorem m109 (i : Int) : cMod i 1000000000 = true := cMod_of (by decide)
/-- equality of places -/
theorem plInts_inj : ∀ {a b : List Nat}, plInts a = plInts b ↔ a = b
  | [], [] => by simp
  | [], _ :: _ => by simp [plInts]
  | _ :: _, [] => by simp [plInts]
  | x :: a, y :: b => by
    have := plInts_inj (a := a) (b := b)
    simp only [plInts, List.map_cons, List.cons.injEq] at this ⊢
    rw [this]
    simp
    intro _
    omega
theorem pyOk_pl (p : List Nat) : pyOkL (plInts p) = true := by
  induction p with
  | nil => rfl
  | cons k p ih => simp [plInts, pyOkL, pyOk] at ih ⊢; exact ih
theorem dep_pl (p : List Nat) : depL (plInts p) = 0 := by
  induction p with
  | nil => rfl
  | cons k p ih => simp [plInts, depL, depD] at ih ⊢; exact ih
theorem eq_pl {h : Hs} (a b : List Nat) : eqF (.tup (plInts a)) (.tup (plInts b)) h = some (.bl (decide (a = b)), h) := by
  have e : (D.tup (plInts a) = D.tup (plInts b)) ↔ a = b := by rw [D.tup.injEq]; exact plInts_inj
  have := Classical.propDecidable (D.tup (plInts a) = D.tup (plInts b))
  rw [eq_of (by unfold pyOk; exact pyOk_pl a) (by unfold pyOk; exact pyOk_pl b) (by unfold depD; rw [dep_pl]; omega)]
  simp [e]
@[simp] theorem pl_len (p : List Nat) : (plInts p).length = p.length := by simp [plInts]
end DV
namespace DV
open PySem PySem.Spec PyProof.Rows L2
def Tr.at_ : Tr → List Int → Option Tr
  | t, [] => some t
  | t, k :: p => if 0 ≤ k ∧ k < t.parts.length then (t.parts[k.toNat]?).bind fun u => u.at_ p else none
theorem at_cons (t : Tr) (k : Int) (p : List Int) : t.at_ (k :: p) = if 0 ≤ k ∧ k < t.parts.length then (t.parts[k.toNat]?).bind fun u => u.at_ p else none := by rw [Tr.at_]
def plZ (p : List Int) : List D := p.map D.int
mutual
theorem places_at : ∀ (t : Tr) (q : List Nat × Tr), q ∈ t.places → t.at_ (q.1.map fun (k : Nat) => (k : Int)) = some q.2
  | .bl k, q, h => by
    rw [Tr.places] at h
    cases List.mem_singleton.mp h
    simp [Tr.at_]
  | .bk s ps, q, h => by
    rw [Tr.places] at h
    rcases List.mem_cons.mp h with rfl | h
    · simp [Tr.at_]
    · obtain ⟨k, p, u, e, hu, ha⟩ := placesL_at ps 0 q h
      rw [e]
      have hk := (List.getElem?_eq_some_iff.mp hu).1
      simp only [List.map_cons]
      unfold Tr.at_
      rw [if_pos ⟨by omega, by simp only [Tr.parts]; omega⟩]
      have e2 : ((0 + k : Nat) : Int).toNat = k := by omega
      rw [e2, Tr.parts, hu]
      exact ha
theorem placesL_at : ∀ (ts : List Tr) (j : Nat) (q : List Nat × Tr), q ∈ placesL j ts → ∃ k p u, q.1 = (j + k) :: p ∧ ts[k]? = some u ∧ u.at_ (p.map fun (k : Nat) => (k : Int)) = some q.2
  | [], j, q, h => by rw [placesL] at h; exact nomatch h
  | t :: ts, j, q, h => by
    rw [placesL] at h
    rcases List.mem_append.mp h with h | h
    · obtain ⟨r, hr, rfl⟩ := List.mem_map.mp h
      exact ⟨0, r.1, t, rfl, rfl, places_at t r hr⟩
    · obtain ⟨k, p, u, e, hu, ha⟩ := placesL_at ts (j + 1) q h
      exact ⟨k + 1, p, u, by rw [e]; congr 1; omega, by simpa using hu, ha⟩
end
def plT (q : List Nat × Tr) : D := .tup (plInts q.1)
end DV
namespace DV
open PySem PySem.Spec PyProof.Rows L2
theorem dep_plT : ∀ (ps : List (List Nat × Tr)), depL (ps.map plT) ≤ 1
  | [] => by simp [depL]
  | p :: ps => by
    have := dep_plT ps
    simp [depL, depD, plT, dep_pl] at this ⊢
    omega
end DV
namespace DV
open PySem PySem.Spec PyProof.Rows L2
/-- those not yet there, one behind the other -/
def addNew : List Int → List Int → List Int
  | acc, [] => acc
  | acc, k :: ks => addNew (if k ∈ acc then acc else acc ++ [k]) ks
mutual
def Tr.blanks : Tr → List Int
  | .bl k => [k]
  | .bk _ ps => blanksL [] ps
def blanksL (acc : List Int) : List Tr → List Int
  | [] => acc
  | t :: ts => blanksL (addNew acc t.blanks) ts
end
mutual
/-- all blanks as they stand -/
def Tr.allB : Tr → List Int
  | .bl k => [k]
  | .bk _ ps => allBL ps
def allBL : List Tr → List Int
  | [] => []
  | t :: ts => t.allB ++ allBL ts
end
theorem addNew_app : ∀ (xs ys acc : List Int), addNew acc (xs ++ ys) = addNew (addNew acc xs) ys
  | [], ys, acc => rfl
  | x :: xs, ys, acc => by rw [List.cons_append, addNew, addNew, addNew_app xs ys]
theorem mem_addNew {k : Int} : ∀ (xs acc : List Int), k ∈ addNew acc xs ↔ k ∈ acc ∨ k ∈ xs
  | [], acc => by simp [addNew]
  | x :: xs, acc => by
    rw [addNew, mem_addNew xs]
    split
    · rename_i h
      constructor
      · rintro (a | a)
        · exact .inl a
        · exact .inr (List.mem_cons_of_mem _ a)
      · rintro (a | a)
        · exact .inl a
        · rcases List.mem_cons.mp a with rfl | a
          · exact .inl h
          · exact .inr a
    · simp only [List.mem_append, List.mem_cons, List.not_mem_nil, or_false]
      constructor
      · rintro ((a | a) | a)
        · exact .inl a
        · exact .inr (.inl a)
        · exact .inr (.inr a)
      · rintro (a | a | a)
        · exact .inl (.inl a)
        · exact .inl (.inr a)
        · exact .inr a
/-- adding what was gathered apart is adding all -/
theorem addNew_gather : ∀ (xs acc b : List Int), addNew acc (addNew b xs) = addNew (addNew acc b) xs
  | [], acc, b => rfl
  | x :: xs, acc, b => by
    rw [addNew, addNew, addNew_gather xs acc]
    congr 1
    split
    · rename_i h
      rw [if_pos ((mem_addNew b acc).mpr (.inr h))]
    · rw [addNew_app]
      rfl
theorem nodup_addNew : ∀ (xs acc : List Int), acc.Nodup → (addNew acc xs).Nodup
  | [], acc, h => h
  | x :: xs, acc, h => by
    rw [addNew]
    refine nodup_addNew xs _ ?_
    split
    · exact h
    · rename_i hx
      refine List.nodup_append.mpr ⟨h, by simp, fun a ha b hb e => hx ?_⟩
      have e2 : b = x := by simpa using hb
      rw [e2] at e
      rw [← e]
      exact ha
mutual
theorem blanks_all : ∀ t : Tr, t.blanks = addNew [] t.allB
  | .bl k => by simp [Tr.blanks, Tr.allB, addNew]
  | .bk s ps => by rw [Tr.blanks, Tr.allB, blanksL_all ps]
theorem blanksL_all : ∀ (ts : List Tr) (acc : List Int), blanksL acc ts = addNew acc (allBL ts)
  | [], acc => by simp [blanksL, allBL, addNew]
  | t :: ts, acc => by
    rw [blanksL, allBL, blanksL_all ts, addNew_app, blanks_all t, addNew_gather]
    rfl
end
theorem blanks_nodup (t : Tr) : t.blanks.Nodup := by rw [blanks_all]; exact nodup_addNew _ _ List.nodup_nil
mutual
theorem allB_len : ∀ t : Tr, t.allB.length ≤ t.knots
  | .bl k => by simp [Tr.allB, Tr.knots]
  | .bk s ps => by rw [Tr.allB, Tr.knots]; have := allBL_len ps; omega
theorem allBL_len : ∀ ts : List Tr, (allBL ts).length ≤ knotsL ts
  | [] => by simp [allBL]
  | t :: ts => by rw [allBL, knotsL, List.length_append]; have := allB_len t; have := allBL_len ts; omega
end
theorem addNew_len : ∀ (xs acc : List Int), (addNew acc xs).length ≤ acc.length + xs.length
  | [], acc => by simp [addNew]
  | x :: xs, acc => by
    rw [addNew]
    have := addNew_len xs (if x ∈ acc then acc else acc ++ [x])
    split at this <;> (simp at this ⊢; rename_i h; simp [h]; omega)
theorem blanks_len (t : Tr) : t.blanks.length ≤ t.knots := by
  rw [blanks_all]
  have h1 := addNew_len t.allB []
  have h2 := allB_len t
  rw [List.length_nil] at h1
  omega
theorem blanksL_snoc (u : Tr) : ∀ (ts : List Tr) (acc : List Int), blanksL acc (ts ++ [u]) = addNew (blanksL acc ts) u.blanks
  | [], acc => by simp [blanksL]
  | t :: ts, acc => by rw [List.cons_append, blanksL, blanksL, blanksL_snoc u ts]
theorem ints_flat (xs : List Int) : (xs.map D.int).all flatD = true := by
  rw [List.all_map]
  exact List.all_eq_true.mpr fun _ _ => rfl
theorem inFlat_ints (k : Int) : ∀ xs : List Int, inFlat (.int k) (xs.map D.int) = decide (k ∈ xs)
  | [] => by simp [inFlat]
  | x :: xs => by
    have ih := inFlat_ints k xs
    unfold inFlat at ih ⊢
    rw [List.map_cons, List.any_cons, ih]
    show ((x == k) || _) = _
    by_cases c : k = x
    · subst c; simp
    · have : (x == k) = false := by simpa using Ne.symm c
      rw [this]
      simp [c]
theorem nin_ints {h : Hs} {l : Nat} {xs : List Int} {k : Int} (e : h[l]? = some (.lst (xs.map D.int))) : ninF (.int k) (.loc l) h = some (.bl (!decide (k ∈ xs)), h) := by
  simp only [ninF, inB, e, ints_flat, inFlat_ints, flatD, Bool.and_self, if_true]
  rfl
theorem noloc_ints (xs : List Int) : nolocL (xs.map D.int) = true := by
  induction xs with
  | nil => rfl
  | cons x xs ih => simp [nolocL, noloc, ih]
theorem blanks_of_ok : ∀ (n : Nat) (h : Hs) (t : Tr), t.depth ≤ n → t.knots ≤ 1000000 → F_blanks_of n [tD t] h = .ok (.loc h.length) (h ++ [.lst (t.blanks.map D.int)])
  | 0, h, t, hn, _ => by rw [depth_parts] at hn; omega
  | n + 1, h, .bl k, hn, hk => by
    rw [S_blanks_of]
    refine R.wp_eq.mp (wp_new ?_)
    simp [wp_run, m_blanks_of, startD, wp_v, tD, nolocO, nolocL, noloc, Tr.blanks]
  | n + 1, h, .bk s ps, hn, hk => by
    rw [S_blanks_of]
    refine R.wp_eq.mp (wp_new ?_)
    rw [Tr.depth] at hn
    rw [Tr.knots] at hk
    simp [wp_run, m_blanks_of, startD, wp_v, tD]
    obtain ⟨J, hJ⟩ : ∃ J : Nat → Sl → Hs → Prop, J = fun i ds h' => ∃ r b c, h' = h ++ (.lst ((blanksL [] (ps.take i)).map D.int) :: r) ∧ ds = [some (tD (.bk s ps)), some (.loc h.length), b, c] := ⟨_, rfl⟩
    have start : J 0 [some (tD (.bk s ps)), some (.loc h.length), none, none] (h ++ [.lst []]) := by rw [hJ]; exact ⟨[], _, _, rfl, rfl⟩
    simp [tD] at start
    refine ws_loop _ J start (fun _ _ _ _ => trivial) ?_ ?_
    · intro i d ds h' hd hj
      rw [hJ] at hj
      obtain ⟨r, b, c, rfl, rfl⟩ := hj
      obtain ⟨u, hu, rfl⟩ := tDs_get hd
      have mu := List.mem_of_getElem? hu
      have du := depth_mem mu
      have ku := knots_mem mu
      have ih := blanks_of_ok n (h ++ (.lst ((blanksL [] (ps.take i)).map D.int) :: r)) u (by omega) (by omega)
      have e1 : ps.take (i + 1) = ps.take i ++ [u] := by rw [List.take_add_one, hu]; rfl
      have e2 : blanksL [] (ps.take (i + 1)) = addNew (blanksL [] (ps.take i)) u.blanks := by rw [e1, blanksL_snoc]
      have al : (blanksL [] (ps.take i)).length ≤ 1000000 := by
        have a1 := blanks_len (.bk s (ps.take i))
        rw [Tr.blanks, Tr.knots] at a1
        have a2 : knotsL (ps.take i) ≤ knotsL ps := by
          rw [knotsL_sum, knotsL_sum]
          have : (ps.map Tr.knots).sum = ((ps.take i).map Tr.knots).sum + ((ps.drop i).map Tr.knots).sum := by
            rw [← List.sum_append, ← List.map_append, List.take_append_drop]
          omega
        omega
      have bl := blanks_len u
      generalize blanksL [] (ps.take i) = acc at ih e2 al ⊢
      have gi : ∀ (x : AO), (h ++ (x :: (r ++ [AO.lst (u.blanks.map D.int)])))[h.length + (r.length + 1)]? = some (.lst (u.blanks.map D.int)) := fun x => by simp
      have ii := its_lst (gi (.lst (acc.map D.int)))
      simp at ih
      simp [wp_v, ih, ii]
      obtain ⟨G, hG⟩ : ∃ G : Nat → Sl → Hs → Prop, G = fun k ds h' => ∃ c, h' = h ++ (.lst ((addNew acc (u.blanks.take k)).map D.int) :: (r ++ [AO.lst (u.blanks.map D.int)])) ∧ ds = [some (tD (.bk s ps)), some (.loc h.length), some (tD u), c] := ⟨_, rfl⟩
      have startG : G 0 [some (tD (.bk s ps)), some (.loc h.length), some (tD u), c] (h ++ (.lst (acc.map D.int) :: (r ++ [AO.lst (u.blanks.map D.int)]))) := by rw [hG]; exact ⟨_, rfl, rfl⟩
      refine ws_loop _ G startG (fun k ds h' j => by rw [hG] at j; obtain ⟨_, rfl, _⟩ := j; exact gi _) ?_ ?_
      · intro k d ds h' hd hj
        rw [hG] at hj
        obtain ⟨c, rfl, rfl⟩ := hj
        rw [List.getElem?_map] at hd
        cases q : u.blanks[k]? with
        | none => rw [q] at hd; cases hd
        | some x =>
          rw [q] at hd
          cases hd
          have e3 : u.blanks.take (k + 1) = u.blanks.take k ++ [x] := by rw [List.take_add_one, q]; rfl
          have e4 : addNew acc (u.blanks.take (k + 1)) = if x ∈ addNew acc (u.blanks.take k) then addNew acc (u.blanks.take k) else addNew acc (u.blanks.take k) ++ [x] := by rw [e3, addNew_app]; rfl
          have ln := addNew_len (u.blanks.take k) acc
          rw [List.length_take] at ln
          generalize addNew acc (u.blanks.take k) = A at e4 ln ⊢
          have gA : (h ++ (AO.lst (A.map D.int) :: (r ++ [AO.lst (u.blanks.map D.int)])))[h.length]? = some (.lst (A.map D.int)) := by simp
          have ck := ck_lst gA
          have app := append_lst (v := .int x) gA (by simp; omega)
          simp at app
          by_cases z : x ∈ A
          · have fin : G (k + 1) [some (tD (.bk s ps)), some (.loc h.length), some (tD u), some (.int x)] (h ++ (.lst (A.map D.int) :: (r ++ [AO.lst (u.blanks.map D.int)]))) := by
              rw [hG]; exact ⟨_, by rw [e4, if_pos z], rfl⟩
            simp [wp_v, nin_ints gA, z]
            exact fin
          · have fin : G (k + 1) [some (tD (.bk s ps)), some (.loc h.length), some (tD u), some (.int x)] (h ++ (.lst (A.map D.int ++ [.int x]) :: (r ++ [AO.lst (u.blanks.map D.int)]))) := by
              rw [hG]; exact ⟨_, by rw [e4, if_neg z, List.map_append]; rfl, rfl⟩
            simp [wp_v, nin_ints gA, z, ck, app]
            exact fin
      · intro ds h' hj
        rw [hG] at hj
        obtain ⟨c, rfl, rfl⟩ := hj
        rw [List.length_map, List.take_length, ← e2]
        rw [hJ]
        exact ⟨_, _, _, rfl, rfl⟩
    · intro ds h' hj
      rw [hJ] at hj
      obtain ⟨r, b, c, rfl, rfl⟩ := hj
      rw [tDs_len, List.take_length]
      simp [wp_v, nolocO, noloc_ints, Tr.blanks]
def blankOf : List Nat × Tr → Option Int
  | (_, .bl k) => some k
  | (_, .bk _ _) => none
mutual
theorem places_blanks : ∀ t : Tr, t.places.filterMap blankOf = t.allB
  | .bl k => by simp [Tr.places, Tr.allB, blankOf]
  | .bk s ps => by
    rw [Tr.places, Tr.allB, List.filterMap_cons]
    exact placesL_blanks ps 0
theorem placesL_blanks : ∀ (ts : List Tr) (k : Nat), (placesL k ts).filterMap blankOf = allBL ts
  | [], k => rfl
  | t :: ts, k => by
    rw [placesL, allBL, List.filterMap_append, List.filterMap_map, placesL_blanks ts, ← places_blanks t]
    have e : (blankOf ∘ fun p : List Nat × Tr => (k :: p.1, p.2)) = blankOf := funext fun ⟨a, u⟩ => by cases u <;> rfl
    rw [e]
end
end DV
namespace DV
open PySem PySem.Spec PyProof.Rows L2
section
variable {α : Type}
def mD (f : α → D) (fs : List (Int × α)) : List (Key × D) := fs.map fun p => (.inl p.1, f p.2)
def mAt (fs : List (Int × α)) (k : Int) : Option α := (fs.find? fun p => decide (p.1 = k)).map (·.2)
def mPut (fs : List (Int × α)) (k : Int) (t : α) : List (Int × α) := if (fs.any fun p => decide (p.1 = k)) = true then fs.map (fun p => if p.1 = k then (p.1, t) else p) else fs ++ [(k, t)]
@[simp] theorem mD_len (f : α → D) (fs : List (Int × α)) : (mD f fs).length = fs.length := List.length_map _
theorem val_mD (f : α → D) (k : Int) : ∀ fs : List (Int × α), valD (mD f fs) (.inl k : Key) = (mAt fs k).map f
  | [] => rfl
  | (j, a) :: fs => by
    have ih := val_mD f k fs
    unfold valD mAt mD at ih ⊢
    rw [List.map_cons, List.find?_cons, List.find?_cons]
    by_cases c : j = k
    · subst c; simp
    · simp only [c, Sum.inl.injEq, decide_false]
      exact ih
theorem put_mD (f : α → D) (fs : List (Int × α)) (k : Int) (t : α) : putD (mD f fs) (.inl k : Key) (f t) = mD f (mPut fs k t) := by
  have e : ((mD f fs).any fun p => decide (p.1 = (.inl k : Key))) = fs.any fun p => decide (p.1 = k) := by
    unfold mD
    rw [List.any_map]
    congr 1
    funext p
    simp
  unfold putD mPut
  rw [e]
  split
  · unfold mD
    rw [List.map_map, List.map_map]
    congr 1
    funext p
    simp only [Function.comp_apply, Sum.inl.injEq]
    split <;> rfl
  · unfold mD
    rw [List.map_append]; rfl
theorem mAt_cons (j k : Int) (a : α) (fs : List (Int × α)) : mAt ((j, a) :: fs) k = if j = k then some a else mAt fs k := by
  unfold mAt
  rw [List.find?_cons]
  by_cases c : j = k
  · simp [c]
  · simp [c]
theorem mAt_none {fs : List (Int × α)} {k : Int} : mAt fs k = none ↔ k ∉ fs.map (·.1) := by
  induction fs with
  | nil => simp [mAt]
  | cons p fs ih =>
    obtain ⟨j, a⟩ := p
    rw [mAt_cons]
    by_cases c : j = k
    · simp [c]
    · have : ¬ k = j := fun e => c e.symm
      simp [c, ih, this]
theorem mAt_mem {fs : List (Int × α)} {k : Int} {a : α} (h : mAt fs k = some a) : (k, a) ∈ fs := by
  induction fs with
  | nil => simp [mAt] at h
  | cons p fs ih =>
    obtain ⟨j, b⟩ := p
    rw [mAt_cons] at h
    split at h
    · rename_i c
      cases h
      rw [c]; exact List.mem_cons_self
    · exact List.mem_cons_of_mem _ (ih h)
theorem any_key {fs : List (Int × α)} {k : Int} : (fs.any fun p => decide (p.1 = k)) = decide (k ∈ fs.map (·.1)) := by
  induction fs with
  | nil => rfl
  | cons p fs ih =>
    rw [List.any_cons, ih]
    by_cases c : p.1 = k
    · simp [c]
    · have : ¬ k = p.1 := fun e => c e.symm
      simp [c, this]
theorem mPut_new {fs : List (Int × α)} {k : Int} {a : α} (h : k ∉ fs.map (·.1)) : mPut fs k a = fs ++ [(k, a)] := by
  unfold mPut
  rw [any_key, decide_eq_false h]; rfl
theorem mPut_len (fs : List (Int × α)) (k : Int) (a : α) : (mPut fs k a).length ≤ fs.length + 1 := by
  unfold mPut
  split <;> simp
end
mutual
def Tr.fill (f : Int → Option Tr) : Tr → Tr
  | .bl k => (f k).getD (.bl k)
  | .bk s ps => .bk s (fillL f ps)
def fillL (f : Int → Option Tr) : List Tr → List Tr
  | [] => []
  | t :: ts => t.fill f :: fillL f ts
end
theorem fillL_map (f : Int → Option Tr) : ∀ ts : List Tr, fillL f ts = ts.map (Tr.fill f)
  | [] => rfl
  | t :: ts => by rw [fillL, fillL_map f ts]; rfl
@[simp] theorem fillL_len (f : Int → Option Tr) (ts : List Tr) : (fillL f ts).length = ts.length := by rw [fillL_map, List.length_map]
mutual
theorem fill_allB {f : Int → Option Tr} {g : Int → Int} : ∀ t : Tr, (∀ k ∈ t.allB, f k = some (.bl (g k))) → (t.fill f).allB = t.allB.map g
  | .bl k, h => by rw [Tr.fill, h k (by simp [Tr.allB])]; simp [Tr.allB]
  | .bk s ps, h => by rw [Tr.fill, Tr.allB, Tr.allB, fillL_allB ps fun k hk => h k (by rw [Tr.allB]; exact hk)]
theorem fillL_allB {f : Int → Option Tr} {g : Int → Int} : ∀ ts : List Tr, (∀ k ∈ allBL ts, f k = some (.bl (g k))) → allBL (fillL f ts) = (allBL ts).map g
  | [], _ => rfl
  | t :: ts, h => by
    rw [fillL, allBL, allBL, List.map_append, fill_allB t fun k hk => h k (by rw [allBL]; exact List.mem_append_left _ hk), fillL_allB ts fun k hk => h k (by rw [allBL]; exact List.mem_append_right _ hk)]
end
def Tr.isBlank : Tr → Bool
  | .bl _ => true
  | .bk _ _ => false
mutual
theorem fill_knots {f : Int → Option Tr} (b : ∀ k u, f k = some u → u.isBlank = true) : ∀ t : Tr, (t.fill f).knots = t.knots ∧ (t.fill f).depth = t.depth
  | .bl k => by
    rw [Tr.fill]
    cases e : f k with
    | none => exact ⟨rfl, rfl⟩
    | some u =>
      have := b k u e
      cases u with
      | bl j => simp [Tr.knots, Tr.depth]
      | bk _ _ => cases this
  | .bk s ps => by
    rw [Tr.fill, Tr.knots, Tr.knots, Tr.depth, Tr.depth, (fillL_knots b ps).1, (fillL_knots b ps).2]
    exact ⟨rfl, rfl⟩
theorem fillL_knots {f : Int → Option Tr} (b : ∀ k u, f k = some u → u.isBlank = true) : ∀ ts : List Tr, knotsL (fillL f ts) = knotsL ts ∧ depthL (fillL f ts) = depthL ts
  | [] => ⟨rfl, rfl⟩
  | t :: ts => by
    rw [fillL, knotsL, knotsL, depthL, depthL, (fill_knots b t).1, (fill_knots b t).2, (fillL_knots b ts).1, (fillL_knots b ts).2]
    exact ⟨rfl, rfl⟩
end
theorem tDs_mapF (f : Int → Option Tr) (ts : List Tr) : tDs (fillL f ts) = ts.map fun t => tD (t.fill f) := by
  rw [fillL_map, tDs_map, List.map_map]; rfl
theorem exchanged_ok : ∀ (n : Nat) (h : Hs) (l : Nat) (fs : List (Int × Tr)) (t : Tr), h[l]? = some (.dct (mD tD fs)) → t.depth ≤ n → t.knots ≤ 1000000 → F_exchanged n [tD t, .loc l] h = .ok (tD (t.fill (mAt fs))) h
  | 0, h, l, fs, t, _, hn, _ => by rw [depth_parts] at hn; omega
  | n + 1, h, l, fs, .bl k, e, _, _ => by
    rw [S_exchanged]
    refine R.wp_eq.mp ?_
    have g := get_dct (x := tD (.bl k)) (k := .int k) (kk := .inl k) e rfl
    rw [val_mD] at g
    have e2 : ((mAt fs k).map tD).getD (tD (.bl k)) = tD ((Tr.bl k).fill (mAt fs)) := by
      rw [Tr.fill]
      cases mAt fs k <;> rfl
    rw [e2] at g
    have nl := noloc_tD ((Tr.bl k).fill (mAt fs))
    generalize tD ((Tr.bl k).fill (mAt fs)) = d at g nl ⊢
    simp [tD] at g
    simp [wp_pure, wp_run, m_exchanged, startD, wp_v, tD, ck_dct e, g, nl]
  | n + 1, h, l, fs, .bk s ps, e, hn, hk => by
    have hl := len_knotsL ps
    rw [Tr.depth] at hn
    rw [Tr.knots] at hk
    have lc := lc_map1 (h0 := h) (gd := fun _ => True) (i := 2) (ds := [some (tD (.bk s ps)), some (.loc l), none]) (A := callM (F_exchanged n) (consA (vM 2) (consA (vM 1) nilA))) (tDs ps) (ps.map fun t => tD (t.fill (mAt fs))) (by simp) (by simp; omega) (fun _ => trivial) (fun k d y acc e1 e2 => by
      obtain ⟨p, hp, rfl⟩ := tDs_get e1
      rw [List.getElem?_map, hp] at e2
      cases e2
      have hm := List.mem_of_getElem? hp
      have := depth_mem hm
      have := knots_mem hm
      have ih := exchanged_ok n (h ++ [.lst acc]) l fs p (get_app e) (by omega) (by omega)
      refine R.wp_eq.mp ?_
      simp [wp_v, ih])
    rw [← tDs_mapF] at lc
    rw [S_exchanged]
    refine R.wp_eq.mp ?_
    rw [Tr.fill]
    have nl := noloc_tDs (fillL (mAt fs) ps)
    have tl : ∀ x, tupT [.loc h.length] (h ++ [AO.lst x]) = some (.tup x, h ++ [AO.lst x]) := fun x => tup_loc (by simp)
    simp [tD] at lc
    simp [wp_pure, wp_run, m_exchanged, startD, wp_v, tD, lc, tl, noloc, nolocL, nl]
theorem law_exchanged_eq : ∀ n, F__law_exchanged n = F_exchanged n
  | 0 => rfl
  | n + 1 => by
    rw [S__law_exchanged, S_exchanged, law_exchanged_eq n]; rfl
def numF (i : Nat) : List Int → List (Int × Tr)
  | [] => []
  | b :: bs => (b, .bl ((i : Int) + 1)) :: numF (i + 1) bs
theorem numF_keys : ∀ (bs : List Int) (i : Nat), (numF i bs).map (·.1) = bs
  | [], _ => rfl
  | b :: bs, i => by rw [numF, List.map_cons, numF_keys bs]
@[simp] theorem numF_len : ∀ (bs : List Int) (i : Nat), (numF i bs).length = bs.length
  | [], _ => rfl
  | b :: bs, i => by rw [numF, List.length_cons, numF_len bs]; rfl
theorem numF_snoc (b : Int) : ∀ (bs : List Int) (i : Nat), numF i (bs ++ [b]) = numF i bs ++ [(b, .bl (((i + bs.length : Nat) : Int) + 1))]
  | [], i => by simp [numF]
  | c :: bs, i => by
    rw [List.cons_append, numF, numF, numF_snoc b bs, List.cons_append]
    congr 5
    rw [List.length_cons]; omega
theorem numF_put {b : Int} {bs : List Int} (h : b ∉ bs) : mPut (numF 0 bs) b (.bl ((bs.length : Int) + 1)) = numF 0 (bs ++ [b]) := by
  rw [mPut_new (by rw [numF_keys]; exact h), numF_snoc]
  simp
def Tr.plain (t : Tr) : Tr := t.fill (mAt (numF 0 t.blanks))
theorem plain_ok (n : Nat) (h : Hs) (t : Tr) (hn : t.depth ≤ n) (hk : t.knots ≤ 1000000) : F_plain (n + 1) [tD t] h = .ok (tD t.plain) h := by
  rw [S_plain]
  refine R.wp_eq.mp ?_
  rw [wp_pure, wp_run]
  refine ⟨rfl, ?_⟩
  unfold m_plain
  simp only [startD, List.map_cons, List.map_nil, List.length_cons, List.length_nil]
  refine st_set (.loc h.length) (h ++ [.dct []]) ⟨rfl, rfl⟩ ?_
  have bo : ∀ h, F_blanks_of n [tD t] h = .ok (.loc h.length) (h ++ [.lst (t.blanks.map D.int)]) := fun h => blanks_of_ok n h t (by omega) (by omega)
  have bl := blanks_len t
  have nd := blanks_nodup t
  unfold Tr.plain
  generalize t.blanks = bs at bo bl nd ⊢
  rw [ws_seq]
  simp [wp_v, bo, enumF]
  obtain ⟨J, hJ⟩ : ∃ J : Nat → Sl → Hs → Prop, J = fun i ds h' => h' = h ++ [.dct (mD tD (numF 0 (bs.take i))), .lst (bs.map D.int)] ∧ ∃ a b, ds = [some (tD t), some (.loc h.length), a, b] := ⟨_, rfl⟩
  refine ws_loop _ J (by rw [hJ]; exact ⟨rfl, _, _, rfl⟩) (fun i ds h' j => by rw [hJ] at j; rw [j.1]; simp) ?_ ?_
  · intro i d ds h' hd hj
    rw [hJ] at hj
    obtain ⟨rfl, a, b, rfl⟩ := hj
    obtain ⟨x, hx, rfl⟩ := numD_get hd
    rw [List.getElem?_map] at hx
    cases q : bs[i]? with
    | none => rw [q] at hx; cases hx
    | some x' =>
      rw [q] at hx
      cases hx
      have il : i < bs.length := (List.getElem?_eq_some_iff.mp q).1
      have e1 : bs.take (i + 1) = bs.take i ++ [x'] := by rw [List.take_add_one, q]; rfl
      have tl : (bs.take i).length = i := by rw [List.length_take]; omega
      have nm : x' ∉ bs.take i := by
        intro m
        have h2 := List.drop_eq_getElem_cons il
        rw [List.getElem?_eq_getElem il] at q
        have q2 : bs[i] = x' := Option.some.inj q
        rw [q2] at h2
        have h1 : bs = bs.take i ++ x' :: bs.drop (i + 1) := by rw [← h2, List.take_append_drop]
        rw [h1] at nd
        exact (List.nodup_append.mp nd).2.2 _ m _ List.mem_cons_self rfl
      have e2 := numF_put nm
      rw [tl, ← e1] at e2
      have st := set_dct (h := h ++ [AO.dct (mD tD (numF 0 (bs.take i))), AO.lst (bs.map D.int)]) (l := h.length) (kvs := mD tD (numF 0 (bs.take i))) (k := .int x') (kk := .inl x') (v := tD (.bl ((i : Int) + 1))) (by simp) rfl (by rw [mD_len, numF_len, tl]; omega)
      rw [put_mD, e2] at st
      have fin : J (i + 1) [some (tD t), some (.loc h.length), some (.int (i : Int)), some (.int x')] (h ++ [.dct (mD tD (numF 0 (bs.take (i + 1)))), .lst (bs.map D.int)]) := by rw [hJ]; exact ⟨rfl, _, _, rfl⟩
      simp [tD] at st
      simp [wp_v, st, fin]
  · intro ds h' hj
    rw [hJ] at hj
    obtain ⟨rfl, a, b, rfl⟩ := hj
    rw [numD_len, List.length_map, List.take_length]
    have ex := exchanged_ok n (h ++ [.dct (mD tD (numF 0 bs)), .lst (bs.map D.int)]) h.length (numF 0 bs) t (by simp) hn hk
    simp [wp_v, ex, noloc_tD]
end DV
namespace DV
open PySem PySem.Spec PyProof.Rows L2
theorem mem_blanks {t : Tr} {k : Int} : k ∈ t.blanks ↔ k ∈ t.allB := by rw [blanks_all, mem_addNew]; simp
theorem numF_at (k : Int) : ∀ (bs : List Int) (i : Nat), mAt (numF i bs) k = if k ∈ bs then some (.bl (((i + bs.idxOf k : Nat) : Int) + 1)) else none
  | [], i => rfl
  | b :: bs, i => by
    rw [numF, mAt_cons, numF_at k bs]
    by_cases c : b = k
    · subst c; simp
    · have c2 : ¬ k = b := fun e => c e.symm
      have c3 : (b == k) = false := by simpa using c
      by_cases m : k ∈ bs
      · rw [if_neg c, if_pos m, if_pos (List.mem_cons_of_mem _ m)]
        congr 3
        rw [List.idxOf_cons, c3]
        simp only [cond_false]
        omega
      · rw [if_neg c, if_neg m, if_neg (by simp [c2, m])]
theorem addNew_map {g : Int → Int} : ∀ (xs acc : List Int), (∀ a, a ∈ acc ∨ a ∈ xs → ∀ b, b ∈ acc ∨ b ∈ xs → g a = g b → a = b) → addNew (acc.map g) (xs.map g) = (addNew acc xs).map g
  | [], acc, _ => rfl
  | x :: xs, acc, inj => by
    rw [List.map_cons, addNew, addNew]
    have e : (g x ∈ acc.map g) ↔ x ∈ acc := by
      constructor
      · intro m
        obtain ⟨y, hy, e⟩ := List.mem_map.mp m
        have := inj y (.inl hy) x (.inr List.mem_cons_self) e
        rw [← this]; exact hy
      · exact fun m => List.mem_map.mpr ⟨x, m, rfl⟩
    by_cases c : x ∈ acc
    · rw [if_pos c, if_pos (e.mpr c)]
      exact addNew_map xs acc fun a ha b hb => inj a (ha.imp id (List.mem_cons_of_mem _)) b (hb.imp id (List.mem_cons_of_mem _))
    · rw [if_neg c, if_neg fun z => c (e.mp z)]
      have : acc.map g ++ [g x] = (acc ++ [x]).map g := by simp
      rw [this]
      refine addNew_map xs (acc ++ [x]) fun a ha b hb => inj a ?_ b ?_
      · rcases ha with ha | ha
        · rcases List.mem_append.mp ha with ha | ha
          · exact .inl ha
          · exact .inr (by simp at ha; simp [ha])
        · exact .inr (List.mem_cons_of_mem _ ha)
      · rcases hb with ha | ha
        · rcases List.mem_append.mp ha with ha | ha
          · exact .inl ha
          · exact .inr (by simp at ha; simp [ha])
        · exact .inr (List.mem_cons_of_mem _ ha)
theorem idxOf_map {g : Int → Int} : ∀ (xs : List Int) (k : Int), k ∈ xs → (∀ a ∈ xs, g a = g k → a = k) → (xs.map g).idxOf (g k) = xs.idxOf k
  | [], k, m, _ => by cases m
  | x :: xs, k, m, inj => by
    rw [List.map_cons, List.idxOf_cons, List.idxOf_cons]
    by_cases c : x = k
    · subst c; simp
    · have c2 : g x ≠ g k := fun e => c (inj x List.mem_cons_self e)
      have c3 : (x == k) = false := by simpa using c
      have c4 : (g x == g k) = false := by simpa using c2
      rw [c3, c4, cond_false, cond_false]
      have m2 : k ∈ xs := by
        rcases List.mem_cons.mp m with e | m
        · exact absurd e.symm c
        · exact m
      rw [idxOf_map xs k m2 fun a ha => inj a (List.mem_cons_of_mem _ ha)]
theorem numF_blank {bs : List Int} {k : Int} {u : Tr} (h : mAt (numF 0 bs) k = some u) : u.isBlank = true := by
  rw [numF_at] at h
  split at h
  · cases h; rfl
  · cases h
theorem plain_knots (t : Tr) : t.plain.knots = t.knots ∧ t.plain.depth = t.depth := fill_knots (fun k u e => numF_blank e) t
end DV
namespace DV
open PySem PySem.Spec PyProof.Rows L2
def Tr.size (t : Tr) : Nat × Nat := (t.knots, t.depth)
def Tr.great (t : Tr) : Prop := 400 < t.knots ∨ 60 < t.depth
instance (t : Tr) : Decidable t.great := inferInstanceAs (Decidable (_ ∨ _))
end DV
namespace DV
open PySem PySem.Spec PyProof.Rows L2
end DV
namespace DV
open PySem PySem.Spec PyProof.Rows L2
end DV
namespace DV
open PySem PySem.Spec PyProof.Rows L2
def Tr.setPart : Tr → Nat → Tr → Tr
  | .bl k, _, _ => .bl k
  | .bk s ps, k, w => .bk s (ps.set k w)
def Tr.put : Tr → List Int → Tr → Option Tr
  | _, [], u => some u
  | t, k :: p, u => if 0 ≤ k ∧ k < t.parts.length then (t.parts[k.toNat]?).bind fun v => (v.put p u).map fun w => t.setPart k.toNat w else none
theorem put_nil (t u : Tr) : t.put [] u = some u := by unfold Tr.put; rfl
theorem put_cons (t u : Tr) (k : Int) (p : List Int) : t.put (k :: p) u = if 0 ≤ k ∧ k < t.parts.length then (t.parts[k.toNat]?).bind fun v => (v.put p u).map fun w => t.setPart k.toNat w else none := by rw [Tr.put]
@[simp] theorem plZ_len (p : List Int) : (plZ p).length = p.length := by simp [plZ]
theorem tDs_set (ts : List Tr) (k : Nat) (w : Tr) : (tDs ts).set k (tD w) = tDs (ts.set k w) := by rw [tDs_map, tDs_map, List.map_set]
end DV
namespace DV
open PySem PySem.Spec PyProof.Rows L2
@[simp] theorem xn_FormError_NoPlace : (("FormError" : Str) = "NoPlace") = False := eq_false (by decide +kernel)
@[simp] theorem xn_FormError_BadText : (("FormError" : Str) = "BadText") = False := eq_false (by decide +kernel)
@[simp] theorem xn_FormError_TooLong : (("FormError" : Str) = "TooLong") = False := eq_false (by decide +kernel)
@[simp] theorem xn_FormError_BadPaper : (("FormError" : Str) = "BadPaper") = False := eq_false (by decide +kernel)
@[simp] theorem xn_FormError_BadName : (("FormError" : Str) = "BadName") = False := eq_false (by decide +kernel)
@[simp] theorem xn_FormError_Twice : (("FormError" : Str) = "Twice") = False := eq_false (by decide +kernel)
@[simp] theorem xn_FormError_NoForm : (("FormError" : Str) = "NoForm") = False := eq_false (by decide +kernel)
@[simp] theorem xn_NoPlace_FormError : (("NoPlace" : Str) = "FormError") = False := eq_false (by decide +kernel)
@[simp] theorem xn_NoPlace_BadText : (("NoPlace" : Str) = "BadText") = False := eq_false (by decide +kernel)
@[simp] theorem xn_NoPlace_TooLong : (("NoPlace" : Str) = "TooLong") = False := eq_false (by decide +kernel)
@[simp] theorem xn_NoPlace_BadPaper : (("NoPlace" : Str) = "BadPaper") = False := eq_false (by decide +kernel)
@[simp] theorem xn_NoPlace_BadName : (("NoPlace" : Str) = "BadName") = False := eq_false (by decide +kernel)
@[simp] theorem xn_NoPlace_Twice : (("NoPlace" : Str) = "Twice") = False := eq_false (by decide +kernel)
@[simp] theorem xn_NoPlace_NoForm : (("NoPlace" : Str) = "NoForm") = False := eq_false (by decide +kernel)
@[simp] theorem xn_BadText_FormError : (("BadText" : Str) = "FormError") = False := eq_false (by decide +kernel)
@[simp] theorem xn_BadText_NoPlace : (("BadText" : Str) = "NoPlace") = False := eq_false (by decide +kernel)
@[simp] theorem xn_BadText_TooLong : (("BadText" : Str) = "TooLong") = False := eq_false (by decide +kernel)
@[simp] theorem xn_BadText_BadPaper : (("BadText" : Str) = "BadPaper") = False := eq_false (by decide +kernel)
@[simp] theorem xn_BadText_BadName : (("BadText" : Str) = "BadName") = False := eq_false (by decide +kernel)
@[simp] theorem xn_BadText_Twice : (("BadText" : Str) = "Twice") = False := eq_false (by decide +kernel)
@[simp] theorem xn_BadText_NoForm : (("BadText" : Str) = "NoForm") = False := eq_false (by decide +kernel)
@[simp] theorem xn_TooLong_FormError : (("TooLong" : Str) = "FormError") = False := eq_false (by decide +kernel)
@[simp] theorem xn_TooLong_NoPlace : (("TooLong" : Str) = "NoPlace") = False := eq_false (by decide +kernel)
@[simp] theorem xn_TooLong_BadText : (("TooLong" : Str) = "BadText") = False := eq_false (by decide +kernel)
@[simp] theorem xn_TooLong_BadPaper : (("TooLong" : Str) = "BadPaper") = False := eq_false (by decide +kernel)
@[simp] theorem xn_TooLong_BadName : (("TooLong" : Str) = "BadName") = False := eq_false (by decide +kernel)
@[simp] theorem xn_TooLong_Twice : (("TooLong" : Str) = "Twice") = False := eq_false (by decide +kernel)
@[simp] theorem xn_TooLong_NoForm : (("TooLong" : Str) = "NoForm") = False := eq_false (by decide +kernel)
@[simp] theorem xn_BadPaper_FormError : (("BadPaper" : Str) = "FormError") = False := eq_false (by decide +kernel)
@[simp] theorem xn_BadPaper_NoPlace : (("BadPaper" : Str) = "NoPlace") = False := eq_false (by decide +kernel)
@[simp] theorem xn_BadPaper_BadText : (("BadPaper" : Str) = "BadText") = False := eq_false (by decide +kernel)
@[simp] theorem xn_BadPaper_TooLong : (("BadPaper" : Str) = "TooLong") = False := eq_false (by decide +kernel)
@[simp] theorem xn_BadPaper_BadName : (("BadPaper" : Str) = "BadName") = False := eq_false (by decide +kernel)
@[simp] theorem xn_BadPaper_Twice : (("BadPaper" : Str) = "Twice") = False := eq_false (by decide +kernel)
@[simp] theorem xn_BadPaper_NoForm : (("BadPaper" : Str) = "NoForm") = False := eq_false (by decide +kernel)
@[simp] theorem xn_BadName_FormError : (("BadName" : Str) = "FormError") = False := eq_false (by decide +kernel)
@[simp] theorem xn_BadName_NoPlace : (("BadName" : Str) = "NoPlace") = False := eq_false (by decide +kernel)
@[simp] theorem xn_BadName_BadText : (("BadName" : Str) = "BadText") = False := eq_false (by decide +kernel)
@[simp] theorem xn_BadName_TooLong : (("BadName" : Str) = "TooLong") = False := eq_false (by decide +kernel)
@[simp] theorem xn_BadName_BadPaper : (("BadName" : Str) = "BadPaper") = False := eq_false (by decide +kernel)
@[simp] theorem xn_BadName_Twice : (("BadName" : Str) = "Twice") = False := eq_false (by decide +kernel)
@[simp] theorem xn_BadName_NoForm : (("BadName" : Str) = "NoForm") = False := eq_false (by decide +kernel)
@[simp] theorem xn_Twice_FormError : (("Twice" : Str) = "FormError") = False := eq_false (by decide +kernel)
@[simp] theorem xn_Twice_NoPlace : (("Twice" : Str) = "NoPlace") = False := eq_false (by decide +kernel)
@[simp] theorem xn_Twice_BadText : (("Twice" : Str) = "BadText") = False := eq_false (by decide +kernel)
@[simp] theorem xn_Twice_TooLong : (("Twice" : Str) = "TooLong") = False := eq_false (by decide +kernel)
@[simp] theorem xn_Twice_BadPaper : (("Twice" : Str) = "BadPaper") = False := eq_false (by decide +kernel)
@[simp] theorem xn_Twice_BadName : (("Twice" : Str) = "BadName") = False := eq_false (by decide +kernel)
@[simp] theorem xn_Twice_NoForm : (("Twice" : Str) = "NoForm") = False := eq_false (by decide +kernel)
@[simp] theorem xn_NoForm_FormError : (("NoForm" : Str) = "FormError") = False := eq_false (by decide +kernel)
@[simp] theorem xn_NoForm_NoPlace : (("NoForm" : Str) = "NoPlace") = False := eq_false (by decide +kernel)
@[simp] theorem xn_NoForm_BadText : (("NoForm" : Str) = "BadText") = False := eq_false (by decide +kernel)
@[simp] theorem xn_NoForm_TooLong : (("NoForm" : Str) = "TooLong") = False := eq_false (by decide +kernel)
@[simp] theorem xn_NoForm_BadPaper : (("NoForm" : Str) = "BadPaper") = False := eq_false (by decide +kernel)
@[simp] theorem xn_NoForm_BadName : (("NoForm" : Str) = "BadName") = False := eq_false (by decide +kernel)
@[simp] theorem xn_NoForm_Twice : (("NoForm" : Str) = "Twice") = False := eq_false (by decide +kernel)
@[simp] theorem tabF_nil {c : Str} : tabF [] c = none := rfl
@[simp] theorem tabF_cons {x c : Str} {b : Bool} {r : List (Str × Bool)} : tabF ((x, b) :: r) c = if x = c then some b else tabF r c := by
  unfold tabF
  rw [List.find?_cons]
  by_cases e : x = c
  · rw [if_pos e]; simp [e]
  · rw [if_neg e]; simp [e]
@[simp] theorem isX_exn {tb : List (Str × Bool)} {c : Str} {h : Hs} : isXF tb (.exn c) h = (tabF tb c).map fun b => (.bl b, h) := rfl
end DV
namespace DV
open PySem PySem.Spec PyProof.Rows L2
theorem put_is : ∀ (p : List Int) (t e u : Tr), t.at_ p = some e → ∃ w, t.put p u = some w
  | [], t, e, u, h => ⟨u, put_nil _ _⟩
  | k :: p, t, e, u, h => by
    rw [at_cons] at h
    split at h
    · rename_i c
      cases e1 : t.parts[k.toNat]? with
      | none => rw [e1] at h; cases h
      | some v =>
        rw [e1, Option.bind_some] at h
        obtain ⟨x, hx⟩ := put_is p v e u h
        exact ⟨_, by rw [put_cons, if_pos c, e1, Option.bind_some, hx]; rfl⟩
    · cases h
theorem depthL_set {ts : List Tr} {k : Nat} {w : Tr} {n : Nat} (h1 : depthL ts ≤ n) (h2 : w.depth ≤ n) : depthL (ts.set k w) ≤ n := by
  rw [depthL_le] at h1 ⊢
  intro t ht
  rcases List.mem_or_eq_of_mem_set ht with ht | rfl
  · exact h1 t ht
  · exact h2
theorem depth_put : ∀ (p : List Int) (t u w : Tr), t.put p u = some w → w.depth ≤ max t.depth (p.length + u.depth)
  | [], t, u, w, h => by rw [put_nil] at h; cases h; simp; omega
  | k :: p, t, u, w, h => by
    rw [put_cons] at h
    split at h
    · cases e : t.parts[k.toNat]? with
      | none => rw [e] at h; cases h
      | some v =>
        rw [e, Option.bind_some] at h
        cases e2 : v.put p u with
        | none => rw [e2] at h; cases h
        | some x =>
          rw [e2] at h
          cases h
          have ih := depth_put p v u x e2
          cases t with
          | bl b => simp [Tr.parts] at e
          | bk s ps =>
            have dv := depth_mem (List.mem_of_getElem? e)
            simp only [Tr.parts] at dv
            have := depthL_set (k := k.toNat) (w := x) (n := max (depthL ps) (p.length + u.depth)) (Nat.le_max_left _ _) (by omega)
            simp only [Tr.setPart, Tr.depth, List.length_cons]
            omega
    · cases h
theorem knotsL_set : ∀ (ts : List Tr) (k : Nat) (w v : Tr), ts[k]? = some v → knotsL (ts.set k w) + v.knots = knotsL ts + w.knots
  | [], k, w, v, h => by simp at h
  | t :: ts, 0, w, v, h => by simp at h; subst h; rw [List.set_cons_zero, knotsL, knotsL]; omega
  | t :: ts, k + 1, w, v, h => by
    have := knotsL_set ts k w v (by simpa using h)
    rw [List.set_cons_succ, knotsL, knotsL]; omega
theorem knots_put : ∀ (p : List Int) (t u w : Tr), t.put p u = some w → w.knots ≤ t.knots + u.knots
  | [], t, u, w, h => by rw [put_nil] at h; cases h; omega
  | k :: p, t, u, w, h => by
    rw [put_cons] at h
    split at h
    · cases e : t.parts[k.toNat]? with
      | none => rw [e] at h; cases h
      | some v =>
        rw [e, Option.bind_some] at h
        cases e2 : v.put p u with
        | none => rw [e2] at h; cases h
        | some x =>
          rw [e2] at h
          cases h
          have ih := knots_put p v u x e2
          cases t with
          | bl b => simp [Tr.parts] at e
          | bk s ps =>
            have := knotsL_set ps k.toNat x v e
            simp only [Tr.setPart, Tr.knots]
            omega
    · cases h
end DV
namespace DV
open PySem PySem.Spec PyProof.Rows L2
end DV
namespace DV
open PySem PySem.Spec PyProof.Rows L2
mutual
theorem tD_inj : ∀ {t u : Tr}, tD t = tD u → t = u
  | .bl k, .bl j, h => by simp [tD] at h; rw [h]
  | .bl _, .bk _ _, h => by simp [tD] at h
  | .bk _ _, .bl _, h => by simp [tD] at h
  | .bk s ps, .bk s' ps', h => by
    simp [tD] at h
    rw [h.1, tDs_inj h.2]
theorem tDs_inj : ∀ {ts us : List Tr}, tDs ts = tDs us → ts = us
  | [], [], _ => rfl
  | [], _ :: _, h => by simp [tDs] at h
  | _ :: _, [], h => by simp [tDs] at h
  | t :: ts, u :: us, h => by
    simp [tDs] at h
    rw [tD_inj h.1, tDs_inj h.2]
end
/-- what the law's filling is -/
structure FilOk (fs : List (Int × Tr)) : Prop where
  nd : (fs.map (·.1)).Nodup
  len : fs.length ≤ 6
  ok : ∀ p ∈ fs, p.2.good ∧ p.2.knots ≤ 190 ∧ p.2.depth ≤ 28
theorem FilOk.at_ {fs : List (Int × Tr)} (F : FilOk fs) {k : Int} {u : Tr} (e : mAt fs k = some u) : u.good ∧ u.knots ≤ 190 ∧ u.depth ≤ 28 := F.ok _ (mAt_mem e)
end DV
namespace DV
open PySem PySem.Spec PyProof.Rows L2
end DV
namespace DV
open PySem PySem.Spec PyProof.Rows L2
end DV
namespace DV
open PySem PySem.Spec PyProof.Rows L2
end DV
namespace DV
open PySem PySem.Spec PyProof.Rows L2
end DV
namespace DV
open PySem PySem.Spec PyProof.Rows L2
mutual
def Tr.nam : Tr → Prop
  | .bl _ => True
  | .bk s ps => nameB s = true ∧ ps.length ≤ 9 ∧ namL ps
def namL : List Tr → Prop
  | [] => True
  | t :: ts => t.nam ∧ namL ts
end
mutual
theorem nam_good : ∀ {t : Tr}, t.good → t.nam
  | .bl k, _ => trivial
  | .bk s ps, g => ⟨g.1, g.2.1, namL_good g.2.2⟩
theorem namL_good : ∀ {ts : List Tr}, goodL ts → namL ts
  | [], _ => trivial
  | t :: ts, g => ⟨nam_good g.1, namL_good g.2⟩
end
mutual
theorem pyOk_nam : ∀ {t : Tr}, t.nam → pyOk (tD t) = true
  | .bl k, _ => by simp only [tD, pyOk, pyOkL, Bool.and_true]; decide +kernel
  | .bk s ps, g => by
    obtain ⟨g1, g2, g3⟩ := g
    have e : PyData.strOk "block" = true := by decide +kernel
    simp only [tD, pyOk, pyOkL, Bool.and_true, e, strOk_name g1, pyOk_namL g3]
theorem pyOk_namL : ∀ {ts : List Tr}, namL ts → pyOkL (tDs ts) = true
  | [], _ => rfl
  | t :: ts, g => by simp [tDs, pyOkL, pyOk_nam g.1, pyOk_namL g.2]
end
mutual
theorem fill_nam {f : Int → Option Tr} : ∀ t : Tr, t.nam → (∀ k u, f k = some u → u.nam) → (t.fill f).nam
  | .bl k, g, h => by
    rw [Tr.fill]
    cases e : f k with
    | none => exact g
    | some u => exact h k u e
  | .bk s ps, g, h => by
    rw [Tr.fill]
    exact ⟨g.1, by rw [fillL_len]; exact g.2.1, fillL_nam ps g.2.2 h⟩
theorem fillL_nam {f : Int → Option Tr} : ∀ ts : List Tr, namL ts → (∀ k u, f k = some u → u.nam) → namL (fillL f ts)
  | [], _, _ => trivial
  | t :: ts, g, h => by
    rw [fillL]
    exact ⟨fill_nam t g.1 h, fillL_nam ts g.2 h⟩
end
theorem blank_nam {u : Tr} (h : u.isBlank = true) : u.nam := by
  cases u with
  | bl k => trivial
  | bk _ _ => cases h
theorem eq_tree {h : Hs} {t u : Tr} (g : t.nam) (g' : u.nam) (d : t.depth ≤ 95) [Decidable (t = u)] : eqF (tD t) (tD u) h = some (.bl (decide (t = u)), h) := by
  classical
  have := dep_tD t
  rw [eq_of (pyOk_nam g) (pyOk_nam g') (by omega)]
  congr 3
  by_cases c : t = u
  · rw [decide_eq_true c, decide_eq_true (congrArg tD c)]
  · rw [decide_eq_false c, decide_eq_false fun e => c (tD_inj e)]
noncomputable instance : DecidableEq Tr := fun _ _ => Classical.propDecidable _
theorem alike_ok (n : Nat) (h : Hs) (t u : Tr) (gt : t.nam) (gu : u.nam) (dt : t.depth ≤ 95 ∧ t.depth ≤ n) (du : u.depth ≤ n) (kt : t.knots ≤ 1000000) (ku : u.knots ≤ 1000000) : F_alike (n + 2) [tD t, tD u] h = .ok (.bl (decide (t.plain = u.plain))) h := by
  rw [S_alike]
  refine R.wp_eq.mp ?_
  have p1 := fun h => plain_ok n h t dt.2 kt
  have p2 := fun h => plain_ok n h u du ku
  have n1 : t.plain.nam := fill_nam t gt fun k v e => blank_nam (numF_blank e)
  have n2 : u.plain.nam := fill_nam u gu fun k v e => blank_nam (numF_blank e)
  have d1 := (plain_knots t).2
  have e := fun h => eq_tree (h := h) n1 n2 (by omega)
  simp [wp_pure, wp_run, m_alike, startD, wp_v, p1, p2, e, noloc]
def renF (g : Nat → Int) (i : Nat) : List Int → List (Int × Tr)
  | [] => []
  | b :: bs => (b, .bl (g i)) :: renF g (i + 1) bs
theorem renF_at (g : Nat → Int) (k : Int) : ∀ (bs : List Int) (i : Nat), mAt (renF g i bs) k = if k ∈ bs then some (.bl (g (i + bs.idxOf k))) else none
  | [], i => rfl
  | b :: bs, i => by
    rw [renF, mAt_cons, renF_at g k bs]
    by_cases c : b = k
    · subst c; simp
    · have c2 : ¬ k = b := fun e => c e.symm
      have c3 : (b == k) = false := by simpa using c
      by_cases m : k ∈ bs
      · rw [if_neg c, if_pos m, if_pos (List.mem_cons_of_mem _ m)]
        congr 3
        rw [List.idxOf_cons, c3]
        simp only [cond_false]
        omega
      · rw [if_neg c, if_neg m, if_neg (by simp [c2, m])]
theorem numF_ren : ∀ (bs : List Int) (i : Nat), numF i bs = renF (fun j => (j : Int) + 1) i bs
  | [], _ => rfl
  | b :: bs, i => by rw [numF, renF, numF_ren bs]
mutual
theorem fill_plT {f : Int → Option Tr} (b : ∀ k u, f k = some u → u.isBlank = true) : ∀ t : Tr, (t.fill f).places.map (·.1) = t.places.map (·.1)
  | .bl k => by
    rw [Tr.fill]
    cases e : f k with
    | none => rfl
    | some u =>
      have := b k u e
      cases u with
      | bl j => simp [Tr.places]
      | bk _ _ => cases this
  | .bk s ps => by
    rw [Tr.fill, Tr.places, Tr.places, List.map_cons, List.map_cons, fillL_plT b ps]
theorem fillL_plT {f : Int → Option Tr} (b : ∀ k u, f k = some u → u.isBlank = true) : ∀ (ts : List Tr) (j : Nat), (placesL j (fillL f ts)).map (·.1) = (placesL j ts).map (·.1)
  | [], j => rfl
  | t :: ts, j => by
    rw [fillL, placesL, placesL, List.map_append, List.map_append, fillL_plT b ts, List.map_map, List.map_map]
    congr 1
    have e : ((fun x : List Nat × Tr => x.1) ∘ fun p : List Nat × Tr => (j :: p.1, p.2)) = (fun p : List Nat => j :: p) ∘ fun x => x.1 := rfl
    rw [e, ← List.map_map, ← List.map_map, fill_plT b t]
end
theorem st_for {N : Sl → Hs → Prop} {Q : D → Hs → Prop} {X : QX} {ds : Sl} {h : Hs} {I : IM} {T : GM} {B S : SM} (its : List D) (gd : Hs → Prop) (h1 : Hs) (J : Nat → Sl → Hs → Prop) (e : (I ds h).wp (fun p h' => p = (its, gd) ∧ h' = h1) xF) (start : J 0 ds h1) (guard : ∀ i ds h, J i ds h → gd h)
    (turn : ∀ i d ds h, its[i]? = some d → J i ds h → (T d ds h).wp (fun ds h => (B ds h).wp (J (i + 1)) Q X) (fun _ _ => False) xF) (done : ∀ ds h, J its.length ds h → (S ds h).wp N Q X) : (seqM (forM I T B) S ds h).wp N Q X := by
  rw [ws_seq, ws_for, R.wp_eq.mp e]
  exact ws_loop its J start guard turn done
theorem plT_of {a b : List (List Nat × Tr)} (h : a.map (·.1) = b.map (·.1)) : a.map plT = b.map plT := by
  have e : plT = (fun p : List Nat => D.tup (plInts p)) ∘ fun x : List Nat × Tr => x.1 := rfl
  rw [e, ← List.map_map, ← List.map_map, h]
theorem pyOk_plT : ∀ ps : List (List Nat × Tr), pyOkL (ps.map plT) = true
  | [] => rfl
  | p :: ps => by
    have := pyOk_plT ps
    simp only [List.map_cons, pyOkL, this, Bool.and_true]
    unfold plT pyOk
    exact pyOk_pl p.1
end DV
namespace DV
open PySem PySem.Spec PyProof.Rows L2
end DV
namespace DV
open PySem PySem.Spec PyProof.Rows L2
mutual
def Tr.sok : Tr → Prop
  | .bl _ => True
  | .bk s ps => PyData.strOk s = true ∧ sokL ps
def sokL : List Tr → Prop
  | [] => True
  | t :: ts => t.sok ∧ sokL ts
end
mutual
theorem sok_nam : ∀ {t : Tr}, t.nam → t.sok
  | .bl k, _ => trivial
  | .bk s ps, g => ⟨strOk_name g.1, sokL_nam g.2.2⟩
theorem sokL_nam : ∀ {ts : List Tr}, namL ts → sokL ts
  | [], _ => trivial
  | t :: ts, g => ⟨sok_nam g.1, sokL_nam g.2⟩
end
end DV
namespace DV
open PySem PySem.Spec PyProof.Rows L2
end DV
namespace DV
open PySem PySem.Spec PyProof.Rows L2
structure Okt (s : Str) (n : Nat) : Prop where
  len : s.length ≤ n
  sg : ∀ c ∈ s.cps.toList, c < 0x110000
theorem Okt.strOk {s : Str} {n : Nat} (h : Okt s n) : PyData.strOk s = true := by
  unfold PyData.strOk
  rw [Array.all_eq_true]
  intro i hi
  exact decide_eq_true (h.sg _ (by simp))
theorem Okt.app {a b : Str} {n m : Nat} (h : Okt a n) (g : Okt b m) : Okt (a ++ b) (n + m) := by
  refine ⟨by rw [app_len]; have := h.len; have := g.len; omega, fun c hc => ?_⟩
  have e : (a ++ b).cps.toList = a.cps.toList ++ b.cps.toList := Array.toList_append
  rw [e] at hc
  rcases List.mem_append.mp hc with hc | hc
  · exact h.sg c hc
  · exact g.sg c hc
theorem Okt.cut {a : Str} {n : Nat} (lo hi : Option Int) (h : Okt a n) : Okt (cutS a lo hi) n := by
  refine ⟨Nat.le_trans (cut_len a lo hi) h.len, fun c hc => h.sg c ?_⟩
  have e : (cutS a lo hi).cps.toList = cutL a.cps.toList lo hi := by
    unfold cutL
    simp [cutS]
    rfl
  rw [e] at hc
  exact List.mem_of_mem_drop (List.mem_of_mem_take hc)
theorem Okt.rep {a : Str} {n : Nat} (k : Nat) (h : Okt a n) : Okt (repS a k) (n * k) := by
  refine ⟨by rw [rep_size]; exact Nat.mul_le_mul_right _ h.len, fun c hc => h.sg c ?_⟩
  have e : (repS a k).cps.toList = (List.replicate k a.cps.toList).flatten := by simp [repS]
  rw [e] at hc
  obtain ⟨l, hl, hc⟩ := List.mem_flatten.mp hc
  rw [List.eq_of_mem_replicate hl] at hc
  exact hc
theorem Okt.mono {a : Str} {n m : Nat} (h : Okt a n) (l : n ≤ m) : Okt a m := ⟨Nat.le_trans h.len l, h.sg⟩
end DV
namespace DV
open PySem PySem.Spec PyProof.Rows L2
end DV
namespace DV
open PySem PySem.Spec PyProof.Rows L2
end DV
namespace DV
open PySem PySem.Spec PyProof.Rows L2
end DV
namespace DV
open PySem PySem.Spec PyProof.Rows L2
end DV
namespace DV
open PySem PySem.Spec PyProof.Rows L2
end DV
namespace DV
open PySem PySem.Spec PyProof.Rows L2
end DV
namespace DV
open PySem PySem.Spec PyProof.Rows L2
end DV
namespace DV
open PySem PySem.Spec PyProof.Rows L2
/-- the tree with all blanks one -/
def Tr.skel (t : Tr) : Tr := t.fill fun _ => some (.bl 0)
mutual
theorem tr_ext : ∀ {a b : Tr}, a.skel = b.skel → a.allB = b.allB → a = b
  | .bl x, .bl y, _, h => by simp [Tr.allB] at h; rw [h]
  | .bl x, .bk s ps, h, _ => by simp [Tr.skel, Tr.fill] at h
  | .bk s ps, .bl x, h, _ => by simp [Tr.skel, Tr.fill] at h
  | .bk s ps, .bk s' qs, h, h2 => by
    simp only [Tr.skel, Tr.fill] at h
    injection h with h1 h
    simp only [Tr.allB] at h2
    rw [h1, tr_extL (ts := ps) (us := qs) h (by rw [← List.append_nil (allBL ps), h2, List.append_nil])]
theorem tr_extL : ∀ {ts us : List Tr}, fillL (fun _ => some (.bl 0)) ts = fillL (fun _ => some (.bl 0)) us → allBL ts = allBL us → ts = us
  | [], [], _, _ => rfl
  | [], _ :: _, h, _ => by simp [fillL] at h
  | _ :: _, [], h, _ => by simp [fillL] at h
  | t :: ts, u :: us, h, h2 => by
    simp only [fillL] at h
    injection h with h1 h
    rw [allBL, allBL] at h2
    have l : t.allB.length = u.allB.length := by
      have e1 := fill_allB (f := fun _ => some (.bl 0)) (g := fun _ => 0) t (fun _ _ => rfl)
      have e2 := fill_allB (f := fun _ => some (.bl 0)) (g := fun _ => 0) u (fun _ _ => rfl)
      rw [h1, e2] at e1
      have := congrArg List.length e1
      simpa using this.symm
    obtain ⟨a1, a2⟩ := List.append_inj h2 l
    rw [tr_ext h1 a1, tr_extL h a2]
end
/-- the kind of a knot -/
inductive Lab where
  | bl
  | bk (s : Str) (n : Nat)
def Tr.lab : Tr → Lab
  | .bl _ => .bl
  | .bk s ps => .bk s ps.length
def labs (l : List (List Nat × Tr)) : List Lab := l.map fun q => q.2.lab
theorem labs_shift (j : Nat) (l : List (List Nat × Tr)) : labs (l.map fun p => (j :: p.1, p.2)) = labs l := by unfold labs; rw [List.map_map]; rfl
mutual
/-- the kinds in order make the tree -/
theorem labs_skel : ∀ (a b : Tr) (X Y : List Lab), labs a.places ++ X = labs b.places ++ Y → a.skel = b.skel ∧ X = Y
  | .bl x, .bl y, X, Y, h => by
    simp [labs, Tr.places, Tr.lab] at h
    exact ⟨rfl, h⟩
  | .bl x, .bk s ps, X, Y, h => by simp [labs, Tr.places, Tr.lab] at h
  | .bk s ps, .bl x, X, Y, h => by simp [labs, Tr.places, Tr.lab] at h
  | .bk s ps, .bk s' qs, X, Y, h => by
    rw [Tr.places, Tr.places] at h
    unfold labs at h
    rw [List.map_cons, List.map_cons, List.cons_append, List.cons_append] at h
    injection h with h1 h
    simp only [Tr.lab] at h1
    injection h1 with h1 h3
    obtain ⟨r1, r2⟩ := labs_skelL ps qs 0 0 X Y h3 h
    exact ⟨by unfold Tr.skel; rw [Tr.fill, Tr.fill, h1, r1], r2⟩
theorem labs_skelL : ∀ (ts us : List Tr) (j k : Nat) (X Y : List Lab), ts.length = us.length → labs (placesL j ts) ++ X = labs (placesL k us) ++ Y → fillL (fun _ => some (.bl 0)) ts = fillL (fun _ => some (.bl 0)) us ∧ X = Y
  | [], [], j, k, X, Y, _, h => by simp [labs, placesL] at h; exact ⟨rfl, h⟩
  | [], _ :: _, _, _, _, _, h, _ => by cases h
  | _ :: _, [], _, _, _, _, h, _ => by cases h
  | t :: ts, u :: us, j, k, X, Y, hl, h => by
    rw [placesL, placesL] at h
    have e : ∀ (l m : List (List Nat × Tr)), labs (l ++ m) = labs l ++ labs m := fun l m => List.map_append
    rw [e, e, labs_shift, labs_shift, List.append_assoc, List.append_assoc] at h
    obtain ⟨h1, h2⟩ := labs_skel t u _ _ h
    obtain ⟨h3, h4⟩ := labs_skelL ts us (j + 1) (k + 1) X Y (by simpa using hl) h2
    have h1 : t.fill (fun _ => some (.bl 0)) = u.fill (fun _ => some (.bl 0)) := h1
    exact ⟨by rw [fillL, fillL, h1, h3], h4⟩
end
theorem labs_skel' {a b : Tr} (h : labs a.places = labs b.places) : a.skel = b.skel := (labs_skel a b [] [] (by rw [h])).1
mutual
theorem fill_labs {f : Int → Option Tr} (b : ∀ k u, f k = some u → u.isBlank = true) : ∀ t : Tr, labs (t.fill f).places = labs t.places
  | .bl k => by
    rw [Tr.fill]
    cases e : f k with
    | none => rfl
    | some u =>
      have := b k u e
      cases u with
      | bl j => simp [Tr.places, labs, Tr.lab]
      | bk _ _ => cases this
  | .bk s ps => by
    rw [Tr.fill, Tr.places, Tr.places]
    unfold labs
    rw [List.map_cons, List.map_cons]
    have := fillL_labs b ps 0
    unfold labs at this
    rw [this]
    simp [Tr.lab]
theorem fillL_labs {f : Int → Option Tr} (b : ∀ k u, f k = some u → u.isBlank = true) : ∀ (ts : List Tr) (j : Nat), labs (placesL j (fillL f ts)) = labs (placesL j ts)
  | [], j => rfl
  | t :: ts, j => by
    have e : ∀ (l m : List (List Nat × Tr)), labs (l ++ m) = labs l ++ labs m := fun l m => List.map_append
    rw [fillL, placesL, placesL, e, e, labs_shift, labs_shift, fill_labs b t, fillL_labs b ts]
end
theorem skel_fill {f : Int → Option Tr} (b : ∀ k u, f k = some u → u.isBlank = true) (t : Tr) : (t.fill f).skel = t.skel := labs_skel' (fill_labs b t)
/-- the order of first standing, for each number -/
def pat (A : List Int) : List Nat := A.map fun x => (addNew [] A).idxOf x
theorem plain_allB (t : Tr) : t.plain.allB = (pat t.allB).map fun (j : Nat) => (j : Int) + 1 := by
  unfold Tr.plain
  rw [fill_allB (g := fun k => (t.blanks.idxOf k : Int) + 1) t fun k hk => ?_]
  · unfold pat
    rw [← blanks_all, List.map_map]; rfl
  · rw [numF_ren, renF_at, if_pos (mem_blanks.mpr hk)]
    simp
theorem plain_iff (a b : Tr) : a.plain = b.plain ↔ a.skel = b.skel ∧ pat a.allB = pat b.allB := by
  have sa : a.plain.skel = a.skel := skel_fill (fun k u e => numF_blank e) a
  have sb : b.plain.skel = b.skel := skel_fill (fun k u e => numF_blank e) b
  constructor
  · intro h
    refine ⟨by rw [← sa, ← sb, h], ?_⟩
    have := plain_allB a
    rw [h, plain_allB] at this
    have inj : ∀ (l m : List Nat), l.map (fun (j : Nat) => (j : Int) + 1) = m.map (fun (j : Nat) => (j : Int) + 1) → l = m := by
      intro l
      induction l with
      | nil => intro m e; cases m with
        | nil => rfl
        | cons y m => simp at e
      | cons x l ih => intro m e; cases m with
        | nil => simp at e
        | cons y m =>
          simp only [List.map_cons, List.cons.injEq] at e
          rw [ih m e.2]
          congr 1; omega
    exact (inj _ _ this).symm
  · rintro ⟨h1, h2⟩
    exact tr_ext (by rw [sa, sb, h1]) (by rw [plain_allB, plain_allB, h2])
/-- two rows of numbers that go together -/
def Together (A B : List Int) : Prop := ∀ i j : Nat, i < A.length → j < A.length → (A[i]? = A[j]? ↔ B[i]? = B[j]?)
theorem idx_inj {l : List Int} {a b : Int} (ha : a ∈ l) (hb : b ∈ l) (e : l.idxOf a = l.idxOf b) : a = b := by
  have h1 := List.idxOf_lt_length_of_mem ha
  have h2 := List.idxOf_lt_length_of_mem hb
  have e1 := List.getElem_idxOf h1
  have e2 := List.getElem_idxOf h2
  rw [← e1, ← e2]
  congr 1
theorem pat_iff {A B : List Int} (hl : A.length = B.length) : pat A = pat B ↔ Together A B := by
  have mem : ∀ (L : List Int) (x : Int), x ∈ L → x ∈ addNew [] L := fun L x h => by rw [mem_addNew]; exact .inr h
  constructor
  · intro h i j hi hj
    have g : ∀ (k : Nat) (hk : k < A.length), (addNew [] A).idxOf A[k] = (addNew [] B).idxOf (B[k]'(by omega)) := fun k hk => by
      have := congrArg (fun l : List Nat => l[k]?) h
      simp only [pat, List.getElem?_map, List.getElem?_eq_getElem hk, List.getElem?_eq_getElem (show k < B.length by omega), Option.map_some, Option.some.injEq] at this
      exact this
    have gi := g i hi
    have gj := g j hj
    rw [List.getElem?_eq_getElem hi, List.getElem?_eq_getElem hj, List.getElem?_eq_getElem (show i < B.length by omega), List.getElem?_eq_getElem (show j < B.length by omega)]
    constructor
    · intro e
      rw [Option.some.inj e] at gi
      rw [idx_inj (mem B _ (List.getElem_mem _)) (mem B _ (List.getElem_mem _)) (gi.symm.trans gj)]
    · intro e
      rw [Option.some.inj e] at gi
      rw [idx_inj (mem A _ (List.getElem_mem _)) (mem A _ (List.getElem_mem _)) (gi.trans gj.symm)]
  · intro h
    obtain ⟨g, hg⟩ : ∃ g : Int → Int, g = fun x => (B[A.idxOf x]?).getD 0 := ⟨_, rfl⟩
    have gA : ∀ (k : Nat) (hk : k < A.length), g A[k] = B[k]'(by omega) := fun k hk => by
      have hm := List.idxOf_lt_length_of_mem (List.getElem_mem hk)
      have e1 := List.getElem_idxOf hm
      have := (h (A.idxOf A[k]) k hm hk).mp (by rw [List.getElem?_eq_getElem hm, List.getElem?_eq_getElem hk, e1])
      rw [hg]
      simp only
      rw [this, List.getElem?_eq_getElem (show k < B.length by omega)]; rfl
    have eB : B = A.map g := by
      refine List.ext_getElem (by rw [List.length_map, hl]) fun k h1 h2 => ?_
      rw [List.getElem_map]
      exact (gA k (by rw [hl]; exact h1)).symm
    have inj : ∀ a ∈ A, ∀ b ∈ A, g a = g b → a = b := fun a ha b hb e => by
      obtain ⟨i, hi, rfl⟩ := List.mem_iff_getElem.mp ha
      obtain ⟨j, hj, rfl⟩ := List.mem_iff_getElem.mp hb
      rw [gA i hi, gA j hj] at e
      have := (h i j hi hj).mpr (by rw [List.getElem?_eq_getElem (show i < B.length by omega), List.getElem?_eq_getElem (show j < B.length by omega), e])
      rw [List.getElem?_eq_getElem hi, List.getElem?_eq_getElem hj] at this
      exact Option.some.inj this
    have am := addNew_map (g := g) A [] (fun a ha b hb => inj a (by simpa using ha) b (by simpa using hb))
    unfold pat
    rw [eB]
    have am2 : addNew [] (A.map g) = (addNew [] A).map g := by simpa using am
    rw [am2, List.map_map]
    refine List.map_congr_left fun x hx => ?_
    simp only [Function.comp_apply]
    rw [idxOf_map _ _ (mem A x hx) fun a ha => inj a (by rw [mem_addNew] at ha; simpa using ha) x hx]
end DV
namespace DV
open PySem PySem.Spec PyProof.Rows L2
def nz (p : List Nat) : List Int := p.map fun (k : Nat) => (k : Int)
end DV
namespace DV
open PySem PySem.Spec PyProof.Rows L2
mutual
theorem sok_place : ∀ (t : Tr), t.sok → ∀ q ∈ t.places, q.2.sok
  | .bl k, g, q, h => by
    rw [Tr.places] at h
    cases List.mem_singleton.mp h
    exact g
  | .bk s ps, g, q, h => by
    rw [Tr.places] at h
    rcases List.mem_cons.mp h with rfl | h
    · exact g
    · exact sok_placeL ps 0 g.2 q h
theorem sok_placeL : ∀ (ts : List Tr) (k : Nat), sokL ts → ∀ q ∈ placesL k ts, q.2.sok
  | [], k, g, q, h => by rw [placesL] at h; exact nomatch h
  | t :: ts, k, g, q, h => by
    rw [placesL] at h
    rcases List.mem_append.mp h with h | h
    · obtain ⟨r, hr, rfl⟩ := List.mem_map.mp h
      exact sok_place t g.1 r hr
    · exact sok_placeL ts (k + 1) g.2 q h
end
end DV
namespace DV
open PySem PySem.Spec PyProof.Rows L2
theorem set_cut {α : Type} (xs : List α) (k : Nat) (v : α) (h : k < xs.length) : xs.take k ++ v :: xs.drop (k + 1) = xs.set k v := by
  rw [List.set_eq_take_append_cons_drop, if_pos h]
theorem set_cut3 (ps : List Tr) (k : Nat) (v : Tr) (h : k < ps.length) : (tDs ps).take k ++ (tD v :: (tDs ps).drop (k + 1)) = tDs (ps.set k v) := by
  rw [set_cut _ _ _ (by rw [tDs_len]; exact h), tDs_set]
end DV
namespace DV
open PySem PySem.Spec PyProof.Rows L2
abbrev PL := List Nat × Tr
def Cons (L : List (Int × Int)) : Prop := ∀ p ∈ L, ∀ q ∈ L, (p.1 = q.1 ↔ p.2 = q.2)
def prs : List (PL × PL) → List (Int × Int)
  | [] => []
  | ((_, .bl x), (_, .bl y)) :: r => (x, y) :: prs r
  | _ :: r => prs r
noncomputable def goS : List (PL × PL) → List (Int × Int) → Bool
  | [], _ => true
  | ((_, .bl x), (_, .bl y)) :: r, T => open Classical in if ∃ p ∈ T, p.1 = x ∨ p.2 = y then (if (x, y) ∈ T then goS r T else false) else goS r (T ++ [(x, y)])
  | ((_, .bk s ps), (_, .bk s' qs)) :: r, T => open Classical in if s = s' ∧ ps.length = qs.length then goS r T else false
  | ((_, .bl _), (_, .bk _ _)) :: _, _ => false
  | ((_, .bk _ _), (_, .bl _)) :: _, _ => false
def labEq (l : List (PL × PL)) : Prop := ∀ q ∈ l, q.1.2.lab = q.2.2.lab
theorem goS_iff : ∀ (l : List (PL × PL)) (T : List (Int × Int)), Cons T → (goS l T = true ↔ labEq l ∧ Cons (T ++ prs l))
  | [], T, hT => by simp [goS, labEq, prs, hT]
  | ((a, .bl x), (b, .bl y)) :: r, T, hT => by
    rw [goS, prs]
    have lb : labEq (((a, .bl x), (b, .bl y)) :: r) ↔ labEq r := by simp [labEq, Tr.lab]
    rw [lb]
    by_cases c : ∃ p ∈ T, p.1 = x ∨ p.2 = y
    · rw [if_pos c]
      by_cases m : (x, y) ∈ T
      · rw [if_pos m, goS_iff r T hT]
        have e : ∀ p, p ∈ T ++ (x, y) :: prs r ↔ p ∈ T ++ prs r := fun p => by
          simp only [List.mem_append, List.mem_cons]
          constructor
          · rintro (h | rfl | h)
            · exact .inl h
            · exact .inl m
            · exact .inr h
          · rintro (h | h)
            · exact .inl h
            · exact .inr (.inr h)
        have : Cons (T ++ (x, y) :: prs r) ↔ Cons (T ++ prs r) := by
          unfold Cons
          constructor
          · intro h p hp q hq; exact h p ((e p).mpr hp) q ((e q).mpr hq)
          · intro h p hp q hq; exact h p ((e p).mp hp) q ((e q).mp hq)
        rw [this]
      · rw [if_neg m]
        refine ⟨fun z => (nomatch z), fun ⟨_, h⟩ => ?_⟩
        obtain ⟨p, hp, hx⟩ := c
        have := h p (List.mem_append_left _ hp) (x, y) (by simp)
        simp only at this
        exfalso
        apply m
        rcases hx with hx | hx
        · have h2 := this.mp hx
          rw [← hx, ← h2]; exact hp
        · have h2 := this.mpr hx
          rw [← hx, ← h2]; exact hp
    · rw [if_neg c]
      have c' : ∀ p ∈ T, p.1 ≠ x ∧ p.2 ≠ y := fun p hp => ⟨fun e => c ⟨p, hp, .inl e⟩, fun e => c ⟨p, hp, .inr e⟩⟩
      have hT2 : Cons (T ++ [(x, y)]) := by
        intro p hp q hq
        rcases List.mem_append.mp hp with hp | hp <;> rcases List.mem_append.mp hq with hq | hq
        · exact hT p hp q hq
        · have : q = (x, y) := by simpa using hq
          rw [this]
          obtain ⟨h1, h2⟩ := c' p hp
          exact ⟨fun e => absurd e h1, fun e => absurd e h2⟩
        · have : p = (x, y) := by simpa using hp
          rw [this]
          obtain ⟨h1, h2⟩ := c' q hq
          exact ⟨fun e => absurd e.symm h1, fun e => absurd e.symm h2⟩
        · have e1 : p = (x, y) := by simpa using hp
          have e2 : q = (x, y) := by simpa using hq
          rw [e1, e2]; simp
      rw [goS_iff r _ hT2, List.append_assoc]; rfl
  | ((a, .bk s ps), (b, .bk s' qs)) :: r, T, hT => by
    rw [goS, prs]
    have lb : labEq (((a, .bk s ps), (b, .bk s' qs)) :: r) ↔ (s = s' ∧ ps.length = qs.length) ∧ labEq r := by simp [labEq, Tr.lab]
    rw [lb]
    by_cases c : s = s' ∧ ps.length = qs.length
    · rw [if_pos c, goS_iff r T hT]; simp [c]
    · rw [if_neg c]
      exact ⟨fun z => (nomatch z), fun h => absurd h.1.1 c⟩
    all_goals (intros; simp_all)
  | ((a, .bl x), (b, .bk s' qs)) :: r, T, hT => by
    rw [goS]
    exact ⟨fun z => (nomatch z), fun h => by have := h.1 _ List.mem_cons_self; simp [Tr.lab] at this⟩
  | ((a, .bk s ps), (b, .bl y)) :: r, T, hT => by
    rw [goS]
    exact ⟨fun z => (nomatch z), fun h => by have := h.1 _ List.mem_cons_self; simp [Tr.lab] at this⟩
theorem zip_lab : ∀ {a b : List PL}, a.length = b.length → (labEq (a.zip b) ↔ labs a = labs b)
  | [], [], _ => by simp [labEq, labs]
  | [], _ :: _, h => by cases h
  | _ :: _, [], h => by cases h
  | p :: a, q :: b, h => by
    have ih := zip_lab (a := a) (b := b) (by simpa using h)
    have : labEq ((p :: a).zip (q :: b)) ↔ p.2.lab = q.2.lab ∧ labEq (a.zip b) := by simp [labEq]
    rw [this, ih]
    simp [labs]
theorem zip_prs : ∀ {a b : List PL}, labs a = labs b → prs (a.zip b) = (a.filterMap blankOf).zip (b.filterMap blankOf)
  | [], [], _ => rfl
  | [], _ :: _, h => by simp [labs] at h
  | _ :: _, [], h => by simp [labs] at h
  | (p, .bl x) :: a, (q, .bl y) :: b, h => by
    have ih := zip_prs (a := a) (b := b) (by simp [labs, Tr.lab] at h ⊢; exact h)
    simp [prs, blankOf, ih]
  | (p, .bk s ps) :: a, (q, .bk s' qs) :: b, h => by
    have ih := zip_prs (a := a) (b := b) (by simp [labs, Tr.lab] at h ⊢; exact h.2)
    have n1 : blankOf (p, .bk s ps) = none := rfl
    have n2 : blankOf (q, .bk s' qs) = none := rfl
    rw [List.filterMap_cons_none n1, List.filterMap_cons_none n2, ← ih]
    rfl
  | (p, .bl x) :: a, (q, .bk s' qs) :: b, h => by simp [labs, Tr.lab] at h
  | (p, .bk s ps) :: a, (q, .bl y) :: b, h => by simp [labs, Tr.lab] at h
theorem blank_len : ∀ {a b : List PL}, labs a = labs b → (a.filterMap blankOf).length = (b.filterMap blankOf).length
  | [], [], _ => rfl
  | [], _ :: _, h => by simp [labs] at h
  | _ :: _, [], h => by simp [labs] at h
  | (p, .bl x) :: a, (q, .bl y) :: b, h => by
    have ih := blank_len (a := a) (b := b) (by simp [labs, Tr.lab] at h ⊢; exact h)
    simp [blankOf, ih]
  | (p, .bk s ps) :: a, (q, .bk s' qs) :: b, h => by
    have ih := blank_len (a := a) (b := b) (by simp [labs, Tr.lab] at h ⊢; exact h.2)
    have n1 : blankOf (p, .bk s ps) = none := rfl
    have n2 : blankOf (q, .bk s' qs) = none := rfl
    rw [List.filterMap_cons_none n1, List.filterMap_cons_none n2, ih]
  | (p, .bl x) :: a, (q, .bk s' qs) :: b, h => by simp [labs, Tr.lab] at h
  | (p, .bk s ps) :: a, (q, .bl y) :: b, h => by simp [labs, Tr.lab] at h
theorem cons_together {A B : List Int} (hl : A.length = B.length) : Cons (A.zip B) ↔ Together A B := by
  constructor
  · intro h i j hi hj
    have e : ∀ (k : Nat) (hk : k < A.length), (A[k], B[k]'(by omega)) ∈ A.zip B := fun k hk => by
      refine List.mem_of_getElem? (i := k) ?_
      rw [List.getElem?_zip_eq_some]
      exact ⟨List.getElem?_eq_getElem hk, List.getElem?_eq_getElem (by omega)⟩
    have := h _ (e i hi) _ (e j hj)
    simp only at this
    rw [List.getElem?_eq_getElem hi, List.getElem?_eq_getElem hj, List.getElem?_eq_getElem (show i < B.length by omega), List.getElem?_eq_getElem (show j < B.length by omega), Option.some.injEq, Option.some.injEq]
    exact this
  · intro h p hp q hq
    obtain ⟨i, hi⟩ := List.mem_iff_getElem?.mp hp
    obtain ⟨j, hj⟩ := List.mem_iff_getElem?.mp hq
    rw [List.getElem?_zip_eq_some] at hi hj
    have := h i j (List.getElem?_eq_some_iff.mp hi.1).1 (List.getElem?_eq_some_iff.mp hj.1).1
    rw [hi.1, hi.2, hj.1, hj.2, Option.some.injEq, Option.some.injEq] at this
    exact this
/-- all together -/
theorem goS_plain (a b : Tr) (hk : a.knots = b.knots) : goS (a.places.zip b.places) [] = true ↔ a.plain = b.plain := by
  have hl : a.places.length = b.places.length := by rw [places_len, places_len, hk]
  rw [goS_iff _ _ (fun p hp => by cases hp), zip_lab hl, List.nil_append, plain_iff]
  constructor
  · rintro ⟨h1, h2⟩
    refine ⟨labs_skel' h1, ?_⟩
    rw [zip_prs h1, places_blanks, places_blanks] at h2
    have l2 := blank_len h1
    rw [places_blanks, places_blanks] at l2
    exact (pat_iff l2).mpr ((cons_together l2).mp h2)
  · rintro ⟨h1, h2⟩
    have e1 := fill_labs (f := fun _ => some (.bl 0)) (fun k u e => by cases e; rfl) a
    have e2 := fill_labs (f := fun _ => some (.bl 0)) (fun k u e => by cases e; rfl) b
    have h1' : a.fill (fun _ => some (.bl 0)) = b.fill (fun _ => some (.bl 0)) := h1
    rw [h1', e2] at e1
    refine ⟨e1.symm, ?_⟩
    rw [zip_prs e1.symm, places_blanks, places_blanks]
    have l2 := blank_len e1.symm
    rw [places_blanks, places_blanks] at l2
    exact (cons_together l2).mpr ((pat_iff l2).mp h2)
theorem plain_pl {a b : Tr} (h : a.plain = b.plain) : a.places.map (·.1) = b.places.map (·.1) := by
  have h1 := ((plain_iff a b).mp h).1
  have e1 := fill_plT (f := fun _ => some (.bl 0)) (fun k u e => by cases e; rfl) a
  have e2 := fill_plT (f := fun _ => some (.bl 0)) (fun k u e => by cases e; rfl) b
  have h1' : a.fill (fun _ => some (.bl 0)) = b.fill (fun _ => some (.bl 0)) := h1
  rw [← e1, ← e2, h1']
end DV
namespace DV
open PySem PySem.Spec PyProof.Rows L2
theorem put_law_ok : ∀ (p : List Nat) (n : Nat) (h : Hs) (t u w : Tr), t.knots ≤ 1000000 → p.length + 1 ≤ n → t.put (nz p) u = some w → F__law_put n [tD t, .tup (plInts p), tD u] h = .ok (tD w) h
  | [], n, h, t, u, w, hk, hp, e => by
    obtain ⟨n, rfl⟩ : ∃ q, n = q + 1 := ⟨n - 1, by omega⟩
    have : nz [] = [] := rfl
    rw [this, put_nil] at e
    cases e
    rw [S__law_put]
    refine R.wp_eq.mp ?_
    have ep := eq_pl (h := h) [] []
    have nu := noloc_tD u
    simp [plInts] at ep
    simp [wp_pure, wp_run, m__law_put, startD, wp_v, plInts, ep, nu]
  | k :: p, n, h, t, u, w, hk, hp, e => by
    obtain ⟨n, rfl⟩ : ∃ q, n = q + 1 := ⟨n - 1, by omega⟩
    have ec : nz (k :: p) = (k : Int) :: nz p := rfl
    rw [ec, put_cons] at e
    split at e
    · rename_i c
      cases e1 : t.parts[(k : Int).toNat]? with
      | none => rw [e1] at e; cases e
      | some v =>
        rw [e1, Option.bind_some] at e
        cases e2 : v.put (nz p) u with
        | none => rw [e2] at e; cases e
        | some x =>
          rw [e2] at e
          cases e
          cases t with
          | bl b => simp [Tr.parts] at e1
          | bk s ps =>
            simp only [Tr.parts] at e1 c
            have kl : k < ps.length := by omega
            have e1' : ps[k]? = some v := e1
            have mv := List.mem_of_getElem? e1'
            have kv := knots_mem mv
            rw [Tr.knots] at hk
            have lk := len_knotsL ps
            have ih := put_law_ok p n h v u x (by omega) (by simp at hp; omega) e2
            show F__law_put (n + 1) [tD (Tr.bk s ps), D.tup (plInts (k :: p)), tD u] h = .ok (tD (.bk s (ps.set k x))) h
            rw [S__law_put]
            refine R.wp_eq.mp ?_
            have np := eq_pl (h := h) (k :: p) []
            have ia : ∀ h : Hs, ixF (.tup (tDs ps)) (.int (k : Int)) h = some (tD v, h) := fun h => by rw [ix_tup', atI_nat (by rw [tDs_len]; exact kl), tDs_map, List.getElem?_map, e1']; rfl
            have ia2 : ∀ h : Hs, ixF (.tup (plInts (k :: p))) (.int 0) h = some (.int (k : Int), h) := fun h => by simp [plInts]
            have s1 : cutL (plInts (k :: p)) (some 1) none = plInts p := by rw [show (1 : Int) = ((1 : Nat) : Int) from rfl, cut_from]; rfl
            have s2 : cutL (tDs ps) none (some (k : Int)) = (tDs ps).take k := cut_to _ _
            have s3 : cutL (tDs ps) (some ((k : Int) + 1)) none = (tDs ps).drop (k + 1) := by rw [show (k : Int) + 1 = ((k + 1 : Nat) : Int) from rfl, cut_from]
            have z1 : ((tDs ps).take k).length + 1 ≤ 16777216 := by rw [List.length_take, tDs_len]; omega
            have z2 : ((tDs ps).take k ++ [tD x]).length + ((tDs ps).drop (k + 1)).length ≤ 16777216 := by rw [List.length_append, List.length_take, List.length_drop, tDs_len]; simp; omega
            have nt := noloc_tDs (ps.set k x)
            have ec3 := set_cut3 ps k x kl
            obtain ⟨P, hP⟩ : ∃ P, P = plInts (k :: p) := ⟨_, rfl⟩
            obtain ⟨T, hT⟩ : ∃ T, T = tDs ps := ⟨_, rfl⟩
            rw [← hP] at ia2 s1 np ⊢
            rw [← hT] at ia s2 s3 z1 z2 ec3
            have n0 : plInts [] = [] := rfl
            rw [n0, decide_eq_false (by simp)] at np
            simp at np z1 z2
            simp only [wp_pure, wp_run, m__law_put, startD]
            refine ⟨rfl, ?_⟩
            simp [wp_v, np, ia2, tD, ← hT, ia, slF_tup, s1, ih, s2, s3, z1, z2, ec3, noloc, nolocL, nt]
    · cases e
theorem plT_iff {a b : List (List Nat × Tr)} : a.map plT = b.map plT ↔ a.map (·.1) = b.map (·.1) := by
  refine ⟨fun h => ?_, plT_of⟩
  induction a generalizing b with
  | nil => cases b with
    | nil => rfl
    | cons _ _ => simp at h
  | cons p a ih => cases b with
    | nil => simp at h
    | cons q b =>
      rw [List.map_cons, List.map_cons] at h
      injection h with h1 h2
      rw [List.map_cons, List.map_cons, ih h2]
      unfold plT at h1
      injection h1 with h1
      rw [plInts_inj.mp h1]
abbrev swapP (T : List (Int × Int)) : List (Int × Int) := T.map fun p => (p.2, p.1)
theorem mD_swap (T : List (Int × Int)) (x y : Int) : swapP (T ++ [(x, y)]) = swapP T ++ [(y, x)] := by simp [swapP]
theorem go_together_ok (n : Nat) (h : Hs) (a b : Tr) (sa : a.sok) (sb : b.sok) (ka : a.knots ≤ 99999) (kb : b.knots ≤ 99999) (da : a.depth ≤ 1000) (db : b.depth ≤ 1000) :
    F__law_go_together (n + 2) [tD a, tD b] h = .ok (.bl (decide (a.plain = b.plain))) h := by
  rw [S__law_go_together]
  refine R.wp_eq.mp ?_
  rw [wp_pure, wp_run]
  refine ⟨rfl, ?_⟩
  unfold m__law_go_together
  simp only [startD, List.map_cons, List.map_nil, List.length_cons, List.length_nil]
  have pa := law_places_ok n h a (by omega)
  obtain ⟨A, hA⟩ : ∃ A, A = AO.lst (a.places.map plD) := ⟨_, rfl⟩
  obtain ⟨B, hB⟩ : ∃ B, B = AO.lst (b.places.map plD) := ⟨_, rfl⟩
  have pb := law_places_ok n (h ++ [A]) b (by omega)
  rw [← hA] at pa
  rw [← hB] at pb
  refine st_set (.loc h.length) (h ++ [A]) (by simp [wp_v, pa]) ?_
  refine st_set (.loc (h.length + 1)) (h ++ [A, B]) ?_ ?_
  · simp at pb; simp [wp_v, pb]
  refine st_set (.loc (h.length + 2)) (h ++ [A, B, .dct []]) (by simp) ?_
  refine st_set (.loc (h.length + 3)) (h ++ [A, B, .dct [], .dct []]) (by simp) ?_
  simp only [List.set_cons_succ, List.set_cons_zero, List.replicate, List.cons_append, List.nil_append]
  have la := places_len a
  have lb := places_len b
  have gA : ∀ q : Hs, (h ++ [A, B] ++ q)[h.length]? = some (.lst (a.places.map plD)) := fun q => by simp [hA]
  have gB : ∀ q : Hs, (h ++ [A, B] ++ q)[h.length + 1]? = some (.lst (b.places.map plD)) := fun q => by simp [hB]
  obtain ⟨H, hH⟩ : ∃ H, H = h ++ [A, B] := ⟨_, rfl⟩
  have Hl : H.length = h.length + 2 := by rw [hH]; simp
  have Ht : ∀ q : Hs, (H ++ q).take h.length = h := fun q => by rw [hH]; simp
  rw [← hH] at gA gB
  have eH : h ++ [A, B, .dct [], .dct []] = H ++ [.dct [], .dct []] := by rw [hH]; simp
  rw [eH]
  clear pa pb eH
  have lcp : ∀ (c : Tr) (ds : Sl) (l : Nat) (G : Hs), ds.length = 11 → G[l]? = some (.lst (c.places.map plD)) → c.places.length ≤ 99999 → lcLoop (fun h => h[l]? = some (.lst (c.places.map plD))) G.length (tupG 2 (consG (nameG 6) (consG (nameG 7) nilG))) yesM (vM 6) ds (c.places.map plD) (G ++ [.lst []]) = .ok (.loc G.length) (G ++ [.lst (c.places.map plT)]) := by
    intro c ds l G hd hg hl
    refine lc_map (c.places.map plD) (c.places.map plT) (by simp) (by rw [List.length_map]; omega) (fun acc => get_app hg) fun k d y acc e3 e4 => ?_
    rw [List.getElem?_map] at e3 e4
    cases q : c.places[k]? with
    | none => rw [q] at e3; cases e3
    | some q' =>
      rw [q] at e3 e4
      cases e3
      cases e4
      unfold LcTurn
      simp [wp_v, plD, plT, hd, List.getElem_set]
  have i1 := its_lst (gA [.dct [], .dct []])
  have l1 := lcp a (wipeD [some (tD a), some (tD b), some (.loc h.length), some (.loc (h.length + 1)), some (.loc (h.length + 2)), some (.loc (h.length + 3)), none, none, none, none, none] [6, 7]) h.length (H ++ [.dct [], .dct []]) rfl (gA _) (by omega)
  have i2 := its_lst (gB [.dct [], .dct [], .lst (a.places.map plT)])
  have l2 := lcp b (wipeD [some (tD a), some (tD b), some (.loc h.length), some (.loc (h.length + 1)), some (.loc (h.length + 2)), some (.loc (h.length + 3)), none, none, none, none, none] [6, 7]) (h.length + 1) (H ++ [.dct [], .dct [], .lst (a.places.map plT)]) rfl (gB _) (by omega)
  have eqB1 := eqB_lst (h := H ++ [.dct [], .dct [], .lst (a.places.map plT), .lst (b.places.map plT)]) (i := H.length + 2) (j := H.length + 3) (xs := a.places.map plT) (ys := b.places.map plT) (by simp) (by simp) (pyOk_plT _) (pyOk_plT _) (by have := dep_plT a.places; omega)
  obtain ⟨PA, hPA⟩ : ∃ PA, PA = AO.lst (a.places.map plT) := ⟨_, rfl⟩
  obtain ⟨PB, hPB⟩ : ∃ PB, PB = AO.lst (b.places.map plT) := ⟨_, rfl⟩
  rw [← hPA] at l1 i2 l2 eqB1
  rw [← hPB] at l2 eqB1
  have ne : neF (.loc (H.length + 2)) (.loc (H.length + 3)) (H ++ [.dct [], .dct [], PA, PB]) = some (.bl (!decide (a.places.map (·.1) = b.places.map (·.1))), H ++ [.dct [], .dct [], PA, PB]) := by
    unfold neF
    rw [eqB1, Option.map_some]
    congr 4
    exact decide_eq_decide.mpr plT_iff
  simp at l1 i1 i2 l2 ne
  by_cases cp : a.places.map (·.1) = b.places.map (·.1)
  · rw [decide_eq_true cp] at ne
    refine st_guard (H ++ [.dct [], .dct [], PA, PB]) (by simp [wp_v, i1, l1, i2, l2, ne]) ?_
    have hk : a.knots = b.knots := by
      have := congrArg List.length cp
      rw [List.length_map, List.length_map, la, lb] at this
      exact this
    have gp := goS_plain a b hk
    have eR : decide (a.plain = b.plain) = goS (a.places.zip b.places) [] := by
      cases z : goS (a.places.zip b.places) [] with
      | true => exact decide_eq_true (gp.mp z)
      | false => exact decide_eq_false fun y => by rw [gp.mpr y] at z; cases z
    rw [eR]
    have spa := sok_place a sa
    have spb := sok_place b sb
    generalize hR : goS (a.places.zip b.places) [] = Rz
    have le := len_lst (gA [.dct [], .dct [], PA, PB])
    rw [List.length_map, la] at le
    have ir : inR (a.knots : Int) = true := inR_of (by omega) (by omega)
    obtain ⟨J, hJ⟩ : ∃ J : Nat → Sl → Hs → Prop, J = fun i ds h' => ∃ T : List (Int × Int), Cons T ∧ T.length ≤ i ∧ goS ((a.places.zip b.places).drop i) T = Rz ∧ h' = H ++ [.dct (mD D.int T), .dct (mD D.int (swapP T)), PA, PB] ∧ ∃ x y z, ds = [some (tD a), some (tD b), some (.loc h.length), some (.loc (h.length + 1)), some (.loc (h.length + 2)), some (.loc (h.length + 3)), none, none, x, y, z] := ⟨_, rfl⟩
    refine st_for ((List.range a.knots).map fun (i : Nat) => .int (i : Int)) (fun _ => True) (H ++ [.dct [], .dct [], PA, PB]) J (by simp [wp_v, le, ir]) (by rw [hJ]; exact ⟨[], fun p hp => (by cases hp), by simp, hR, rfl, _, _, _, rfl⟩) (fun _ _ _ _ => trivial) ?_ ?_
    · intro i d ds h' hd hj
      rw [hJ] at hj
      obtain ⟨T, hT, hTl, hr, rfl, x, y, z, rfl⟩ := hj
      have ik : i < a.knots := by
        have := (List.getElem?_eq_some_iff.mp hd).1
        simpa using this
      have ed : d = .int i := by
        rw [List.getElem?_map, List.getElem?_range ik] at hd
        exact (Option.some.inj hd).symm
      subst ed
      obtain ⟨⟨pa, u⟩, hu⟩ : ∃ q, a.places[i]? = some q := ⟨_, List.getElem?_eq_getElem (by omega)⟩
      obtain ⟨⟨pb, v⟩, hv⟩ : ∃ q, b.places[i]? = some q := ⟨_, List.getElem?_eq_getElem (by omega)⟩
      have su := spa _ (List.mem_of_getElem? hu)
      have sv := spb _ (List.mem_of_getElem? hv)
      simp only at su sv
      have ed : (a.places.zip b.places).drop i = ((pa, u), (pb, v)) :: (a.places.zip b.places).drop (i + 1) := by
        have hz : (a.places.zip b.places)[i]? = some ((pa, u), (pb, v)) := by rw [List.getElem?_zip_eq_some]; exact ⟨hu, hv⟩
        have il := (List.getElem?_eq_some_iff.mp hz).1
        rw [List.drop_eq_getElem_cons il]
        rw [List.getElem?_eq_getElem il] at hz
        rw [Option.some.inj hz]
      rw [ed] at hr
      have xa : ∀ q : Hs, ixF (.loc h.length) (.int (i : Int)) (H ++ q) = some (.tup [.tup (plInts pa), tD u], H ++ q) := fun q => by
        rw [ix_lst (gA q), atI_nat (by rw [List.length_map]; omega), List.getElem?_map, hu]; rfl
      have xb : ∀ q : Hs, ixF (.loc (h.length + 1)) (.int (i : Int)) (H ++ q) = some (.tup [.tup (plInts pb), tD v], H ++ q) := fun q => by
        rw [ix_lst (gB q), atI_nat (by rw [List.length_map]; omega), List.getElem?_map, hv]; rfl
      have fin : ∀ (T' : List (Int × Int)) x y z, Cons T' → T'.length ≤ i + 1 → goS ((a.places.zip b.places).drop (i + 1)) T' = Rz → J (i + 1) [some (tD a), some (tD b), some (.loc h.length), some (.loc (h.length + 1)), some (.loc (h.length + 2)), some (.loc (h.length + 3)), none, none, x, y, z] (H ++ [.dct (mD D.int T'), .dct (mD D.int (swapP T')), PA, PB]) := fun T' x y z c1 c2 c3 => by
        rw [hJ]; exact ⟨T', c1, c2, c3, rfl, _, _, _, rfl⟩
      have nbk : ∀ h : Hs, neF (.str "blank") (.str "block") h = some (.bl true, h) := fun h => by rw [ne_strs ok_blank ok_block, decide_eq_false bl_bk]; rfl
      have nkb : ∀ h : Hs, neF (.str "block") (.str "blank") h = some (.bl true, h) := fun h => by rw [ne_strs ok_block ok_blank, decide_eq_false bk_bl]; rfl
      have nbb : ∀ h : Hs, neF (.str "block") (.str "block") h = some (.bl false, h) := fun h => by rw [ne_strs ok_block ok_block]; simp
      have nll : ∀ h : Hs, neF (.str "blank") (.str "blank") h = some (.bl false, h) := fun h => by rw [ne_strs ok_blank ok_blank]; simp
      cases u with
      | bl ux =>
        cases v with
        | bk s' qs =>
          rw [goS] at hr
          simp [wp_v, xa, xb, tD, nbk, ← hr, noloc, Ht]
        | bl vy =>
          rw [goS] at hr
          have g1 : (H ++ [.dct (mD D.int T), .dct (mD D.int (swapP T)), PA, PB])[h.length + 2]? = some (.dct (mD D.int T)) := by rw [← Hl]; simp
          have g2 : (H ++ [.dct (mD D.int T), .dct (mD D.int (swapP T)), PA, PB])[h.length + 3]? = some (.dct (mD D.int (swapP T))) := by
            have : h.length + 3 = H.length + 1 := by omega
            rw [this]; simp
          have sd1 := setd_dct (x := .int vy) (k := .int ux) (kk := .inl ux) g1 rfl (by rw [mD_len]; omega)
          have sd2 := setd_dct (x := .int ux) (k := .int vy) (kk := .inl vy) g2 rfl (by rw [mD_len, List.length_map]; omega)
          rw [val_mD] at sd1 sd2
          have ck1 := ck_dct g1
          cases e1 : mAt T ux with
          | some y' =>
            have m1 := mAt_mem e1
            rw [e1] at sd1
            rw [if_pos ⟨_, m1, .inl rfl⟩] at hr
            by_cases cy : y' = vy
            · subst cy
              rw [if_pos m1] at hr
              obtain ⟨x', e2, ex⟩ : ∃ x', mAt (swapP T) y' = some x' ∧ x' = ux := by
                cases e2 : mAt (swapP T) y' with
                | none => exact absurd (List.mem_map.mpr ⟨(y', ux), List.mem_map.mpr ⟨(ux, y'), m1, rfl⟩, rfl⟩) (mAt_none.mp e2)
                | some x' =>
                  obtain ⟨p, hp, ep⟩ := List.mem_map.mp (mAt_mem e2)
                  have := (hT p hp (ux, y') m1).mpr (by injection ep)
                  refine ⟨x', rfl, ?_⟩
                  injection ep with ep1 ep2
                  rw [← ep2]; exact this
              subst ex
              rw [e2] at sd2
              have ck2 := ck_dct g2
              have fin := fun x y z => fin T x y z hT (by omega) hr
              simp at sd1 sd2
              try simp [tD] at fin
              simp [wp_v, xa, xb, tD, nll, ck1, ck2, sd1, sd2, fin]
            · have nm : (ux, vy) ∉ T := fun m => cy ((hT _ m1 _ m).mp rfl)
              rw [if_neg nm] at hr
              simp at sd1
              simp [wp_v, xa, xb, tD, nll, ck1, sd1, cy, ← hr, noloc, Ht]
          | none =>
            rw [e1] at sd1
            have nx := mAt_none.mp e1
            have pm := put_mD D.int T ux vy
            rw [mPut_new nx] at pm
            rw [pm] at sd1
            have s1 : (H ++ [AO.dct (mD D.int T), .dct (mD D.int (swapP T)), PA, PB]).set (h.length + 2) (.dct (mD D.int (T ++ [(ux, vy)]))) = H ++ [.dct (mD D.int (T ++ [(ux, vy)])), .dct (mD D.int (swapP T)), PA, PB] := by
              rw [← Hl, List.set_append_right _ _ (Nat.le_refl _), Nat.sub_self]; rfl
            simp only [s1] at sd1
            have g3 : (H ++ [.dct (mD D.int (T ++ [(ux, vy)])), .dct (mD D.int (swapP T)), PA, PB])[h.length + 3]? = some (.dct (mD D.int (swapP T))) := by
              have : h.length + 3 = H.length + 1 := by omega
              rw [this]; simp
            have sd3 := setd_dct (x := .int ux) (k := .int vy) (kk := .inl vy) g3 rfl (by rw [mD_len, List.length_map]; omega)
            have ck2 := ck_dct g3
            rw [val_mD] at sd3
            cases e2 : mAt (swapP T) vy with
            | some x' =>
              obtain ⟨p, hp, ep⟩ := List.mem_map.mp (mAt_mem e2)
              injection ep with ep1 ep2
              have px : p.1 ≠ ux := fun z => nx (List.mem_map.mpr ⟨p, hp, z⟩)
              rw [if_pos ⟨p, hp, .inr ep1⟩, if_neg fun m => nx (List.mem_map.mpr ⟨_, m, rfl⟩)] at hr
              rw [e2] at sd3
              have nxx : ¬ x' = ux := fun z => px (ep2.trans z)
              simp at sd1 sd3
              simp [wp_v, xa, xb, tD, nll, ck1, ck2, sd1, sd3, nxx, ← hr, noloc, Ht]
            | none =>
              have ny := mAt_none.mp e2
              have c' : ∀ p ∈ T, p.1 ≠ ux ∧ p.2 ≠ vy := fun p hp => ⟨fun z => nx (List.mem_map.mpr ⟨p, hp, z⟩), fun z => ny (List.mem_map.mpr ⟨(p.2, p.1), List.mem_map.mpr ⟨p, hp, rfl⟩, z⟩)⟩
              rw [if_neg fun ⟨p, hp, z⟩ => by
                rcases z with z | z
                · exact (c' p hp).1 z
                · exact (c' p hp).2 z] at hr
              rw [e2] at sd3
              have pm2 := put_mD D.int (swapP T) vy ux
              rw [mPut_new ny, ← mD_swap] at pm2
              rw [pm2] at sd3
              have s3 : (H ++ [AO.dct (mD D.int (T ++ [(ux, vy)])), .dct (mD D.int (swapP T)), PA, PB]).set (h.length + 3) (.dct (mD D.int (swapP (T ++ [(ux, vy)])))) = H ++ [.dct (mD D.int (T ++ [(ux, vy)])), .dct (mD D.int (swapP (T ++ [(ux, vy)]))), PA, PB] := by
                have : h.length + 3 = H.length + 1 := by omega
                rw [this, List.set_append_right _ _ (by omega), Nat.add_sub_cancel_left]; rfl
              simp only [s3] at sd3
              have hT2 : Cons (T ++ [(ux, vy)]) := by
                intro p hp q hq
                rcases List.mem_append.mp hp with hp | hp <;> rcases List.mem_append.mp hq with hq | hq
                · exact hT p hp q hq
                · have : q = (ux, vy) := by simpa using hq
                  rw [this]
                  obtain ⟨h1, h2⟩ := c' p hp
                  exact ⟨fun e => absurd e h1, fun e => absurd e h2⟩
                · have : p = (ux, vy) := by simpa using hp
                  rw [this]
                  obtain ⟨h1, h2⟩ := c' q hq
                  exact ⟨fun e => absurd e.symm h1, fun e => absurd e.symm h2⟩
                · have e1 : p = (ux, vy) := by simpa using hp
                  have e2 : q = (ux, vy) := by simpa using hq
                  rw [e1, e2]; simp
              have fin := fun x y z => fin (T ++ [(ux, vy)]) x y z hT2 (by simp; omega) hr
              generalize mD D.int (swapP (T ++ [(ux, vy)])) = L2' at sd3 fin
              generalize mD D.int (T ++ [(ux, vy)]) = L1' at sd1 sd3 fin ck2
              simp at sd1 sd3
              try simp [tD] at fin
              simp [wp_v, xa, xb, tD, nll, ck1, ck2, sd1, sd3, fin]
      | bk s ps =>
        cases v with
        | bl vy =>
          rw [goS] at hr
          simp [wp_v, xa, xb, tD, nkb, ← hr, noloc, Ht]
        | bk s' qs =>
          rw [goS] at hr
          classical
          have ne := fun h : Hs => ne_strs (h := h) su.1 sv.1
          by_cases c1 : s = s'
          · by_cases c2 : ps.length = qs.length
            · rw [if_pos ⟨c1, c2⟩] at hr
              rw [decide_eq_true c1] at ne
              have c3 : (ps.length : Int) = (qs.length : Int) := by omega
              have fin := fun x y z => fin T x y z hT (by omega) hr
              try simp [tD] at fin
              simp [wp_v, xa, xb, tD, nbb, ne, c3, fin]
            · rw [if_neg fun z => c2 z.2] at hr
              rw [decide_eq_true c1] at ne
              have c3 : ¬ (ps.length : Int) = (qs.length : Int) := by omega
              simp [wp_v, xa, xb, tD, nbb, ne, c3, ← hr, noloc, Ht]
          · rw [if_neg fun z => c1 z.1] at hr
            rw [decide_eq_false c1] at ne
            simp [wp_v, xa, xb, tD, nbb, ne, ← hr, noloc, Ht]
    · intro ds h' hj
      rw [hJ] at hj
      obtain ⟨T, hT, hTl, hr, rfl, x, y, z, rfl⟩ := hj
      have zl : (a.places.zip b.places).length = a.knots := by rw [List.length_zip, la, lb, hk, Nat.min_self]
      rw [List.length_map, List.length_range, ← zl, List.drop_length, goS] at hr
      simp [wp_v, ← hr, noloc, Ht]
  · rw [decide_eq_false cp] at ne
    have np : ¬ a.plain = b.plain := fun z => cp (plain_pl z)
    simp [wp_v, i1, l1, i2, l2, ne, np, noloc, Ht]
end DV
namespace DV
open PySem PySem.Spec PyProof.Rows L2
theorem namL_iff : ∀ {ts : List Tr}, namL ts ↔ ∀ t ∈ ts, t.nam
  | [] => by simp [namL]
  | t :: ts => by rw [namL, namL_iff]; simp
theorem nam_set {ts : List Tr} {k : Nat} {w : Tr} (g : namL ts) (h : w.nam) : namL (ts.set k w) := by
  rw [namL_iff] at g ⊢
  intro t ht
  rcases List.mem_or_eq_of_mem_set ht with ht | rfl
  · exact g t ht
  · exact h
theorem nam_put : ∀ (p : List Int) (t u w : Tr), t.nam → u.nam → t.put p u = some w → w.nam
  | [], t, u, w, _, g, h => by rw [put_nil] at h; cases h; exact g
  | k :: p, t, u, w, gt, g, h => by
    rw [put_cons] at h
    split at h
    · cases e : t.parts[k.toNat]? with
      | none => rw [e] at h; cases h
      | some v =>
        rw [e, Option.bind_some] at h
        cases e2 : v.put p u with
        | none => rw [e2] at h; cases h
        | some x =>
          rw [e2] at h
          cases h
          cases t with
          | bl b => simp [Tr.parts] at e
          | bk s ps =>
            have gv := namL_iff.mp gt.2.2 v (List.mem_of_getElem? e)
            exact ⟨gt.1, by rw [List.length_set]; exact gt.2.1, nam_set gt.2.2 (nam_put p v u x gv g e2)⟩
    · cases h
theorem alike_bl (n : Nat) (h : Hs) (b : Bool) : F__law_alike (n + 1) [.bl b, .bl b] h = .ok (.bl true) h := by
  rw [S__law_alike]
  refine R.wp_eq.mp ?_
  have t1 : isF "bool" (.bl b) h = some (.bl true, h) := rfl
  simp [wp_pure, wp_run, m__law_alike, startD, wp_v, t1, truD, noloc]
theorem law_k19_ok (ns : List Int) (hl : ns.length ≤ 63) : ∃ h, F_law_k19 230 [.ro ns] [] = .ok (.bl true) h := by
  have w : (F_law_k19 (229 + 1) [.ro ns] []).wp (fun d _ => d = .bl true) xF := by
    rw [S_law_k19]
    have dr : ∀ (cell k many : Int) (h : Hs), 0 < many → -1000000 ≤ k ∧ k ≤ 1000000 → F__law_draw 229 [.int cell, .int k, .int many] h = .ok (.int (drawI cell k many)) h := fun cell k many h a b => draw_ok 228 h cell k many a b
    obtain ⟨t0, et, g0, k0, d0⟩ := start_tree 226 [AO.lst ((ns.drop 1).map D.int)] 0 (ns.drop 1) (cellI ns 0) (2 + drawI (cellI ns 0) 50 3) rfl
    obtain ⟨t, ht, g, kn, dp⟩ : ∃ t : Tr, (if drawI (cellI ns 0) 50 6 = 1 then D.tup [.str "blank", .int (1 + cellI ns 0 % 1000000000)] else tD t0) = tD t ∧ t.good ∧ t.knots ≤ 190 ∧ t.depth ≤ 28 := by
      split
      · exact ⟨.bl (1 + cellI ns 0 % 1000000000), by simp [tD], blank_good _, bl_small _⟩
      · exact ⟨t0, rfl, g0, k0, d0⟩
    have gn := nam_good g
    have w9 : cPow 10 9 = true := cPow_of (by decide) (by decide) (by decide)
    have m9 : ∀ i, cMod i 1000000000 = true := fun _ => cMod_of (by decide)
    have c0 := fun h => cell0_ok 228 h ns
    generalize cellI ns 0 = first at c0 et ht dr
    rw [wp_pure, wp_run]
    refine ⟨rfl, ?_⟩
    unfold m_law_k19
    simp only [startD, List.map_cons, List.map_nil, List.length_cons, List.length_nil]
    refine st_set (.int first) [] (by simp [wp_v, c0]) ?_
    refine st_set (tD t0) [AO.lst ((ns.drop 1).map D.int)] ?_ ?_
    · simp [wp_v, slF_ro, drop1, dr]
      simp at et
      simp [et]
    simp only [List.set_cons_succ, List.set_cons_zero, List.replicate, List.cons_append, List.nil_append]
    refine st_seq [some (.ro ns), some (.int first), some (tD t), none, none, none, none, none, none, none, none, none, none] [AO.lst ((ns.drop 1).map D.int)] ?_ ?_
    · simp [wp_v, dr, w9, m9]
      split
      · rename_i c; rw [if_pos c] at ht; simp [ht]
      · rename_i c; rw [if_neg c] at ht; simp [ht]
    clear et
    generalize AO.lst ((ns.drop 1).map D.int) = b0
    obtain ⟨ss, hss⟩ : ∃ ss : List Int, ss = [2, 1000000000, 1, 1 + first % 1000000000, 7, 3, 11] := ⟨_, rfl⟩
    have ssl : ss.length = 7 := by rw [hss]; rfl
    refine st_set (.loc 1) [b0, .lst (ss.map D.int)] ?_ ?_
    · rw [hss]; simp [wp_v, w9, m9]
    refine st_set (.loc 2) [b0, .lst (ss.map D.int), .dct []] (by simp) ?_
    obtain ⟨L3, hL3⟩ : ∃ L3, L3 = AO.lst [D.int 7, .int 7, .int 3] := ⟨_, rfl⟩
    obtain ⟨many, hm0, hm1, hm⟩ : ∃ many : Int, 0 < many ∧ many ≤ 7 ∧ atI [D.int 7, .int 7, .int 3] (drawI first 56 3) = some (.int many) := by
      obtain ⟨h0, h1⟩ := drawI_lt first 56 (by decide : (0 : Int) < 3)
      obtain ⟨z, hz, hz2⟩ := atI_of (zs := [D.int 7, .int 7, .int 3]) h0 h1
      have := List.mem_of_getElem? hz2
      simp only [List.mem_cons, List.not_mem_nil, or_false] at this
      rcases this with rfl | rfl | rfl
      · exact ⟨7, by decide, by decide, hz⟩
      · exact ⟨7, by decide, by decide, hz⟩
      · exact ⟨3, by decide, by decide, hz⟩
    have d56 := fun h => dr first 56 3 h (by decide) (by decide)
    have ix3 : ixF (.loc 3) (.int (drawI first 56 3)) [b0, .lst (ss.map D.int), .dct [], L3] = some (.int many, [b0, .lst (ss.map D.int), .dct [], L3]) := by
      rw [ix_lst (xs := [D.int 7, .int 7, .int 3]) (by rw [hL3]; rfl), hm]; rfl
    refine st_set (.int many) [b0, .lst (ss.map D.int), .dct [], L3] ?_ ?_
    · rw [hL3] at ix3 ⊢
      simp [wp_v, d56, ix3]
    simp only [List.set_cons_succ, List.set_cons_zero]
    obtain ⟨KS, hKS⟩ : ∃ KS : List Int, KS = [1, 2, 7, 1000000000, 1 + first % 1000000000] := ⟨_, rfl⟩
    have Kl : KS.length = 5 := by rw [hKS]; rfl
    have d51 := fun h => dr first 51 3 h (by decide) (by decide)
    have d52 := fun h => dr first 52 7 h (by decide) (by decide)
    obtain ⟨r51, s51⟩ := drawI_lt first 51 (by decide : (0 : Int) < 3)
    generalize drawI first 51 3 = q51 at d51 r51 s51
    generalize drawI first 52 7 = q52 at d52
    have mm : ∀ i, cMod i many = true := fun _ => cMod_of hm0
    obtain ⟨J, hJ⟩ : ∃ J : Nat → Sl → Hs → Prop, J = fun i ds h' => ∃ fs : List (Int × Tr), fs.length ≤ i ∧ (∀ p ∈ fs, p.2.isBlank = true) ∧ h' = [b0, .lst (ss.map D.int), .dct (mD tD fs), L3, .lst (KS.map D.int)] ∧ ∃ x y, ds = [some (.ro ns), some (.int first), some (tD t), some (.loc 1), some (.loc 2), some (.int many), x, y, none, none, none, none, none] := ⟨_, rfl⟩
    refine st_for (numD (KS.map D.int)) (fun h' => h'[4]? = some (.lst (KS.map D.int))) [b0, .lst (ss.map D.int), .dct [], L3, .lst (KS.map D.int)] J ?_ (by rw [hJ]; exact ⟨[], by simp, by simp, rfl, _, _, rfl⟩) (fun i ds h' j => by rw [hJ] at j; obtain ⟨fs, _, _, rfl, _⟩ := j; rfl) ?_ ?_
    · rw [hKS]; simp [wp_v, w9, m9, enumF]
    · intro i d ds h' hd' hj
      rw [hJ] at hj
      obtain ⟨fs, fl, fb, rfl, x, y, rfl⟩ := hj
      obtain ⟨zz, hz, rfl⟩ := numD_get hd'
      rw [List.getElem?_map] at hz
      cases q : KS[i]? with
      | none => rw [q] at hz; cases hz
      | some k =>
        rw [q] at hz
        cases hz
        have i5 : i < 5 := by have := (List.getElem?_eq_some_iff.mp q).1; omega
        have ci : ∀ j, cMul (i : Int) j = true := fun _ => cMul_l (by omega) (by omega)
        obtain ⟨z, hz, hz2⟩ := atI_of (zs := ss.map D.int) (i := ((i : Int) * (1 + q51) + q52) % many) (Int.emod_nonneg _ (by omega)) (by rw [List.length_map, ssl]; have := Int.emod_lt_of_pos ((i : Int) * (1 + q51) + q52) hm0; omega)
        obtain ⟨v, mv, rfl⟩ := List.mem_map.mp (List.mem_of_getElem? hz2)
        have ix1 : ixF (.loc 1) (.int (((i : Int) * (1 + q51) + q52) % many)) [b0, .lst (ss.map D.int), .dct (mD tD fs), L3, .lst (KS.map D.int)] = some (.int v, [b0, .lst (ss.map D.int), .dct (mD tD fs), L3, .lst (KS.map D.int)]) := by
          rw [ix_lst (xs := ss.map D.int) rfl, hz]; rfl
        have st := set_dct (h := [b0, .lst (ss.map D.int), .dct (mD tD fs), L3, .lst (KS.map D.int)]) (l := 2) (k := .int k) (kk := .inl k) (v := tD (.bl v)) rfl rfl (by rw [mD_len]; omega)
        rw [put_mD] at st
        have fin : ∀ x y, J (i + 1) [some (.ro ns), some (.int first), some (tD t), some (.loc 1), some (.loc 2), some (.int many), x, y, none, none, none, none, none] [b0, .lst (ss.map D.int), .dct (mD tD (mPut fs k (.bl v))), L3, .lst (KS.map D.int)] := fun x y => by
          rw [hJ]
          refine ⟨_, by have := mPut_len fs k (Tr.bl v); omega, fun p hp => ?_, rfl, _, _, rfl⟩
          unfold mPut at hp
          split at hp
          · obtain ⟨q, hq, rfl⟩ := List.mem_map.mp hp
            split
            · rfl
            · exact fb q hq
          · rcases List.mem_append.mp hp with hp | hp
            · exact fb p hp
            · have : p = (k, .bl v) := by simpa using hp
              rw [this]; rfl
        generalize mD tD (mPut fs k (.bl v)) = L' at st fin
        generalize mD tD fs = L at st ix1 ⊢
        generalize AO.lst (KS.map D.int) = K5 at st ix1 fin ⊢
        generalize AO.lst (ss.map D.int) = S1 at st ix1 fin ⊢
        simp [tD] at st
        simp [wp_v, ci, d51, d52, mm, ix1, st, fin]
    intro ds h' hj
    rw [hJ] at hj
    obtain ⟨fs, fl, fb, rfl, x, y, rfl⟩ := hj
    clear hJ J
    obtain ⟨N, hN⟩ : ∃ N : Hs, N = [b0, .lst (ss.map D.int), .dct (mD tD fs), L3, .lst (KS.map D.int)] := ⟨_, rfl⟩
    have N2 : N[2]? = some (.dct (mD tD fs)) := by rw [hN]; rfl
    have fb' : ∀ k u, mAt fs k = some u → u.isBlank = true := fun k u e => fb _ (mAt_mem e)
    have ex := exchanged_ok 229 N 2 fs t N2 (by omega) (by omega)
    rw [← law_exchanged_eq] at ex
    obtain ⟨fk, fd⟩ := fill_knots (f := mAt fs) fb' t
    have fn := fill_nam (f := mAt fs) t gn fun k u e => blank_nam (fb' k u e)
    rw [← hN]
    generalize t.fill (mAt fs) = o at ex fk fd fn
    refine st_set (tD o) N (by simp [wp_v, ex]) ?_
    simp only [List.set_cons_succ, List.set_cons_zero]
    clear hN ex
    have rest : ∀ (o2 : Tr) (N2 : Hs) (a b c : Option D) (Nn : Sl → Hs → Prop), o2.nam → o2.knots ≤ 1000 → o2.depth ≤ 90 →
        (seqM (setM 12 (callM (F__law_go_together 229) (consA (vM 2) (consA (vM 8) nilA)))) (seqM (ifM (orM (notM (truM (callM (F__law_alike 229) (consA (callM (F_alike 229) (consA (vM 2) (consA (vM 8) nilA))) (consA (vM 12) nilA))))) (notM (truM (callM (F__law_alike 229) (consA (callM (F_alike 229) (consA (vM 8) (consA (vM 2) nilA))) (consA (vM 12) nilA)))))) (retM (cM (.bl false))) (passM)) (retM (binM isTF (callM (F_alike 229) (consA (vM 2) (consA (vM 2) nilA))) (cM (.bl true)))))
          [some (.ro ns), some (.int first), some (tD t), some (.loc 1), some (.loc 2), some (.int many), x, y, some (tD o2), a, b, c, none] N2).wp Nn (fun d h' => (noloc d = true ∧ h'.take ([] : Hs).length = []) ∧ d = .bl true) (fun c h' => h'.take ([] : Hs).length = [] ∧ xF c h') := by
      intro o2 N2 a b c Nn n2 k2 d2
      have gt := go_together_ok 227 N2 t o2 (sok_nam gn) (sok_nam n2) (by omega) (by omega) (by omega) (by omega)
      have a1 := fun h => alike_ok 227 h t o2 gn n2 ⟨by omega, by omega⟩ (by omega) (by omega) (by omega)
      have a2 := fun h => alike_ok 227 h o2 t n2 gn ⟨by omega, by omega⟩ (by omega) (by omega) (by omega)
      have a3 := fun h => alike_ok 227 h t t gn gn ⟨by omega, by omega⟩ (by omega) (by omega) (by omega)
      have ec : decide (o2.plain = t.plain) = decide (t.plain = o2.plain) := decide_eq_decide.mpr eq_comm
      rw [ec] at a2
      rw [decide_eq_true rfl] at a3
      generalize decide (t.plain = o2.plain) = bb at gt a1 a2
      have ar := fun h => alike_bl 228 h bb
      refine st_set (.bl bb) N2 (by simp [wp_v, gt]) ?_
      refine st_guard N2 (by simp [wp_v, a1, a2, ar, truD]) ?_
      simp [wp_v, a3, isTF, noloc]
    have d53 := fun h => dr first 53 3 h (by decide) (by decide)
    by_cases c53 : drawI first 53 3 = 1
    · have pl := law_places_ok 228 N o (by omega)
      have tl := places_len o
      obtain ⟨P, hP⟩ : ∃ P, P = AO.lst (o.places.map plD) := ⟨_, rfl⟩
      rw [← hP] at pl
      have op := knots_pos o
      have d54 := fun h => dr first 54 (o.knots : Int) h (by omega) (by decide)
      obtain ⟨r54, s54⟩ := drawI_lt first 54 (show (0 : Int) < (o.knots : Int) by omega)
      generalize drawI first 54 (o.knots : Int) = q54 at d54 r54 s54
      obtain ⟨z, hz, hz2⟩ := atI_of (zs := o.places.map plD) r54 (by rw [List.length_map, tl]; exact s54)
      obtain ⟨⟨p, e⟩, mp, rfl⟩ := List.mem_map.mp (List.mem_of_getElem? hz2)
      have pa := places_at o _ mp
      have plen := place_len o _ mp
      simp only at pa plen
      have le := len_lst (h := N ++ [P]) (l := N.length) (xs := o.places.map plD) (by rw [hP]; simp)
      rw [List.length_map, tl] at le
      have ix := ix_lst (h := N ++ [P]) (l := N.length) (xs := o.places.map plD) (i := q54) (by rw [hP]; simp)
      rw [hz] at ix
      have na : nameB "a" = true := by decide +kernel
      obtain ⟨PS, hPS⟩ : ∃ PS : List Tr, PS = [.bl 2, .bl 13, .bk "a" [], .bk "a" [t]] := ⟨_, rfl⟩
      have d55 := fun h => dr first 55 4 h (by decide) (by decide)
      obtain ⟨r55, s55⟩ := drawI_lt first 55 (by decide : (0 : Int) < 4)
      generalize drawI first 55 4 = q55 at d55 r55 s55
      obtain ⟨z2, hz3, hz4⟩ := atI_of (zs := PS.map tD) r55 (by rw [List.length_map, hPS]; exact s55)
      obtain ⟨v, mv, rfl⟩ := List.mem_map.mp (List.mem_of_getElem? hz4)
      have vp : v.nam ∧ v.knots ≤ 191 ∧ v.depth ≤ 29 := by
        rw [hPS] at mv
        simp only [List.mem_cons, List.not_mem_nil, or_false] at mv
        rcases mv with rfl | rfl | rfl | rfl
        · exact ⟨trivial, by simp [Tr.knots], by simp [Tr.depth]⟩
        · exact ⟨trivial, by simp [Tr.knots], by simp [Tr.depth]⟩
        · exact ⟨⟨na, by simp, trivial⟩, by simp [Tr.knots, knotsL], by simp [Tr.depth, depthL]⟩
        · exact ⟨⟨na, by simp, gn, trivial⟩, by simp [Tr.knots, knotsL]; omega, by simp [Tr.depth, depthL]; omega⟩
      obtain ⟨P4, hP4⟩ : ∃ P4, P4 = AO.lst (PS.map tD) := ⟨_, rfl⟩
      have ix4 : ixF (.loc (N.length + 1)) (.int q55) (N ++ [P, P4]) = some (tD v, N ++ [P, P4]) := by
        rw [ix_lst (xs := PS.map tD) (by rw [hP4]; simp), hz3]; rfl
      obtain ⟨o2, ho2⟩ := put_is (nz p) o e v pa
      have po := put_law_ok p 229 (N ++ [P, P4]) o v o2 (by omega) (by omega) ho2
      have n2 := nam_put _ _ _ _ fn vp.1 ho2
      have d2 := depth_put _ _ _ _ ho2
      have k2 := knots_put _ _ _ _ ho2
      have nzl : (nz p).length = p.length := by simp [nz]
      rw [nzl] at d2
      refine st_seq [some (.ro ns), some (.int first), some (tD t), some (.loc 1), some (.loc 2), some (.int many), x, y, some (tD o2), some (.loc N.length), some (.tup (plInts p)), some (tD v), none] (N ++ [P, P4]) ?_ ?_
      · have p4 : P4 = AO.lst [.tup [.str "blank", .int 2], .tup [.str "blank", .int 13], .tup [.str "block", .str "a", .tup []], .tup [.str "block", .str "a", .tup [tD t]]] := by rw [hP4, hPS]; rfl
        rw [p4] at ix4 po ⊢
        simp [plD] at ix
        simp [wp_v, d53, c53, pl, le, d54, ix, d55, ix4, po]
      · exact rest o2 _ _ _ _ _ n2 (by omega) (by omega)
    · refine st_guard N ?_ ?_
      · simp [wp_v, d53, c53]
      · exact rest o N _ _ _ _ fn (by omega) (by omega)
  obtain ⟨d, h, e, rfl⟩ := R.wp_ex w
  exact ⟨h, e⟩
end DV
namespace Hd
open PySem PySem.Spec PyProof.Rows L2 DV
def top (i : Nat) : Stmt := PySem.Challenge.pw_commonform_k19_alike_but_for_blanks.main.body.getD i (.Pass ⟨0, 0, 0, 0⟩)
abbrev s_blanks_of : Stmt := top 1
def d_blanks_of : He.DefD := ⟨("blanks_of", none), "blanks_of", "blanks_of", defArgs s_blanks_of, defBody s_blanks_of, defScope s_blanks_of, [], []⟩
abbrev s_exchanged : Stmt := top 3
def d_exchanged : He.DefD := ⟨("exchanged", none), "exchanged", "exchanged", defArgs s_exchanged, defBody s_exchanged, defScope s_exchanged, [], []⟩
abbrev s_plain : Stmt := top 4
def d_plain : He.DefD := ⟨("plain", none), "plain", "plain", defArgs s_plain, defBody s_plain, defScope s_plain, [], []⟩
abbrev s_alike : Stmt := top 5
def d_alike : He.DefD := ⟨("alike", none), "alike", "alike", defArgs s_alike, defBody s_alike, defScope s_alike, [], []⟩
abbrev s__law_cell_at : Stmt := top 7
def d__law_cell_at : He.DefD := ⟨("_law_cell_at", none), "_law_cell_at", "_law_cell_at", defArgs s__law_cell_at, defBody s__law_cell_at, defScope s__law_cell_at, [], []⟩
abbrev s__law_draw : Stmt := top 8
def d__law_draw : He.DefD := ⟨("_law_draw", none), "_law_draw", "_law_draw", defArgs s__law_draw, defBody s__law_draw, defScope s__law_draw, [], []⟩
abbrev s__law_alike : Stmt := top 9
def d__law_alike : He.DefD := ⟨("_law_alike", none), "_law_alike", "_law_alike", defArgs s__law_alike, defBody s__law_alike, defScope s__law_alike, [], []⟩
abbrev s__law_names : Stmt := top 10
def d__law_names : He.DefD := ⟨("_law_names", none), "_law_names", "_law_names", defArgs s__law_names, defBody s__law_names, defScope s__law_names, [], []⟩
abbrev s__law_leaf : Stmt := top 11
def d__law_leaf : He.DefD := ⟨("_law_leaf", none), "_law_leaf", "_law_leaf", defArgs s__law_leaf, defBody s__law_leaf, defScope s__law_leaf, [], []⟩
abbrev s__law_tree : Stmt := top 12
def d__law_tree : He.DefD := ⟨("_law_tree", none), "_law_tree", "_law_tree", defArgs s__law_tree, defBody s__law_tree, defScope s__law_tree, [], []⟩
abbrev s__law_places : Stmt := top 13
def d__law_places : He.DefD := ⟨("_law_places", none), "_law_places", "_law_places", defArgs s__law_places, defBody s__law_places, defScope s__law_places, [], []⟩
abbrev s__law_exchanged : Stmt := top 14
def d__law_exchanged : He.DefD := ⟨("_law_exchanged", none), "_law_exchanged", "_law_exchanged", defArgs s__law_exchanged, defBody s__law_exchanged, defScope s__law_exchanged, [], []⟩
abbrev s__law_go_together : Stmt := top 15
def d__law_go_together : He.DefD := ⟨("_law_go_together", none), "_law_go_together", "_law_go_together", defArgs s__law_go_together, defBody s__law_go_together, defScope s__law_go_together, [], []⟩
abbrev s__law_put : Stmt := top 16
def d__law_put : He.DefD := ⟨("_law_put", none), "_law_put", "_law_put", defArgs s__law_put, defBody s__law_put, defScope s__law_put, [], []⟩
abbrev s_law : Stmt := top 17
def d_law : He.DefD := ⟨("law", none), "law", "law", defArgs s_law, defBody s_law, defScope s_law, [], []⟩
def fn : List He.DefD := [d_blanks_of, d_exchanged, d_plain, d_alike, d__law_cell_at, d__law_draw, d__law_alike, d__law_names, d__law_leaf, d__law_tree, d__law_places, d__law_exchanged, d__law_go_together, d__law_put, d_law]
def fa : List Fx := [.he (.glo "blanks_of"), .he (.glo "exchanged"), .he (.glo "plain"), .he (.glo "alike"), .he (.glo "_law_cell_at"), .he (.glo "_law_draw"), .he (.glo "_law_alike"), .he (.glo "_law_names"), .he (.glo "_law_leaf"), .he (.glo "_law_tree"), .he (.glo "_law_places"), .he (.glo "_law_exchanged"), .he (.glo "_law_go_together"), .he (.glo "_law_put"), .he (.glo "law"), .he (.free "len"), .he (.free "range"), .he (.free "int"), .he (.free "str"), .he (.free "sum"), .he (.free "max"), .he (.free "min"), .he (.free "enumerate"), .he (.free "isinstance"), .he (.free "tuple"), .he (.free "list"), .he (.free "dict"), .he (.free "sorted"), .he (.free "abs"), .he (.free "all"), .he (.free "set"), .he (.free "bool"), .he (.free "ValueError")]
abbrev R : PySem.W.OpenRow := PySem.W.OpenLaw.row PySem.Challenge.rw_commonform_k19_alike_but_for_blanks
abbrev hk : PySem.W.Hook := hookX 5 fa fn
def ob (s : PySem.W.SharedT) : He.AlD := obsXG 5 fa fn (HandSHeadRun.getT s)
theorem ob_eq (s : PySem.W.SharedT) : ob s = hk.obs s.abs := obsXG_eq (HandSHeadRun.getT_eq s)
def ls0 : List PySem.Str := ["blanks_of", "exchanged", "plain", "alike", "_law_cell_at", "_law_draw", "_law_alike", "_law_names", "_law_leaf", "_law_tree", "_law_places", "_law_exchanged", "_law_go_together", "_law_put"]
def ls : List PySem.Str := ls0
theorem run (w : World) : HandSHeadRun.RunEq R (PySem.W.view R.prog [17]) hk ob 4600 ls w := by
  intro os
  kernel_rfl
end Hd
namespace Wk
open PySem PySem.Spec PyProof.Rows L2 DV Hd
section
variable {P : Program} {w : World} {K : PySem.W.Frag} {mg : Str → Option Value} {base : Heap} {n : Nat} {f : Addr} {fd : FuncData}
theorem sc_blanks_of : FnScope ["tree", "found", "part", "number"] ["tree"] (defScope s_blanks_of) := ⟨rfl, rfl, rfl, by decide +kernel, rfl, by decide +kernel, by decide +kernel⟩
theorem ok_blanks_of (F : FunD K "blanks_of" "blanks_of" (defArgs s_blanks_of) (defBody s_blanks_of) (defScope s_blanks_of) [] [] f fd) (B : Blt mg) {f_blanks_of : Fm} (A_blanks_of : FnAt P w K mg base n "blanks_of" ["tree"] f_blanks_of) :
    FnOk P w K mg base (L2.CX P w) (n + 1) f fd ["tree"] (spM K 1 (kNew.f (runM 1 4 (m_blanks_of f_blanks_of)))) :=
  def_ok (N := ["tree", "found", "part", "number"]) kNew F sc_blanks_of fun cdv A outer s H E W hr tk =>
    sms_cons (sm_if (tm_cmp (o_eq (hu195 hr)) (em_ix (o_ix (hu1 hr)) (em_v (pv 0)) (em_int) (fun _ _ => rfl)) (em_str) (nomark _)) (sms_one (sm_ret (em_lst (am_cons (em_ix (o_ix (hu1 hr)) (em_v (pv 0)) (em_int) (fun _ _ => rfl)) (am_nil))))) (sms_nil))
    (sms_cons (sm_set (i := 1) sc_blanks_of.nd rfl (by first | exact Or.inl rfl | exact Or.inr rfl) (em_lst (am_nil)))
    (sms_cons (sm_for (passes_of rfl) rfl (im_val rfl (em_ix (o_ix (hu1 hr)) (em_v (pv 0)) (em_int) (fun _ _ => rfl))) (gm_name (i := 2) (pg_name (i := 2) sc_blanks_of.nd rfl (by first | exact Or.inl rfl | exact Or.inr rfl))) (sms_one (sm_for (passes_of rfl) rfl (im_val rfl (em_call A_blanks_of rfl hr tk rfl (am_cons (em_v (pv 2)) (am_nil)))) (gm_name (i := 3) (pg_name (i := 3) sc_blanks_of.nd rfl (by first | exact Or.inl rfl | exact Or.inr rfl))) (sms_one (sm_if (tm_cmp (o_nin (hu195 hr)) (em_v (pv 3)) (em_v (pv 1)) rfl) (sms_one (sm_expr (em_bm rfl PySem.F.plainAttrs_list PySem.F.slot_list_append PySem.F.type_list_append k_append (fun _ _ _ _ _ => ckList_ty) (em_v (pv 1)) (am_cons (em_v (pv 3)) (am_nil))))) (sms_nil))))))
    (sms_one (sm_ret (em_v (pv 1))))))
theorem sc_exchanged : FnScope ["tree", "filling", "part"] ["tree", "filling"] (defScope s_exchanged) := ⟨rfl, rfl, rfl, by decide +kernel, rfl, by decide +kernel, by decide +kernel⟩
theorem ok_exchanged (F : FunD K "exchanged" "exchanged" (defArgs s_exchanged) (defBody s_exchanged) (defScope s_exchanged) [] [] f fd) (B : Blt mg) {f_exchanged : Fm} (A_exchanged : FnAt P w K mg base n "exchanged" ["tree", "filling"] f_exchanged) :
    FnOk P w K mg base (L2.CX P w) (n + 1) f fd ["tree", "filling"] (spM K 2 (kPure.f (runM 2 3 (m_exchanged f_exchanged)))) :=
  def_ok (N := ["tree", "filling", "part"]) kPure F sc_exchanged fun cdv A outer s H E W hr tk =>
    sms_cons (sm_if (tm_cmp (o_eq (hu195 hr)) (em_ix (o_ix (hu1 hr)) (em_v (pv 0)) (em_int) (fun _ _ => rfl)) (em_str) (nomark _)) (sms_one (sm_ret (em_bm rfl PySem.F.plainAttrs_dict PySem.F.slot_dict_get PySem.F.type_dict_get (k_get (hu1 hr)) (fun _ _ _ _ _ => ckDct_ty) (em_v (pv 1)) (am_cons (em_ix (o_ix (hu1 hr)) (em_v (pv 0)) (em_int) (fun _ _ => rfl)) (am_cons (em_v (pv 0)) (am_nil)))))) (sms_nil))
    (sms_one (sm_ret (em_tup (am_cons (em_str) (am_cons (em_ix (o_ix (hu1 hr)) (em_v (pv 0)) (em_int) (fun _ _ => rfl)) (am_cons (em_callTy c_tuple rfl B.z_tuple (by decide +kernel) (am_cons (em_lc (own := [("part", 2)]) rfl sc_exchanged.nd (im_val rfl (em_ix (o_ix (hu1 hr)) (em_v (pv 0)) (em_int) (fun _ _ => rfl))) (blkOk_by (own := [("part", 2)]) (N := ["tree", "filling", "part"]) (sc := defScope s_exchanged) (by decide +kernel)) (ct_name _ 2) (fun _ _ _ _ _ => pg_name (i := 2) sc_exchanged.nd rfl (Or.inl rfl)) (fun _ _ _ _ _ => tms_nil) (fun _ _ _ _ _ => em_call A_exchanged rfl hr takes0 rfl (am_cons (em_v (pv 2)) (am_cons (em_v (pv 1)) (am_nil))))) (am_nil))) (am_nil)))))))
theorem sc_plain : FnScope ["tree", "names", "k", "number"] ["tree"] (defScope s_plain) := ⟨rfl, rfl, rfl, by decide +kernel, rfl, by decide +kernel, by decide +kernel⟩
theorem ok_plain (F : FunD K "plain" "plain" (defArgs s_plain) (defBody s_plain) (defScope s_plain) [] [] f fd) (B : Blt mg) {f_exchanged f_blanks_of : Fm} (A_exchanged : FnAt P w K mg base n "exchanged" ["tree", "filling"] f_exchanged) (A_blanks_of : FnAt P w K mg base n "blanks_of" ["tree"] f_blanks_of) :
    FnOk P w K mg base (L2.CX P w) (n + 1) f fd ["tree"] (spM K 1 (kPure.f (runM 1 4 (m_plain f_exchanged f_blanks_of)))) :=
  def_ok (N := ["tree", "names", "k", "number"]) kPure F sc_plain fun cdv A outer s H E W hr tk =>
    sms_cons (sm_set (i := 1) sc_plain.nd rfl (by first | exact Or.inl rfl | exact Or.inr rfl) (em_newD))
    (sms_cons (sm_for (passes_of rfl) rfl (im_enum rfl rfl B.z_enumerate (em_call A_blanks_of rfl hr tk rfl (am_cons (em_v (pv 0)) (am_nil)))) (gm_tup rfl (gms_cons (gm_name (i := 2) (pg_name (i := 2) sc_plain.nd rfl (by first | exact Or.inl rfl | exact Or.inr rfl))) (gms_cons (gm_name (i := 3) (pg_name (i := 3) sc_plain.nd rfl (by first | exact Or.inl rfl | exact Or.inr rfl))) (gms_nil))) rfl) (sms_one (sm_setIx (s_any (hu1 hr)) (em_tup (am_cons (em_str) (am_cons (em_bin o_add (em_v (pv 2)) (em_int)) (am_nil)))) (em_v (pv 1)) (em_v (pv 3)))))
    (sms_one (sm_ret (em_call A_exchanged rfl hr tk rfl (am_cons (em_v (pv 0)) (am_cons (em_v (pv 1)) (am_nil)))))))
theorem sc_alike : FnScope ["one", "other"] ["one", "other"] (defScope s_alike) := ⟨rfl, rfl, rfl, by decide +kernel, rfl, by decide +kernel, by decide +kernel⟩
theorem ok_alike (F : FunD K "alike" "alike" (defArgs s_alike) (defBody s_alike) (defScope s_alike) [] [] f fd) (B : Blt mg) {f_plain : Fm} (A_plain : FnAt P w K mg base n "plain" ["tree"] f_plain) :
    FnOk P w K mg base (L2.CX P w) (n + 1) f fd ["one", "other"] (spM K 2 (kPure.f (runM 2 2 (m_alike f_plain)))) :=
  def_ok (N := ["one", "other"]) kPure F sc_alike fun cdv A outer s H E W hr tk =>
    sms_one (sm_ret (em_cmp (o_eq (hu195 hr)) (em_call A_plain rfl hr tk rfl (am_cons (em_v (pv 0)) (am_nil))) (em_call A_plain rfl hr tk rfl (am_cons (em_v (pv 1)) (am_nil))) (nomark _)))
theorem sc__law_cell_at : FnScope ["script", "k"] ["script", "k"] (defScope s__law_cell_at) := ⟨rfl, rfl, rfl, by decide +kernel, rfl, by decide +kernel, by decide +kernel⟩
theorem ok__law_cell_at (F : FunD K "_law_cell_at" "_law_cell_at" (defArgs s__law_cell_at) (defBody s__law_cell_at) (defScope s__law_cell_at) [] [] f fd) (B : Blt mg) :
    FnOk P w K mg base (L2.CX P w) (n + 1) f fd ["script", "k"] (spM K 2 (kPure.f (runM 2 2 (m__law_cell_at)))) :=
  def_ok (N := ["script", "k"]) kPure F sc__law_cell_at fun cdv A outer s H E W hr tk =>
    sms_cons (sm_if (tm_cmp o_lt (em_v (pv 1)) (em_callB c_len rfl B.z_len (by decide +kernel) (am_cons (em_v (pv 0)) (am_nil))) (nomark _)) (sms_one (sm_ret (em_ix (o_ix (hu1 hr)) (em_v (pv 0)) (em_v (pv 1)) (fun _ _ => rfl)))) (sms_nil))
    (sms_one (sm_ret (em_int)))
theorem sc__law_draw : FnScope ["cell", "k", "many", "number"] ["cell", "k", "many"] (defScope s__law_draw) := ⟨rfl, rfl, rfl, by decide +kernel, rfl, by decide +kernel, by decide +kernel⟩
theorem ok__law_draw (F : FunD K "_law_draw" "_law_draw" (defArgs s__law_draw) (defBody s__law_draw) (defScope s__law_draw) [] [] f fd) (B : Blt mg) :
    FnOk P w K mg base (L2.CX P w) (n + 1) f fd ["cell", "k", "many"] (spM K 3 (kPure.f (runM 3 4 (m__law_draw)))) :=
  def_ok (N := ["cell", "k", "many", "number"]) kPure F sc__law_draw fun cdv A outer s H E W hr tk =>
    sms_cons (sm_set (i := 3) sc__law_draw.nd rfl (by first | exact Or.inl rfl | exact Or.inr rfl) (em_bin o_mod (em_bin o_mulX (em_bin o_add (em_v (pv 0)) (em_int)) (em_bin o_add (em_int) (em_bin o_mulX (em_bin o_mulX (em_int) (em_v (pv 1))) (em_v (pv 1))))) (em_int)))
    (sms_one (sm_ret (em_bin o_mod (em_bin o_fdiv (em_bin o_mod (em_bin o_mulX (em_v (pv 3)) (em_v (pv 3))) (em_int)) (em_int)) (em_v (pv 2)))))
theorem sc__law_alike : FnScope ["found", "due", "k"] ["found", "due"] (defScope s__law_alike) := ⟨rfl, rfl, rfl, by decide +kernel, rfl, by decide +kernel, by decide +kernel⟩
theorem ok__law_alike (F : FunD K "_law_alike" "_law_alike" (defArgs s__law_alike) (defBody s__law_alike) (defScope s__law_alike) [] [] f fd) (B : Blt mg) {f__law_alike : Fm} (A__law_alike : FnAt P w K mg base n "_law_alike" ["found", "due"] f__law_alike) :
    FnOk P w K mg base (L2.CX P w) (n + 1) f fd ["found", "due"] (spM K 2 (kPure.f (runM 2 3 (m__law_alike f__law_alike)))) :=
  def_ok (N := ["found", "due", "k"]) kPure F sc__law_alike fun cdv A outer s H E W hr tk =>
    sms_cons (sm_if (tm_tru (em_isi (T := "bool") rfl (by decide) rfl B.z_isinstance rfl B.z_bool (by decide +kernel) (em_v (pv 1))) rfl) (sms_one (sm_ret (em_and (em_isi (T := "bool") rfl (by decide) rfl B.z_isinstance rfl B.z_bool (by decide +kernel) (em_v (pv 0))) (em_one (em_cmp (o_eq (hu195 hr)) (em_v (pv 0)) (em_v (pv 1)) (nomark _)))))) (sms_nil))
    (sms_cons (sm_if (tm_tru (em_isi (T := "int") rfl (by decide) rfl B.z_isinstance rfl B.z_int (by decide +kernel) (em_v (pv 1))) rfl) (sms_one (sm_ret (em_and (em_isi (T := "int") rfl (by decide) rfl B.z_isinstance rfl B.z_int (by decide +kernel) (em_v (pv 0))) (em_and (em_not (em_isi (T := "bool") rfl (by decide) rfl B.z_isinstance rfl B.z_bool (by decide +kernel) (em_v (pv 0)))) (em_one (em_cmp (o_eq (hu195 hr)) (em_v (pv 0)) (em_v (pv 1)) (nomark _))))))) (sms_nil))
    (sms_cons (sm_if (tm_tru (em_isi (T := "str") rfl (by decide) rfl B.z_isinstance rfl B.z_str (by decide +kernel) (em_v (pv 1))) rfl) (sms_one (sm_ret (em_and (em_isi (T := "str") rfl (by decide) rfl B.z_isinstance rfl B.z_str (by decide +kernel) (em_v (pv 0))) (em_one (em_cmp (o_eq (hu195 hr)) (em_v (pv 0)) (em_v (pv 1)) (nomark _)))))) (sms_nil))
    (sms_cons (sm_if (tm_tru (em_isi (T := "tuple") rfl (by decide) rfl B.z_isinstance rfl B.z_tuple (by decide +kernel) (em_v (pv 1))) rfl) (sms_one (sm_if (tm_not (tm_tru (em_isi (T := "tuple") rfl (by decide) rfl B.z_isinstance rfl B.z_tuple (by decide +kernel) (em_v (pv 0))) rfl)) (sms_one (sm_ret (em_bl))) (sms_nil))) (sms_one (sm_if (tm_not (tm_tru (em_isi (T := "list") rfl (by decide) rfl B.z_isinstance rfl B.z_list (by decide +kernel) (em_v (pv 0))) rfl)) (sms_one (sm_ret (em_bl))) (sms_nil))))
    (sms_cons (sm_if (tm_cmp (o_ne (hu195 hr)) (em_callB c_len rfl B.z_len (by decide +kernel) (am_cons (em_v (pv 0)) (am_nil))) (em_callB c_len rfl B.z_len (by decide +kernel) (am_cons (em_v (pv 1)) (am_nil))) (nomark _)) (sms_one (sm_ret (em_bl))) (sms_nil))
    (sms_cons (sm_for (passes_of rfl) rfl (im_rng1 (by rfl) B.z_range (am_cons (em_callB c_len rfl B.z_len (by decide +kernel) (am_cons (em_v (pv 1)) (am_nil))) (am_nil))) (gm_name (i := 2) (pg_name (i := 2) sc__law_alike.nd rfl (by first | exact Or.inl rfl | exact Or.inr rfl))) (sms_one (sm_if (tm_not (tm_tru (em_call A__law_alike rfl hr tk rfl (am_cons (em_ix (o_ix (hu1 hr)) (em_v (pv 0)) (em_v (pv 2)) (fun _ _ => rfl)) (am_cons (em_ix (o_ix (hu1 hr)) (em_v (pv 1)) (em_v (pv 2)) (fun _ _ => rfl)) (am_nil)))) rfl)) (sms_one (sm_ret (em_bl))) (sms_nil))))
    (sms_one (sm_ret (em_bl))))))))
theorem sc__law_names : FnScope ["cell", "some", "size", "at", "names", "j", "many", "here", "step", "k", "sign"] ["cell"] (defScope s__law_names) := ⟨rfl, rfl, rfl, by decide +kernel, rfl, by decide +kernel, by decide +kernel⟩
theorem ok__law_names (F : FunD K "_law_names" "_law_names" (defArgs s__law_names) (defBody s__law_names) (defScope s__law_names) [] [] f fd) (B : Blt mg) {f__law_draw : Fm} (A__law_draw : FnAt P w K mg base n "_law_draw" ["cell", "k", "many"] f__law_draw) :
    FnOk P w K mg base (L2.CX P w) (n + 1) f fd ["cell"] (spM K 1 (kNew.f (runM 1 11 (m__law_names f__law_draw)))) :=
  def_ok (N := ["cell", "some", "size", "at", "names", "j", "many", "here", "step", "k", "sign"]) kNew F sc__law_names fun cdv A outer s H E W hr tk =>
    sms_cons (sm_set (i := 1) sc__law_names.nd rfl (by first | exact Or.inl rfl | exact Or.inr rfl) (em_str))
    (sms_cons (sm_set (i := 2) sc__law_names.nd rfl (by first | exact Or.inl rfl | exact Or.inr rfl) (em_bin o_add (em_int) (em_call A__law_draw rfl hr tk rfl (am_cons (em_v (pv 0)) (am_cons (em_int) (am_cons (em_int) (am_nil)))))))
    (sms_cons (sm_set (i := 3) sc__law_names.nd rfl (by first | exact Or.inl rfl | exact Or.inr rfl) (em_call A__law_draw rfl hr tk rfl (am_cons (em_v (pv 0)) (am_cons (em_int) (am_cons (em_v (pv 2)) (am_nil))))))
    (sms_cons (sm_set (i := 4) sc__law_names.nd rfl (by first | exact Or.inl rfl | exact Or.inr rfl) (em_lst (am_cons (em_str) (am_cons (em_str) (am_cons (em_str) (am_cons (em_str) (am_nil)))))))
    (sms_cons (sm_for (passes_of rfl) rfl (im_rng1 (by rfl) B.z_range (am_cons (em_v (pv 2)) (am_nil))) (gm_name (i := 5) (pg_name (i := 5) sc__law_names.nd rfl (by first | exact Or.inl rfl | exact Or.inr rfl))) (sms_cons (sm_set (i := 6) sc__law_names.nd rfl (by first | exact Or.inl rfl | exact Or.inr rfl) (em_bin o_add (em_int) (em_bin o_mulX (em_int) (em_callTy c_int rfl B.z_int (by decide +kernel) (am_cons (em_cmp o_gt (em_v (pv 5)) (em_int) (nomark _)) (am_nil))))))
    (sms_cons (sm_set (i := 7) sc__law_names.nd rfl (by first | exact Or.inl rfl | exact Or.inr rfl) (em_call A__law_draw rfl hr tk rfl (am_cons (em_v (pv 0)) (am_cons (em_bin o_add (em_int) (em_v (pv 5))) (am_cons (em_v (pv 6)) (am_nil))))))
    (sms_cons (sm_set (i := 8) sc__law_names.nd rfl (by first | exact Or.inl rfl | exact Or.inr rfl) (em_callTy c_int rfl B.z_int (by decide +kernel) (am_cons (em_cmp (o_eq (hu195 hr)) (em_v (pv 5)) (em_v (pv 3)) (nomark _)) (am_nil))))
    (sms_one (sm_for (passes_of rfl) rfl (im_rng1 (by rfl) B.z_range (am_cons (em_int) (am_nil))) (gm_name (i := 9) (pg_name (i := 9) sc__law_names.nd rfl (by first | exact Or.inl rfl | exact Or.inr rfl))) (sms_cons (sm_set (i := 10) sc__law_names.nd rfl (by first | exact Or.inl rfl | exact Or.inr rfl) (em_ix (o_ix (hu1 hr)) (em_v (pv 1)) (em_bin o_mod (em_bin o_add (em_v (pv 7)) (em_bin o_mulX (em_v (pv 9)) (em_v (pv 8)))) (em_v (pv 6))) (fun _ _ => rfl)))
    (sms_one (sm_setIx (s_any (hu1 hr)) (em_bin o_add (em_ix (o_ix (hu1 hr)) (em_v (pv 4)) (em_v (pv 9)) (fun _ _ => rfl)) (em_v (pv 10))) (em_v (pv 4)) (em_v (pv 9)))))))))))
    (sms_one (sm_ret (em_v (pv 4))))))))
theorem sc__law_leaf : FnScope ["cell", "first", "names", "shares", "numbers"] ["cell", "first", "names", "shares"] (defScope s__law_leaf) := ⟨rfl, rfl, rfl, by decide +kernel, rfl, by decide +kernel, by decide +kernel⟩
theorem ok__law_leaf (F : FunD K "_law_leaf" "_law_leaf" (defArgs s__law_leaf) (defBody s__law_leaf) (defScope s__law_leaf) [] [] f fd) (B : Blt mg) {f__law_draw : Fm} (A__law_draw : FnAt P w K mg base n "_law_draw" ["cell", "k", "many"] f__law_draw) :
    FnOk P w K mg base (L2.CX P w) (n + 1) f fd ["cell", "first", "names", "shares"] (spM K 4 (kPure.f (runM 4 5 (m__law_leaf f__law_draw)))) :=
  def_ok (N := ["cell", "first", "names", "shares", "numbers"]) kPure F sc__law_leaf fun cdv A outer s H E W hr tk =>
    sms_cons (sm_if (tm_cmp o_lt (em_call A__law_draw rfl hr tk rfl (am_cons (em_v (pv 0)) (am_cons (em_int) (am_cons (em_int) (am_nil))))) (em_v (pv 3)) (nomark _)) (sms_cons (sm_set (i := 4) sc__law_leaf.nd rfl (by first | exact Or.inl rfl | exact Or.inr rfl) (em_lst (am_cons (em_int) (am_cons (em_int) (am_cons (em_int) (am_cons (em_bin o_pow (em_int) (em_int)) (am_cons (em_bin o_add (em_int) (em_bin o_mod (em_v (pv 1)) (em_bin o_pow (em_int) (em_int)))) (am_nil))))))))
    (sms_one (sm_ret (em_tup (am_cons (em_str) (am_cons (em_ix (o_ix (hu1 hr)) (em_v (pv 4)) (em_call A__law_draw rfl hr tk rfl (am_cons (em_v (pv 0)) (am_cons (em_int) (am_cons (em_int) (am_nil))))) (fun _ _ => rfl)) (am_nil))))))) (sms_nil))
    (sms_one (sm_ret (em_tup (am_cons (em_str) (am_cons (em_ix (o_ix (hu1 hr)) (em_v (pv 2)) (em_call A__law_draw rfl hr tk rfl (am_cons (em_v (pv 0)) (am_cons (em_int) (am_cons (em_int) (am_nil))))) (fun _ _ => rfl)) (am_cons (em_tup (am_nil)) (am_nil)))))))
theorem sc__law_tree : FnScope ["cells", "first", "shares", "names", "frames", "cell", "way", "top", "parts", "whole", "time"] ["cells", "first", "shares"] (defScope s__law_tree) := ⟨rfl, rfl, rfl, by decide +kernel, rfl, by decide +kernel, by decide +kernel⟩
theorem ok__law_tree (F : FunD K "_law_tree" "_law_tree" (defArgs s__law_tree) (defBody s__law_tree) (defScope s__law_tree) [] [] f fd) (B : Blt mg) {f__law_draw f__law_leaf f__law_names : Fm} (A__law_draw : FnAt P w K mg base n "_law_draw" ["cell", "k", "many"] f__law_draw) (A__law_leaf : FnAt P w K mg base n "_law_leaf" ["cell", "first", "names", "shares"] f__law_leaf) (A__law_names : FnAt P w K mg base n "_law_names" ["cell"] f__law_names) :
    FnOk P w K mg base (L2.CX P w) (n + 1) f fd ["cells", "first", "shares"] (spM K 3 (kPure.f (runM 3 11 (m__law_tree f__law_draw f__law_leaf f__law_names)))) :=
  def_ok (N := ["cells", "first", "shares", "names", "frames", "cell", "way", "top", "parts", "whole", "time"]) kPure F sc__law_tree fun cdv A outer s H E W hr tk =>
    sms_cons (sm_set (i := 3) sc__law_tree.nd rfl (by first | exact Or.inl rfl | exact Or.inr rfl) (em_call A__law_names rfl hr tk rfl (am_cons (em_v (pv 1)) (am_nil))))
    (sms_cons (sm_set (i := 4) sc__law_tree.nd rfl (by first | exact Or.inl rfl | exact Or.inr rfl) (em_lst (am_cons (em_tup (am_cons (em_ix (o_ix (hu1 hr)) (em_v (pv 3)) (em_int) (fun _ _ => rfl)) (am_cons (em_lst (am_nil)) (am_nil)))) (am_nil))))
    (sms_cons (sm_for (passes_of rfl) rfl (im_val rfl (em_slice rfl (em_v (pv 0)) (pm_no) (pm_some (em_int)))) (gm_name (i := 5) (pg_name (i := 5) sc__law_tree.nd rfl (by first | exact Or.inl rfl | exact Or.inr rfl))) (sms_cons (sm_set (i := 6) sc__law_tree.nd rfl (by first | exact Or.inl rfl | exact Or.inr rfl) (em_call A__law_draw rfl hr tk rfl (am_cons (em_v (pv 5)) (am_cons (em_int) (am_cons (em_int) (am_nil))))))
    (sms_one (sm_if (PW.pt (tm_or (tm_cmp (o_eq (hu195 hr)) (em_callB c_len rfl B.z_len (by decide +kernel) (am_cons (em_ix (o_ix (hu1 hr)) (em_ix (o_ix (hu1 hr)) (em_v (pv 4)) (em_neg (em_int)) (fun _ _ => rfl)) (em_int) (fun _ _ => rfl)) (am_nil))) (em_int) (nomark _)) (tm_or1 (PW.pt (tm_and (tm_cmp (o_eq (hu195 hr)) (em_v (pv 6)) (em_int) (nomark _)) (tm_and1 (tm_cmp o_gt (em_callB c_len rfl B.z_len (by decide +kernel) (am_cons (em_v (pv 4)) (am_nil))) (em_int) (nomark _)))))))) (sms_cons (sm_asg (em_bm0 rfl PySem.F.plainAttrs_list PySem.F.slot_list_pop PySem.F.type_list_pop k_pop (fun _ _ _ _ _ => ckList_ty) (em_v (pv 4))) (gm_tup rfl (gms_cons (gm_name (i := 7) (pg_name (i := 7) sc__law_tree.nd rfl (by first | exact Or.inl rfl | exact Or.inr rfl))) (gms_cons (gm_name (i := 8) (pg_name (i := 8) sc__law_tree.nd rfl (by first | exact Or.inl rfl | exact Or.inr rfl))) (gms_nil))) rfl))
    (sms_cons (sm_set (i := 9) sc__law_tree.nd rfl (by first | exact Or.inl rfl | exact Or.inr rfl) (em_tup (am_cons (em_str) (am_cons (em_v (pv 7)) (am_cons (em_callTy c_tuple rfl B.z_tuple (by decide +kernel) (am_cons (em_v (pv 8)) (am_nil))) (am_nil))))))
    (sms_one (sm_if (tm_cmp (o_eq (hu195 hr)) (em_v (pv 4)) (em_lst (am_nil)) (nomark _)) (sms_one (sm_expr (em_bm rfl PySem.F.plainAttrs_list PySem.F.slot_list_append PySem.F.type_list_append k_append (fun _ _ _ _ _ => ckList_ty) (em_v (pv 4)) (am_cons (em_tup (am_cons (em_ix (o_ix (hu1 hr)) (em_v (pv 3)) (em_call A__law_draw rfl hr tk rfl (am_cons (em_v (pv 5)) (am_cons (em_int) (am_cons (em_int) (am_nil))))) (fun _ _ => rfl)) (am_cons (em_lst (am_cons (em_v (pv 9)) (am_nil))) (am_nil)))) (am_nil))))) (sms_one (sm_expr (em_bm rfl PySem.F.plainAttrs_list PySem.F.slot_list_append PySem.F.type_list_append k_append (fun _ _ _ _ _ => ckList_ty) (em_ix (o_ix (hu1 hr)) (em_ix (o_ix (hu1 hr)) (em_v (pv 4)) (em_neg (em_int)) (fun _ _ => rfl)) (em_int) (fun _ _ => rfl)) (am_cons (em_v (pv 9)) (am_nil))))))))) (sms_one (sm_if (PW.pt (tm_and (tm_cmp o_lt (em_v (pv 6)) (em_int) (nomark _)) (tm_and1 (tm_cmp o_lt (em_callB c_len rfl B.z_len (by decide +kernel) (am_cons (em_v (pv 4)) (am_nil))) (em_int) (nomark _))))) (sms_one (sm_expr (em_bm rfl PySem.F.plainAttrs_list PySem.F.slot_list_append PySem.F.type_list_append k_append (fun _ _ _ _ _ => ckList_ty) (em_v (pv 4)) (am_cons (em_tup (am_cons (em_ix (o_ix (hu1 hr)) (em_v (pv 3)) (em_call A__law_draw rfl hr tk rfl (am_cons (em_v (pv 5)) (am_cons (em_int) (am_cons (em_int) (am_nil))))) (fun _ _ => rfl)) (am_cons (em_lst (am_nil)) (am_nil)))) (am_nil))))) (sms_one (sm_for (passes_of rfl) rfl (im_rng1 (by rfl) B.z_range (am_cons (em_callB (c_min2 rfl) rfl B.z_min (by decide +kernel) (am_cons (em_bin o_add (em_int) (em_call A__law_draw rfl hr tk rfl (am_cons (em_v (pv 5)) (am_cons (em_int) (am_cons (em_int) (am_nil)))))) (am_cons (em_bin o_sub (em_int) (em_callB c_len rfl B.z_len (by decide +kernel) (am_cons (em_ix (o_ix (hu1 hr)) (em_ix (o_ix (hu1 hr)) (em_v (pv 4)) (em_neg (em_int)) (fun _ _ => rfl)) (em_int) (fun _ _ => rfl)) (am_nil)))) (am_nil)))) (am_nil))) (gm_name (i := 10) (pg_name (i := 10) sc__law_tree.nd rfl (by first | exact Or.inl rfl | exact Or.inr rfl))) (sms_one (sm_expr (em_bm rfl PySem.F.plainAttrs_list PySem.F.slot_list_append PySem.F.type_list_append k_append (fun _ _ _ _ _ => ckList_ty) (em_ix (o_ix (hu1 hr)) (em_ix (o_ix (hu1 hr)) (em_v (pv 4)) (em_neg (em_int)) (fun _ _ => rfl)) (em_int) (fun _ _ => rfl)) (am_cons (em_call A__law_leaf rfl hr tk rfl (am_cons (em_bin o_add (em_v (pv 5)) (em_v (pv 10))) (am_cons (em_v (pv 1)) (am_cons (em_v (pv 3)) (am_cons (em_v (pv 2)) (am_nil)))))) (am_nil)))))))))))))
    (sms_cons (sm_while FUEL (passes_of rfl) (tm_cmp o_gt (em_callB c_len rfl B.z_len (by decide +kernel) (am_cons (em_v (pv 4)) (am_nil))) (em_int) (nomark _)) (sms_cons (sm_asg (em_bm0 rfl PySem.F.plainAttrs_list PySem.F.slot_list_pop PySem.F.type_list_pop k_pop (fun _ _ _ _ _ => ckList_ty) (em_v (pv 4))) (gm_tup rfl (gms_cons (gm_name (i := 7) (pg_name (i := 7) sc__law_tree.nd rfl (by first | exact Or.inl rfl | exact Or.inr rfl))) (gms_cons (gm_name (i := 8) (pg_name (i := 8) sc__law_tree.nd rfl (by first | exact Or.inl rfl | exact Or.inr rfl))) (gms_nil))) rfl))
    (sms_one (sm_expr (em_bm rfl PySem.F.plainAttrs_list PySem.F.slot_list_append PySem.F.type_list_append k_append (fun _ _ _ _ _ => ckList_ty) (em_ix (o_ix (hu1 hr)) (em_ix (o_ix (hu1 hr)) (em_v (pv 4)) (em_neg (em_int)) (fun _ _ => rfl)) (em_int) (fun _ _ => rfl)) (am_cons (em_tup (am_cons (em_str) (am_cons (em_v (pv 7)) (am_cons (em_callTy c_tuple rfl B.z_tuple (by decide +kernel) (am_cons (em_v (pv 8)) (am_nil))) (am_nil))))) (am_nil)))))))
    (sms_one (sm_ret (em_tup (am_cons (em_str) (am_cons (em_ix (o_ix (hu1 hr)) (em_ix (o_ix (hu1 hr)) (em_v (pv 4)) (em_int) (fun _ _ => rfl)) (em_int) (fun _ _ => rfl)) (am_cons (em_callTy c_tuple rfl B.z_tuple (by decide +kernel) (am_cons (em_ix (o_ix (hu1 hr)) (em_ix (o_ix (hu1 hr)) (em_v (pv 4)) (em_int) (fun _ _ => rfl)) (em_int) (fun _ _ => rfl)) (am_nil))) (am_nil))))))))))
theorem sc__law_places : FnScope ["tree", "found", "waiting", "place", "here", "k"] ["tree"] (defScope s__law_places) := ⟨rfl, rfl, rfl, by decide +kernel, rfl, by decide +kernel, by decide +kernel⟩
theorem ok__law_places (F : FunD K "_law_places" "_law_places" (defArgs s__law_places) (defBody s__law_places) (defScope s__law_places) [] [] f fd) (B : Blt mg) :
    FnOk P w K mg base (L2.CX P w) (n + 1) f fd ["tree"] (spM K 1 (kNew.f (runM 1 6 (m__law_places)))) :=
  def_ok (N := ["tree", "found", "waiting", "place", "here", "k"]) kNew F sc__law_places fun cdv A outer s H E W hr tk =>
    sms_cons (sm_set (i := 1) sc__law_places.nd rfl (by first | exact Or.inl rfl | exact Or.inr rfl) (em_lst (am_nil)))
    (sms_cons (sm_set (i := 2) sc__law_places.nd rfl (by first | exact Or.inl rfl | exact Or.inr rfl) (em_lst (am_cons (em_tup (am_cons (em_tup (am_nil)) (am_cons (em_v (pv 0)) (am_nil)))) (am_nil))))
    (sms_cons (sm_while FUEL (passes_of rfl) (tm_cmp (o_ne (hu195 hr)) (em_v (pv 2)) (em_lst (am_nil)) (nomark _)) (sms_cons (sm_asg (em_bm0 rfl PySem.F.plainAttrs_list PySem.F.slot_list_pop PySem.F.type_list_pop k_pop (fun _ _ _ _ _ => ckList_ty) (em_v (pv 2))) (gm_tup rfl (gms_cons (gm_name (i := 3) (pg_name (i := 3) sc__law_places.nd rfl (by first | exact Or.inl rfl | exact Or.inr rfl))) (gms_cons (gm_name (i := 4) (pg_name (i := 4) sc__law_places.nd rfl (by first | exact Or.inl rfl | exact Or.inr rfl))) (gms_nil))) rfl))
    (sms_cons (sm_expr (em_bm rfl PySem.F.plainAttrs_list PySem.F.slot_list_append PySem.F.type_list_append k_append (fun _ _ _ _ _ => ckList_ty) (em_v (pv 1)) (am_cons (em_tup (am_cons (em_v (pv 3)) (am_cons (em_v (pv 4)) (am_nil)))) (am_nil))))
    (sms_one (sm_if (tm_cmp (o_eq (hu195 hr)) (em_ix (o_ix (hu1 hr)) (em_v (pv 4)) (em_int) (fun _ _ => rfl)) (em_str) (nomark _)) (sms_one (sm_for (passes_of rfl) rfl (im_rng3 (by rfl) B.z_range (am_cons (em_bin o_sub (em_callB c_len rfl B.z_len (by decide +kernel) (am_cons (em_ix (o_ix (hu1 hr)) (em_v (pv 4)) (em_int) (fun _ _ => rfl)) (am_nil))) (em_int)) (am_cons (em_neg (em_int)) (am_cons (em_neg (em_int)) (am_nil))))) (gm_name (i := 5) (pg_name (i := 5) sc__law_places.nd rfl (by first | exact Or.inl rfl | exact Or.inr rfl))) (sms_one (sm_expr (em_bm rfl PySem.F.plainAttrs_list PySem.F.slot_list_append PySem.F.type_list_append k_append (fun _ _ _ _ _ => ckList_ty) (em_v (pv 2)) (am_cons (em_tup (am_cons (em_bin o_add (em_v (pv 3)) (em_tup (am_cons (em_v (pv 5)) (am_nil)))) (am_cons (em_ix (o_ix (hu1 hr)) (em_ix (o_ix (hu1 hr)) (em_v (pv 4)) (em_int) (fun _ _ => rfl)) (em_v (pv 5)) (fun _ _ => rfl)) (am_nil)))) (am_nil))))))) (sms_nil))))))
    (sms_one (sm_ret (em_v (pv 1))))))
theorem sc__law_exchanged : FnScope ["tree", "filling", "part"] ["tree", "filling"] (defScope s__law_exchanged) := ⟨rfl, rfl, rfl, by decide +kernel, rfl, by decide +kernel, by decide +kernel⟩
theorem ok__law_exchanged (F : FunD K "_law_exchanged" "_law_exchanged" (defArgs s__law_exchanged) (defBody s__law_exchanged) (defScope s__law_exchanged) [] [] f fd) (B : Blt mg) {f__law_exchanged : Fm} (A__law_exchanged : FnAt P w K mg base n "_law_exchanged" ["tree", "filling"] f__law_exchanged) :
    FnOk P w K mg base (L2.CX P w) (n + 1) f fd ["tree", "filling"] (spM K 2 (kPure.f (runM 2 3 (m__law_exchanged f__law_exchanged)))) :=
  def_ok (N := ["tree", "filling", "part"]) kPure F sc__law_exchanged fun cdv A outer s H E W hr tk =>
    sms_cons (sm_if (tm_cmp (o_eq (hu195 hr)) (em_ix (o_ix (hu1 hr)) (em_v (pv 0)) (em_int) (fun _ _ => rfl)) (em_str) (nomark _)) (sms_one (sm_ret (em_bm rfl PySem.F.plainAttrs_dict PySem.F.slot_dict_get PySem.F.type_dict_get (k_get (hu1 hr)) (fun _ _ _ _ _ => ckDct_ty) (em_v (pv 1)) (am_cons (em_ix (o_ix (hu1 hr)) (em_v (pv 0)) (em_int) (fun _ _ => rfl)) (am_cons (em_v (pv 0)) (am_nil)))))) (sms_nil))
    (sms_one (sm_ret (em_tup (am_cons (em_str) (am_cons (em_ix (o_ix (hu1 hr)) (em_v (pv 0)) (em_int) (fun _ _ => rfl)) (am_cons (em_callTy c_tuple rfl B.z_tuple (by decide +kernel) (am_cons (em_lc (own := [("part", 2)]) rfl sc__law_exchanged.nd (im_val rfl (em_ix (o_ix (hu1 hr)) (em_v (pv 0)) (em_int) (fun _ _ => rfl))) (blkOk_by (own := [("part", 2)]) (N := ["tree", "filling", "part"]) (sc := defScope s__law_exchanged) (by decide +kernel)) (ct_name _ 2) (fun _ _ _ _ _ => pg_name (i := 2) sc__law_exchanged.nd rfl (Or.inl rfl)) (fun _ _ _ _ _ => tms_nil) (fun _ _ _ _ _ => em_call A__law_exchanged rfl hr takes0 rfl (am_cons (em_v (pv 2)) (am_cons (em_v (pv 1)) (am_nil))))) (am_nil))) (am_nil)))))))
theorem sc__law_go_together : FnScope ["one", "other", "ones", "others", "there", "back", "place", "here", "k", "left", "right"] ["one", "other"] (defScope s__law_go_together) := ⟨rfl, rfl, rfl, by decide +kernel, rfl, by decide +kernel, by decide +kernel⟩
theorem ok__law_go_together (F : FunD K "_law_go_together" "_law_go_together" (defArgs s__law_go_together) (defBody s__law_go_together) (defScope s__law_go_together) [] [] f fd) (B : Blt mg) {f__law_places : Fm} (A__law_places : FnAt P w K mg base n "_law_places" ["tree"] f__law_places) :
    FnOk P w K mg base (L2.CX P w) (n + 1) f fd ["one", "other"] (spM K 2 (kPure.f (runM 2 11 (m__law_go_together f__law_places)))) :=
  def_ok (N := ["one", "other", "ones", "others", "there", "back", "place", "here", "k", "left", "right"]) kPure F sc__law_go_together fun cdv A outer s H E W hr tk =>
    sms_cons (sm_set (i := 2) sc__law_go_together.nd rfl (by first | exact Or.inl rfl | exact Or.inr rfl) (em_call A__law_places rfl hr tk rfl (am_cons (em_v (pv 0)) (am_nil))))
    (sms_cons (sm_set (i := 3) sc__law_go_together.nd rfl (by first | exact Or.inl rfl | exact Or.inr rfl) (em_call A__law_places rfl hr tk rfl (am_cons (em_v (pv 1)) (am_nil))))
    (sms_cons (sm_set (i := 4) sc__law_go_together.nd rfl (by first | exact Or.inl rfl | exact Or.inr rfl) (em_newD))
    (sms_cons (sm_set (i := 5) sc__law_go_together.nd rfl (by first | exact Or.inl rfl | exact Or.inr rfl) (em_newD))
    (sms_cons (sm_if (tm_cmp (o_ne (hu195 hr)) (em_lc (own := [("place", 6), ("here", 7)]) rfl sc__law_go_together.nd (im_val rfl (em_v (pv 2))) (blkOk_by (own := [("place", 6), ("here", 7)]) (N := ["one", "other", "ones", "others", "there", "back", "place", "here", "k", "left", "right"]) (sc := defScope s__law_go_together) (by decide +kernel)) (ct_two _ (i := 6) (j := 7) (by decide)) (fun _ _ _ _ _ => pg_tup rfl (pgs_cons (pg_name (i := 6) sc__law_go_together.nd rfl (Or.inl rfl)) (pgs_cons (pg_name (i := 7) sc__law_go_together.nd rfl (Or.inl rfl)) pgs_nil))) (fun _ _ _ _ _ => tms_nil) (fun _ _ _ _ _ => em_v (pv 6))) (em_lc (own := [("place", 6), ("here", 7)]) rfl sc__law_go_together.nd (im_val rfl (em_v (pv 3))) (blkOk_by (own := [("place", 6), ("here", 7)]) (N := ["one", "other", "ones", "others", "there", "back", "place", "here", "k", "left", "right"]) (sc := defScope s__law_go_together) (by decide +kernel)) (ct_two _ (i := 6) (j := 7) (by decide)) (fun _ _ _ _ _ => pg_tup rfl (pgs_cons (pg_name (i := 6) sc__law_go_together.nd rfl (Or.inl rfl)) (pgs_cons (pg_name (i := 7) sc__law_go_together.nd rfl (Or.inl rfl)) pgs_nil))) (fun _ _ _ _ _ => tms_nil) (fun _ _ _ _ _ => em_v (pv 6))) (nomark _)) (sms_one (sm_ret (em_bl))) (sms_nil))
    (sms_cons (sm_for (passes_of rfl) rfl (im_rng1 (by rfl) B.z_range (am_cons (em_callB c_len rfl B.z_len (by decide +kernel) (am_cons (em_v (pv 2)) (am_nil))) (am_nil))) (gm_name (i := 8) (pg_name (i := 8) sc__law_go_together.nd rfl (by first | exact Or.inl rfl | exact Or.inr rfl))) (sms_cons (sm_set (i := 9) sc__law_go_together.nd rfl (by first | exact Or.inl rfl | exact Or.inr rfl) (em_ix (o_ix (hu1 hr)) (em_ix (o_ix (hu1 hr)) (em_v (pv 2)) (em_v (pv 8)) (fun _ _ => rfl)) (em_int) (fun _ _ => rfl)))
    (sms_cons (sm_set (i := 10) sc__law_go_together.nd rfl (by first | exact Or.inl rfl | exact Or.inr rfl) (em_ix (o_ix (hu1 hr)) (em_ix (o_ix (hu1 hr)) (em_v (pv 3)) (em_v (pv 8)) (fun _ _ => rfl)) (em_int) (fun _ _ => rfl)))
    (sms_cons (sm_if (tm_cmp (o_ne (hu195 hr)) (em_ix (o_ix (hu1 hr)) (em_v (pv 9)) (em_int) (fun _ _ => rfl)) (em_ix (o_ix (hu1 hr)) (em_v (pv 10)) (em_int) (fun _ _ => rfl)) (nomark _)) (sms_one (sm_ret (em_bl))) (sms_nil))
    (sms_cons (sm_if (PW.pt (tm_and (tm_cmp (o_eq (hu195 hr)) (em_ix (o_ix (hu1 hr)) (em_v (pv 9)) (em_int) (fun _ _ => rfl)) (em_str) (nomark _)) (tm_and1 (PW.pt (tm_or (tm_cmp (o_ne (hu195 hr)) (em_ix (o_ix (hu1 hr)) (em_v (pv 9)) (em_int) (fun _ _ => rfl)) (em_ix (o_ix (hu1 hr)) (em_v (pv 10)) (em_int) (fun _ _ => rfl)) (nomark _)) (tm_or1 (tm_cmp (o_ne (hu195 hr)) (em_callB c_len rfl B.z_len (by decide +kernel) (am_cons (em_ix (o_ix (hu1 hr)) (em_v (pv 9)) (em_int) (fun _ _ => rfl)) (am_nil))) (em_callB c_len rfl B.z_len (by decide +kernel) (am_cons (em_ix (o_ix (hu1 hr)) (em_v (pv 10)) (em_int) (fun _ _ => rfl)) (am_nil))) (nomark _)))))))) (sms_one (sm_ret (em_bl))) (sms_nil))
    (sms_one (sm_if (tm_cmp (o_eq (hu195 hr)) (em_ix (o_ix (hu1 hr)) (em_v (pv 9)) (em_int) (fun _ _ => rfl)) (em_str) (nomark _)) (sms_one (sm_if (PW.pt (tm_or (tm_cmp (o_ne (hu195 hr)) (em_bm rfl PySem.F.plainAttrs_dict PySem.F.slot_dict_setdefault PySem.F.type_dict_setdefault k_setd (fun _ _ _ _ _ => ckDct_ty) (em_v (pv 4)) (am_cons (em_ix (o_ix (hu1 hr)) (em_v (pv 9)) (em_int) (fun _ _ => rfl)) (am_cons (em_ix (o_ix (hu1 hr)) (em_v (pv 10)) (em_int) (fun _ _ => rfl)) (am_nil)))) (em_ix (o_ix (hu1 hr)) (em_v (pv 10)) (em_int) (fun _ _ => rfl)) (nomark _)) (tm_or1 (tm_cmp (o_ne (hu195 hr)) (em_bm rfl PySem.F.plainAttrs_dict PySem.F.slot_dict_setdefault PySem.F.type_dict_setdefault k_setd (fun _ _ _ _ _ => ckDct_ty) (em_v (pv 5)) (am_cons (em_ix (o_ix (hu1 hr)) (em_v (pv 10)) (em_int) (fun _ _ => rfl)) (am_cons (em_ix (o_ix (hu1 hr)) (em_v (pv 9)) (em_int) (fun _ _ => rfl)) (am_nil)))) (em_ix (o_ix (hu1 hr)) (em_v (pv 9)) (em_int) (fun _ _ => rfl)) (nomark _))))) (sms_one (sm_ret (em_bl))) (sms_nil))) (sms_nil))))))))
    (sms_one (sm_ret (em_bl))))))))
theorem sc__law_put : FnScope ["tree", "place", "part", "k"] ["tree", "place", "part"] (defScope s__law_put) := ⟨rfl, rfl, rfl, by decide +kernel, rfl, by decide +kernel, by decide +kernel⟩
theorem ok__law_put (F : FunD K "_law_put" "_law_put" (defArgs s__law_put) (defBody s__law_put) (defScope s__law_put) [] [] f fd) (B : Blt mg) {f__law_put : Fm} (A__law_put : FnAt P w K mg base n "_law_put" ["tree", "place", "part"] f__law_put) :
    FnOk P w K mg base (L2.CX P w) (n + 1) f fd ["tree", "place", "part"] (spM K 3 (kPure.f (runM 3 4 (m__law_put f__law_put)))) :=
  def_ok (N := ["tree", "place", "part", "k"]) kPure F sc__law_put fun cdv A outer s H E W hr tk =>
    sms_cons (sm_if (tm_cmp (o_eq (hu195 hr)) (em_v (pv 1)) (em_tup (am_nil)) (nomark _)) (sms_one (sm_ret (em_v (pv 2)))) (sms_nil))
    (sms_cons (sm_set (i := 3) sc__law_put.nd rfl (by first | exact Or.inl rfl | exact Or.inr rfl) (em_ix (o_ix (hu1 hr)) (em_v (pv 1)) (em_int) (fun _ _ => rfl)))
    (sms_one (sm_ret (em_tup (am_cons (em_str) (am_cons (em_ix (o_ix (hu1 hr)) (em_v (pv 0)) (em_int) (fun _ _ => rfl)) (am_cons (em_bin o_add (em_bin o_add (em_slice rfl (em_ix (o_ix (hu1 hr)) (em_v (pv 0)) (em_int) (fun _ _ => rfl)) (pm_no) (pm_some (em_v (pv 3)))) (em_tup (am_cons (em_call A__law_put rfl hr tk rfl (am_cons (em_ix (o_ix (hu1 hr)) (em_ix (o_ix (hu1 hr)) (em_v (pv 0)) (em_int) (fun _ _ => rfl)) (em_v (pv 3)) (fun _ _ => rfl)) (am_cons (em_slice rfl (em_v (pv 1)) (pm_some (em_int)) (pm_no)) (am_cons (em_v (pv 2)) (am_nil))))) (am_nil)))) (em_slice rfl (em_ix (o_ix (hu1 hr)) (em_v (pv 0)) (em_int) (fun _ _ => rfl)) (pm_some (em_bin o_add (em_v (pv 3)) (em_int))) (pm_no))) (am_nil))))))))
theorem sc_law_k19 : FnScope ["script", "first", "one", "some", "names", "many", "k", "number", "other", "places", "place", "part", "due"] ["script"] (defScope s_law) := ⟨rfl, rfl, rfl, by decide +kernel, rfl, by decide +kernel, by decide +kernel⟩
theorem ok_law_k19 (F : FunD K "law" "law" (defArgs s_law) (defBody s_law) (defScope s_law) [] [] f fd) (B : Blt mg) {f_alike f__law_alike f__law_go_together f__law_draw f__law_put f__law_places f__law_exchanged f__law_tree f__law_cell_at : Fm} (A_alike : FnAt P w K mg base n "alike" ["one", "other"] f_alike) (A__law_alike : FnAt P w K mg base n "_law_alike" ["found", "due"] f__law_alike) (A__law_go_together : FnAt P w K mg base n "_law_go_together" ["one", "other"] f__law_go_together) (A__law_draw : FnAt P w K mg base n "_law_draw" ["cell", "k", "many"] f__law_draw) (A__law_put : FnAt P w K mg base n "_law_put" ["tree", "place", "part"] f__law_put) (A__law_places : FnAt P w K mg base n "_law_places" ["tree"] f__law_places) (A__law_exchanged : FnAt P w K mg base n "_law_exchanged" ["tree", "filling"] f__law_exchanged) (A__law_tree : FnAt P w K mg base n "_law_tree" ["cells", "first", "shares"] f__law_tree) (A__law_cell_at : FnAt P w K mg base n "_law_cell_at" ["script", "k"] f__law_cell_at) :
    FnOk P w K mg base (L2.CX P w) (n + 1) f fd ["script"] (spM K 1 (kPure.f (runM 1 13 (m_law_k19 f_alike f__law_alike f__law_go_together f__law_draw f__law_put f__law_places f__law_exchanged f__law_tree f__law_cell_at)))) :=
  def_ok (N := ["script", "first", "one", "some", "names", "many", "k", "number", "other", "places", "place", "part", "due"]) kPure F sc_law_k19 fun cdv A outer s H E W hr tk =>
    sms_cons (sm_set (i := 1) sc_law_k19.nd rfl (by first | exact Or.inl rfl | exact Or.inr rfl) (em_call A__law_cell_at rfl hr tk rfl (am_cons (em_v (pv 0)) (am_cons (em_int) (am_nil)))))
    (sms_cons (sm_set (i := 2) sc_law_k19.nd rfl (by first | exact Or.inl rfl | exact Or.inr rfl) (em_call A__law_tree rfl hr tk rfl (am_cons (em_slice rfl (em_v (pv 0)) (pm_some (em_int)) (pm_no)) (am_cons (em_v (pv 1)) (am_cons (em_bin o_add (em_int) (em_call A__law_draw rfl hr tk rfl (am_cons (em_v (pv 1)) (am_cons (em_int) (am_cons (em_int) (am_nil)))))) (am_nil))))))
    (sms_cons (sm_if (tm_cmp (o_eq (hu195 hr)) (em_call A__law_draw rfl hr tk rfl (am_cons (em_v (pv 1)) (am_cons (em_int) (am_cons (em_int) (am_nil))))) (em_int) (nomark _)) (sms_one (sm_set (i := 2) sc_law_k19.nd rfl (by first | exact Or.inl rfl | exact Or.inr rfl) (em_tup (am_cons (em_str) (am_cons (em_bin o_add (em_int) (em_bin o_mod (em_v (pv 1)) (em_bin o_pow (em_int) (em_int)))) (am_nil)))))) (sms_nil))
    (sms_cons (sm_set (i := 3) sc_law_k19.nd rfl (by first | exact Or.inl rfl | exact Or.inr rfl) (em_lst (am_cons (em_int) (am_cons (em_bin o_pow (em_int) (em_int)) (am_cons (em_int) (am_cons (em_bin o_add (em_int) (em_bin o_mod (em_v (pv 1)) (em_bin o_pow (em_int) (em_int)))) (am_cons (em_int) (am_cons (em_int) (am_cons (em_int) (am_nil))))))))))
    (sms_cons (sm_set (i := 4) sc_law_k19.nd rfl (by first | exact Or.inl rfl | exact Or.inr rfl) (em_newD))
    (sms_cons (sm_set (i := 5) sc_law_k19.nd rfl (by first | exact Or.inl rfl | exact Or.inr rfl) (em_ix (o_ix (hu1 hr)) (em_lst (am_cons (em_int) (am_cons (em_int) (am_cons (em_int) (am_nil))))) (em_call A__law_draw rfl hr tk rfl (am_cons (em_v (pv 1)) (am_cons (em_int) (am_cons (em_int) (am_nil))))) (fun _ _ => rfl)))
    (sms_cons (sm_for (passes_of rfl) rfl (im_enum rfl rfl B.z_enumerate (em_lst (am_cons (em_int) (am_cons (em_int) (am_cons (em_int) (am_cons (em_bin o_pow (em_int) (em_int)) (am_cons (em_bin o_add (em_int) (em_bin o_mod (em_v (pv 1)) (em_bin o_pow (em_int) (em_int)))) (am_nil)))))))) (gm_tup rfl (gms_cons (gm_name (i := 6) (pg_name (i := 6) sc_law_k19.nd rfl (by first | exact Or.inl rfl | exact Or.inr rfl))) (gms_cons (gm_name (i := 7) (pg_name (i := 7) sc_law_k19.nd rfl (by first | exact Or.inl rfl | exact Or.inr rfl))) (gms_nil))) rfl) (sms_one (sm_setIx (s_any (hu1 hr)) (em_tup (am_cons (em_str) (am_cons (em_ix (o_ix (hu1 hr)) (em_v (pv 3)) (em_bin o_mod (em_bin o_add (em_bin o_mulX (em_v (pv 6)) (em_bin o_add (em_int) (em_call A__law_draw rfl hr tk rfl (am_cons (em_v (pv 1)) (am_cons (em_int) (am_cons (em_int) (am_nil))))))) (em_call A__law_draw rfl hr tk rfl (am_cons (em_v (pv 1)) (am_cons (em_int) (am_cons (em_int) (am_nil)))))) (em_v (pv 5))) (fun _ _ => rfl)) (am_nil)))) (em_v (pv 4)) (em_v (pv 7)))))
    (sms_cons (sm_set (i := 8) sc_law_k19.nd rfl (by first | exact Or.inl rfl | exact Or.inr rfl) (em_call A__law_exchanged rfl hr tk rfl (am_cons (em_v (pv 2)) (am_cons (em_v (pv 4)) (am_nil)))))
    (sms_cons (sm_if (tm_cmp (o_eq (hu195 hr)) (em_call A__law_draw rfl hr tk rfl (am_cons (em_v (pv 1)) (am_cons (em_int) (am_cons (em_int) (am_nil))))) (em_int) (nomark _)) (sms_cons (sm_set (i := 9) sc_law_k19.nd rfl (by first | exact Or.inl rfl | exact Or.inr rfl) (em_call A__law_places rfl hr tk rfl (am_cons (em_v (pv 8)) (am_nil))))
    (sms_cons (sm_set (i := 10) sc_law_k19.nd rfl (by first | exact Or.inl rfl | exact Or.inr rfl) (em_ix (o_ix (hu1 hr)) (em_ix (o_ix (hu1 hr)) (em_v (pv 9)) (em_call A__law_draw rfl hr tk rfl (am_cons (em_v (pv 1)) (am_cons (em_int) (am_cons (em_callB c_len rfl B.z_len (by decide +kernel) (am_cons (em_v (pv 9)) (am_nil))) (am_nil))))) (fun _ _ => rfl)) (em_int) (fun _ _ => rfl)))
    (sms_cons (sm_set (i := 11) sc_law_k19.nd rfl (by first | exact Or.inl rfl | exact Or.inr rfl) (em_ix (o_ix (hu1 hr)) (em_lst (am_cons (em_tup (am_cons (em_str) (am_cons (em_int) (am_nil)))) (am_cons (em_tup (am_cons (em_str) (am_cons (em_int) (am_nil)))) (am_cons (em_tup (am_cons (em_str) (am_cons (em_str) (am_cons (em_tup (am_nil)) (am_nil))))) (am_cons (em_tup (am_cons (em_str) (am_cons (em_str) (am_cons (em_tup (am_cons (em_v (pv 2)) (am_nil))) (am_nil))))) (am_nil)))))) (em_call A__law_draw rfl hr tk rfl (am_cons (em_v (pv 1)) (am_cons (em_int) (am_cons (em_int) (am_nil))))) (fun _ _ => rfl)))
    (sms_one (sm_set (i := 8) sc_law_k19.nd rfl (by first | exact Or.inl rfl | exact Or.inr rfl) (em_call A__law_put rfl hr tk rfl (am_cons (em_v (pv 8)) (am_cons (em_v (pv 10)) (am_cons (em_v (pv 11)) (am_nil)))))))))) (sms_nil))
    (sms_cons (sm_set (i := 12) sc_law_k19.nd rfl (by first | exact Or.inl rfl | exact Or.inr rfl) (em_call A__law_go_together rfl hr tk rfl (am_cons (em_v (pv 2)) (am_cons (em_v (pv 8)) (am_nil)))))
    (sms_cons (sm_if (PW.pt (tm_or (tm_not (tm_tru (em_call A__law_alike rfl hr tk rfl (am_cons (em_call A_alike rfl hr tk rfl (am_cons (em_v (pv 2)) (am_cons (em_v (pv 8)) (am_nil)))) (am_cons (em_v (pv 12)) (am_nil)))) rfl)) (tm_or1 (tm_not (tm_tru (em_call A__law_alike rfl hr tk rfl (am_cons (em_call A_alike rfl hr tk rfl (am_cons (em_v (pv 8)) (am_cons (em_v (pv 2)) (am_nil)))) (am_cons (em_v (pv 12)) (am_nil)))) rfl))))) (sms_one (sm_ret (em_bl))) (sms_nil))
    (sms_one (sm_ret (em_cmp o_isT (em_call A_alike rfl hr tk rfl (am_cons (em_v (pv 2)) (am_cons (em_v (pv 2)) (am_nil)))) (em_bl) (nomark _))))))))))))))
end
section
variable {P : Program} {w : World} {K : PySem.W.Frag} {mg : Str → Option Value} {h : Heap} (X : K.In h) (G : h.Ns mainGlobals mg) (c : SaysX fa fn K)
include X G c
theorem blt : Blt mg := ⟨He.free_ok X G (c.fact 15 (f := .free "len") rfl), He.free_ok X G (c.fact 16 (f := .free "range") rfl), He.free_ok X G (c.fact 17 (f := .free "int") rfl), He.free_ok X G (c.fact 18 (f := .free "str") rfl), He.free_ok X G (c.fact 19 (f := .free "sum") rfl), He.free_ok X G (c.fact 20 (f := .free "max") rfl), He.free_ok X G (c.fact 21 (f := .free "min") rfl), He.free_ok X G (c.fact 22 (f := .free "enumerate") rfl), He.free_ok X G (c.fact 23 (f := .free "isinstance") rfl), He.free_ok X G (c.fact 24 (f := .free "tuple") rfl), He.free_ok X G (c.fact 25 (f := .free "list") rfl), He.free_ok X G (c.fact 26 (f := .free "dict") rfl), He.free_ok X G (c.fact 27 (f := .free "sorted") rfl), He.free_ok X G (c.fact 28 (f := .free "abs") rfl), He.free_ok X G (c.fact 29 (f := .free "all") rfl), He.free_ok X G (c.fact 30 (f := .free "set") rfl), He.free_ok X G (c.fact 31 (f := .free "bool") rfl)⟩
theorem at_blanks_of (base : Heap) : ∀ n, FnAt P w K mg base n "blanks_of" ["tree"] (F_blanks_of n) := by
  obtain ⟨fd, F⟩ := c.def_ 0 (d := d_blanks_of) rfl
  have b : Binds K fd ["tree"] [] := F.bindsN fun _ _ _ _ _ _ us hl => match us, hl with | [_], _ => rfl
  have g := He.glo_ok X G (c.fact 0 (f := .glo "blanks_of") rfl)
  intro n
  induction n with
  | zero => exact fnAt_zero F g b
  | succ n ih => exact fnAt_by kNew rfl F g b (ok_blanks_of F (blt X G c) ih)
theorem at_exchanged (base : Heap) : ∀ n, FnAt P w K mg base n "exchanged" ["tree", "filling"] (F_exchanged n) := by
  obtain ⟨fd, F⟩ := c.def_ 1 (d := d_exchanged) rfl
  have b : Binds K fd ["tree", "filling"] [] := F.bindsN fun _ _ _ _ _ _ us hl => match us, hl with | [_, _], _ => rfl
  have g := He.glo_ok X G (c.fact 1 (f := .glo "exchanged") rfl)
  intro n
  induction n with
  | zero => exact fnAt_zero F g b
  | succ n ih => exact fnAt_by kPure rfl F g b (ok_exchanged F (blt X G c) ih)
theorem at_plain (base : Heap) : ∀ n, FnAt P w K mg base n "plain" ["tree"] (F_plain n) := by
  obtain ⟨fd, F⟩ := c.def_ 2 (d := d_plain) rfl
  have b : Binds K fd ["tree"] [] := F.bindsN fun _ _ _ _ _ _ us hl => match us, hl with | [_], _ => rfl
  have g := He.glo_ok X G (c.fact 2 (f := .glo "plain") rfl)
  intro n
  induction n with
  | zero => exact fnAt_zero F g b
  | succ n ih => exact fnAt_by kPure rfl F g b (ok_plain F (blt X G c) (at_exchanged X G c base n) (at_blanks_of X G c base n))
theorem at_alike (base : Heap) : ∀ n, FnAt P w K mg base n "alike" ["one", "other"] (F_alike n) := by
  obtain ⟨fd, F⟩ := c.def_ 3 (d := d_alike) rfl
  have b : Binds K fd ["one", "other"] [] := F.bindsN fun _ _ _ _ _ _ us hl => match us, hl with | [_, _], _ => rfl
  have g := He.glo_ok X G (c.fact 3 (f := .glo "alike") rfl)
  intro n
  induction n with
  | zero => exact fnAt_zero F g b
  | succ n ih => exact fnAt_by kPure rfl F g b (ok_alike F (blt X G c) (at_plain X G c base n))
theorem at__law_cell_at (base : Heap) : ∀ n, FnAt P w K mg base n "_law_cell_at" ["script", "k"] (F__law_cell_at n) := by
  obtain ⟨fd, F⟩ := c.def_ 4 (d := d__law_cell_at) rfl
  have b : Binds K fd ["script", "k"] [] := F.bindsN fun _ _ _ _ _ _ us hl => match us, hl with | [_, _], _ => rfl
  have g := He.glo_ok X G (c.fact 4 (f := .glo "_law_cell_at") rfl)
  intro n
  induction n with
  | zero => exact fnAt_zero F g b
  | succ n ih => exact fnAt_by kPure rfl F g b (ok__law_cell_at F (blt X G c))
theorem at__law_draw (base : Heap) : ∀ n, FnAt P w K mg base n "_law_draw" ["cell", "k", "many"] (F__law_draw n) := by
  obtain ⟨fd, F⟩ := c.def_ 5 (d := d__law_draw) rfl
  have b : Binds K fd ["cell", "k", "many"] [] := F.bindsN fun _ _ _ _ _ _ us hl => match us, hl with | [_, _, _], _ => rfl
  have g := He.glo_ok X G (c.fact 5 (f := .glo "_law_draw") rfl)
  intro n
  induction n with
  | zero => exact fnAt_zero F g b
  | succ n ih => exact fnAt_by kPure rfl F g b (ok__law_draw F (blt X G c))
theorem at__law_alike (base : Heap) : ∀ n, FnAt P w K mg base n "_law_alike" ["found", "due"] (F__law_alike n) := by
  obtain ⟨fd, F⟩ := c.def_ 6 (d := d__law_alike) rfl
  have b : Binds K fd ["found", "due"] [] := F.bindsN fun _ _ _ _ _ _ us hl => match us, hl with | [_, _], _ => rfl
  have g := He.glo_ok X G (c.fact 6 (f := .glo "_law_alike") rfl)
  intro n
  induction n with
  | zero => exact fnAt_zero F g b
  | succ n ih => exact fnAt_by kPure rfl F g b (ok__law_alike F (blt X G c) ih)
theorem at__law_names (base : Heap) : ∀ n, FnAt P w K mg base n "_law_names" ["cell"] (F__law_names n) := by
  obtain ⟨fd, F⟩ := c.def_ 7 (d := d__law_names) rfl
  have b : Binds K fd ["cell"] [] := F.bindsN fun _ _ _ _ _ _ us hl => match us, hl with | [_], _ => rfl
  have g := He.glo_ok X G (c.fact 7 (f := .glo "_law_names") rfl)
  intro n
  induction n with
  | zero => exact fnAt_zero F g b
  | succ n ih => exact fnAt_by kNew rfl F g b (ok__law_names F (blt X G c) (at__law_draw X G c base n))
theorem at__law_leaf (base : Heap) : ∀ n, FnAt P w K mg base n "_law_leaf" ["cell", "first", "names", "shares"] (F__law_leaf n) := by
  obtain ⟨fd, F⟩ := c.def_ 8 (d := d__law_leaf) rfl
  have b : Binds K fd ["cell", "first", "names", "shares"] [] := F.bindsN fun _ _ _ _ _ _ us hl => match us, hl with | [_, _, _, _], _ => rfl
  have g := He.glo_ok X G (c.fact 8 (f := .glo "_law_leaf") rfl)
  intro n
  induction n with
  | zero => exact fnAt_zero F g b
  | succ n ih => exact fnAt_by kPure rfl F g b (ok__law_leaf F (blt X G c) (at__law_draw X G c base n))
theorem at__law_tree (base : Heap) : ∀ n, FnAt P w K mg base n "_law_tree" ["cells", "first", "shares"] (F__law_tree n) := by
  obtain ⟨fd, F⟩ := c.def_ 9 (d := d__law_tree) rfl
  have b : Binds K fd ["cells", "first", "shares"] [] := F.bindsN fun _ _ _ _ _ _ us hl => match us, hl with | [_, _, _], _ => rfl
  have g := He.glo_ok X G (c.fact 9 (f := .glo "_law_tree") rfl)
  intro n
  induction n with
  | zero => exact fnAt_zero F g b
  | succ n ih => exact fnAt_by kPure rfl F g b (ok__law_tree F (blt X G c) (at__law_draw X G c base n) (at__law_leaf X G c base n) (at__law_names X G c base n))
theorem at__law_places (base : Heap) : ∀ n, FnAt P w K mg base n "_law_places" ["tree"] (F__law_places n) := by
  obtain ⟨fd, F⟩ := c.def_ 10 (d := d__law_places) rfl
  have b : Binds K fd ["tree"] [] := F.bindsN fun _ _ _ _ _ _ us hl => match us, hl with | [_], _ => rfl
  have g := He.glo_ok X G (c.fact 10 (f := .glo "_law_places") rfl)
  intro n
  induction n with
  | zero => exact fnAt_zero F g b
  | succ n ih => exact fnAt_by kNew rfl F g b (ok__law_places F (blt X G c))
theorem at__law_exchanged (base : Heap) : ∀ n, FnAt P w K mg base n "_law_exchanged" ["tree", "filling"] (F__law_exchanged n) := by
  obtain ⟨fd, F⟩ := c.def_ 11 (d := d__law_exchanged) rfl
  have b : Binds K fd ["tree", "filling"] [] := F.bindsN fun _ _ _ _ _ _ us hl => match us, hl with | [_, _], _ => rfl
  have g := He.glo_ok X G (c.fact 11 (f := .glo "_law_exchanged") rfl)
  intro n
  induction n with
  | zero => exact fnAt_zero F g b
  | succ n ih => exact fnAt_by kPure rfl F g b (ok__law_exchanged F (blt X G c) ih)
theorem at__law_go_together (base : Heap) : ∀ n, FnAt P w K mg base n "_law_go_together" ["one", "other"] (F__law_go_together n) := by
  obtain ⟨fd, F⟩ := c.def_ 12 (d := d__law_go_together) rfl
  have b : Binds K fd ["one", "other"] [] := F.bindsN fun _ _ _ _ _ _ us hl => match us, hl with | [_, _], _ => rfl
  have g := He.glo_ok X G (c.fact 12 (f := .glo "_law_go_together") rfl)
  intro n
  induction n with
  | zero => exact fnAt_zero F g b
  | succ n ih => exact fnAt_by kPure rfl F g b (ok__law_go_together F (blt X G c) (at__law_places X G c base n))
theorem at__law_put (base : Heap) : ∀ n, FnAt P w K mg base n "_law_put" ["tree", "place", "part"] (F__law_put n) := by
  obtain ⟨fd, F⟩ := c.def_ 13 (d := d__law_put) rfl
  have b : Binds K fd ["tree", "place", "part"] [] := F.bindsN fun _ _ _ _ _ _ us hl => match us, hl with | [_, _, _], _ => rfl
  have g := He.glo_ok X G (c.fact 13 (f := .glo "_law_put") rfl)
  intro n
  induction n with
  | zero => exact fnAt_zero F g b
  | succ n ih => exact fnAt_by kPure rfl F g b (ok__law_put F (blt X G c) ih)
end
end Wk
open PySem PySem.W PySem.Calls PyProof.Rows
theorem head_holds (hc : PySem.W.WalkO (view (OpenLaw.row PySem.Challenge.rw_commonform_k19_alike_but_for_blanks).prog [17]) Hd.ls (XL (view (OpenLaw.row PySem.Challenge.rw_commonform_k19_alike_but_for_blanks).prog [17]) []) Hd.hk.says (OpenLaw.row PySem.Challenge.rw_commonform_k19_alike_but_for_blanks).toRowW (HandSHeadRun.topDef (OpenLaw.row PySem.Challenge.rw_commonform_k19_alike_but_for_blanks).prog 17) [] fun f vs => PySem.call f vs) : PySem.Challenge.rw_commonform_k19_alike_but_for_blanks.Holds := by
  w_on; o_law
  refine HandSHeadRun.head_any (r := OpenLaw.row PySem.Challenge.rw_commonform_k19_alike_but_for_blanks) (q := view (OpenLaw.row PySem.Challenge.rw_commonform_k19_alike_but_for_blanks).prog [17]) (H := Hd.hk) (ob := Hd.ob) (M := 4600) (loose := Hd.ls) (d := HandSHeadRun.topDef (OpenLaw.row PySem.Challenge.rw_commonform_k19_alike_but_for_blanks).prog 17) (kwd := []) Hd.ob_eq
    (by kernel_rfl) (fun s => by kernel_rfl) Hd.run (by kernel_rfl) (by kernel_rfl) (by kernel_rfl) (by rfl) (by first | assumption | decide +kernel) (by decide +kernel) ⟨rfl, rfl, rfl, rfl, rfl, by decide +kernel⟩ ?hw hc
  case hw => w_witness2
theorem law_done (hφ : ∀ ns : List Int, ns.length ≤ 63 → ∃ h, DV.F_law_k19 230 [.ro ns] [] = .ok (.bl true) h) : PySem.Challenge.rw_commonform_k19_alike_but_for_blanks.Holds := by
  refine head_holds (DV.law_end (k := 230) rfl (by kernel_rfl) ⟨rfl, by decide, by decide⟩ hφ ?_)
  intro w mg fa h Y G hm
  obtain ⟨K, KX, c⟩ := Y
  obtain ⟨fd, F⟩ := c.def_ 14 (d := Hd.d_law) rfl
  have e1 : mg "law" = some (.ref fa) := by
    have e : (HandSHeadRun.topDef (OpenLaw.row PySem.Challenge.rw_commonform_k19_alike_but_for_blanks).prog 17).name = ("law" : PySem.Str) := by kernel_rfl
    rw [← e]; exact hm
  have e2 := e1.symm.trans (He.glo_ok KX G (c.fact 14 (f := .glo "law") rfl))
  cases e2
  have b := L2.FunD.bindsA (ps := ["script"]) F fun _ _ _ _ _ _ us hl => match us, hl with | [_], _ => rfl
  refine ⟨K, fd, KX, fun s u => b s [u] rfl, fun base _ _ => ?_⟩
  exact Wk.ok_law_k19 (n := 229) F (Wk.blt KX G c) (Wk.at_alike KX G c base 229) (Wk.at__law_alike KX G c base 229) (Wk.at__law_go_together KX G c base 229) (Wk.at__law_draw KX G c base 229) (Wk.at__law_put KX G c base 229) (Wk.at__law_places KX G c base 229) (Wk.at__law_exchanged KX G c base 229) (Wk.at__law_tree KX G c base 229) (Wk.at__law_cell_at KX G c base 229)
theorem PySem.Challenge.cw_commonform_k19_alike_but_for_blanks_holds : PySem.Challenge.rw_commonform_k19_alike_but_for_blanks.Holds := by
  exact law_done DV.law_k19_ok
