import PyProof.Rows.All
import Wide.All
import OpenK.AllK
import Wide.FinOn
import KE.KStateDown
import HandS.ForMost
import HandS.Exc
import HandS.TryOnly
import HandS.TryMany
import HandS.ExcOwn
import HandS.WordsExc
import HandS.Defaults
import HandS.Head0
import HandS.Head1
import HandS.Head2
import HandS.HeadEnd
import HandS.HeadHook1
import HandS.HeadHook2
import HandS.CallSlots
import HandS.TupAny
import HandS.IsInst
import KE.DataMinMax
import KE.GoesEnum
import KE.KDictLaws
import HandS.Finally
import HandS.More
import HandS.Iter
import HandS.WordsDict
import HandS.DictComp
import HandS.TupMul
import HandS.Text
import HandS.StrMore
import HandS.SortInts
import HandS.Style
import KE.KExcIs
import HandS.Flt
import KE.KEqDict
import PyProof.Rows.SetFrom
import HandS.Strs
import HandS.SetFor
import KE.KIntText
import HandS.DeepEq
import HandS.ListEq
import PyProof.NeKinds
import PySem.Challenge.RW_commonform_k11_whole_texts_read_or_refus
set_option Elab.async false
set_option linter.all false
set_option maxRecDepth 100000
set_option maxHeartbeats 0
namespace DV
open PySem PySem.Spec PyProof.Rows L2
abbrev St := L2.St
inductive D where
  | non | bl (b : Bool) | int (i : Int) | str (s : Str) | tup (ds : List D) | loc (l : Nat) | ro (ns : List Int) | exn (c : Str)
inductive AO where
  | lst (ds : List D) | dct (kvs : List (Key × D)) | fdc (kvs : List (Key × D)) | dcT (kvs : List (List Key × D)) | ins (C : Str) (fs : List (Str × D))
abbrev Hs := List AO
abbrev Sl := List (Option D)
inductive R (α : Type) where
  | ok (a : α) (h : Hs) | exc (c : Str) (h : Hs) | bad
def R.bind {α β : Type} (r : R α) (k : α → Hs → R β) : R β := match r with
  | .ok a h => k a h
  | .exc c h => .exc c h
  | .bad => .bad
inductive RS where
  | nx (ds : Sl) (h : Hs) | rt (d : D) (h : Hs) | bk (ds : Sl) (h : Hs) | ct (ds : Sl) (h : Hs) | exc (c : Str) (ds : Sl) (h : Hs) | bad
def lift {α : Type} (r : R α) (ds : Sl) (k : α → Hs → RS) : RS := match r with
  | .ok a h => k a h
  | .exc c h => .exc c ds h
  | .bad => .bad
abbrev EM := Sl → Hs → R D
abbrev AM := Sl → Hs → R (List D)
abbrev TM := Sl → Hs → R Bool
abbrev SM := Sl → Hs → RS
@[simp] theorem R.bind_ok {α β : Type} (a : α) (h : Hs) (k : α → Hs → R β) : (R.ok a h).bind k = k a h := rfl
@[simp] theorem R.bind_exc {α β : Type} (c : Str) (h : Hs) (k : α → Hs → R β) : (R.exc c h).bind k = .exc c h := rfl
@[simp] theorem R.bind_bad {α β : Type} (k : α → Hs → R β) : (R.bad).bind k = .bad := rfl
@[simp] theorem lift_ok {α : Type} (a : α) (h : Hs) (ds : Sl) (k : α → Hs → RS) : lift (R.ok a h) ds k = k a h := rfl
@[simp] theorem lift_exc {α : Type} (c : Str) (h : Hs) (ds : Sl) (k : α → Hs → RS) : lift (R.exc c h) ds k = .exc c ds h := rfl
@[simp] theorem lift_bad {α : Type} (ds : Sl) (k : α → Hs → RS) : lift (R.bad) ds k = .bad := rfl
/-- the script: known, or written -/
def SqR (K : PySem.W.Frag) (H : Hp) (a : Addr) (xs : List V) : Prop :=
  (∃ o, H a = some (.frz o (.lst xs))) ∨ ∃ (o : Obj) (its : Array Value) (n : Nat), K.lookup a = some o ∧ o.cls = .type "list" ∧ o.dict = none ∧ o.data = .seq its n ∧ its.size ≤ sizeLine ∧ Vals xs its.toList
theorem SqR.sq {K : PySem.W.Frag} {H : Hp} {a : Addr} {xs : List V} (h : SqR K H a xs) : SqL K H a xs := by
  rcases h with h | h
  · exact .inl (.inr h)
  · exact .inr h
/-- a caught exception's object -/
def exO (K : PySem.W.Frag) (c : Str) (a : Addr) : HO := .ext fun h => ∃ (oe : Obj) (vs : Array Value), h.get? a = some oe ∧ oe.cls = .ref (He.ga K c) ∧ oe.dict = none ∧ oe.data = .fields vs
variable (K : PySem.W.Frag)
mutual
def RepV (m : List Addr) (H : Hp) : D → V → Prop
  | .non, v => v = .non
  | .bl b, v => v = .bl b
  | .int i, v => v = .int i
  | .str s, v => v = .str s
  | .tup ds, v => ∃ a xs, v = .ref a ∧ H a = some (.tup xs) ∧ RepL m H ds xs
  | .loc l, v => ∃ a, m[l]? = some a ∧ v = .ref a
  | .ro ns, v => ∃ a, v = .ref a ∧ SqR K H a (ns.map V.int)
  | .exn c, v => ∃ a, v = .ref a ∧ H a = some (exO K c a)
def RepL (m : List Addr) (H : Hp) : List D → List V → Prop
  | [], xs => xs = []
  | d :: ds, xs => ∃ x r, xs = x :: r ∧ RepV m H d x ∧ RepL m H ds r
end
variable {K}
/-- what a value leans on goes on -/
structure Grw (m : List Addr) (H : Hp) (m' : List Addr) (H' : Hp) : Prop where
  pre : ∃ r, m' = m ++ r
  tup : ∀ a xs, H a = some (.tup xs) → H' a = some (.tup xs)
  frz : ∀ a o xs, H a = some (.frz o (.lst xs)) → H' a = some (.frz o (.lst xs))
  ext : ∀ a φ, H a = some (.ext φ) → H' a = some (.ext φ)
/-- what goes on: the numbers keep their addresses, the tuples stay, what is locked stays so -/
structure Grow (m : List Addr) (H : Hp) (m' : List Addr) (H' : Hp) : Prop where
  pre : ∃ r, m' = m ++ r
  tup : ∀ a xs, H a = some (.tup xs) → H' a = some (.tup xs)
  frz : ∀ a o u, H a = some (.frz o u) → H' a = some (.frz o u)
  ext : ∀ a φ, H a = some (.ext φ) → H' a = some (.ext φ)
theorem Grow.w {m m' : List Addr} {H H' : Hp} (g : Grow m H m' H') : Grw m H m' H' := ⟨g.pre, g.tup, fun a o _ h => g.frz a o _ h, g.ext⟩
theorem Grow.refl (m : List Addr) (H : Hp) : Grow m H m H := ⟨⟨[], by simp⟩, fun _ _ h => h, fun _ _ _ h => h, fun _ _ h => h⟩
theorem Grow.trans {m m1 m2 : List Addr} {H H1 H2 : Hp} (a : Grow m H m1 H1) (b : Grow m1 H1 m2 H2) : Grow m H m2 H2 := by
  obtain ⟨⟨r, rfl⟩, t, f, x⟩ := a
  obtain ⟨⟨r', rfl⟩, t', f', x'⟩ := b
  exact ⟨⟨r ++ r', by simp⟩, fun x xs h => t' x xs (t x xs h), fun x o xs h => f' x o xs (f x o xs h), fun y φ h => x' y φ (x y φ h)⟩
mutual
theorem RepV.mono0 {m m' : List Addr} {H H' : Hp} (g : Grw m H m' H') : ∀ {d : D} {v : V}, RepV K m H d v → RepV K m' H' d v
  | .non, _, h => h
  | .bl _, _, h => h
  | .int _, _, h => h
  | .str _, _, h => h
  | .tup ds, v, h => by
    unfold RepV at h ⊢
    obtain ⟨a, xs, e, ha, hl⟩ := h
    exact ⟨a, xs, e, g.tup _ _ ha, RepL.mono0 g hl⟩
  | .loc l, v, h => by
    unfold RepV at h ⊢
    obtain ⟨a, ha, e⟩ := h
    obtain ⟨⟨r, rfl⟩, _, _, _⟩ := g
    obtain ⟨hl, _⟩ := List.getElem?_eq_some_iff.mp ha
    exact ⟨a, by rw [List.getElem?_append_left hl]; exact ha, e⟩
  | .exn c, v, h => by
    unfold RepV at h ⊢
    obtain ⟨a, e, q⟩ := h
    exact ⟨a, e, g.ext _ _ q⟩
  | .ro ns, v, h => by
    unfold RepV at h ⊢
    obtain ⟨a, e, q⟩ := h
    refine ⟨a, e, ?_⟩
    rcases q with ⟨o, q⟩ | q
    · exact .inl ⟨o, g.frz _ _ _ q⟩
    · exact .inr q
theorem RepL.mono0 {m m' : List Addr} {H H' : Hp} (g : Grw m H m' H') : ∀ {ds : List D} {xs : List V}, RepL K m H ds xs → RepL K m' H' ds xs
  | [], _, h => h
  | d :: ds, xs, h => by
    unfold RepL at h ⊢
    obtain ⟨x, r, e, h1, h2⟩ := h
    exact ⟨x, r, e, RepV.mono0 g h1, RepL.mono0 g h2⟩
end
theorem RepV.mono {m m' : List Addr} {H H' : Hp} (g : Grow m H m' H') {d : D} {v : V} (h : RepV K m H d v) : RepV K m' H' d v := h.mono0 g.w
theorem RepL.mono {m m' : List Addr} {H H' : Hp} (g : Grow m H m' H') {ds : List D} {xs : List V} (h : RepL K m H ds xs) : RepL K m' H' ds xs := h.mono0 g.w
section
variable {m : List Addr} {H : Hp}
theorem RepL.nil : RepL K m H [] [] := by unfold RepL; rfl
theorem RepL.cons {d : D} {x : V} {ds : List D} {xs : List V} (h : RepV K m H d x) (t : RepL K m H ds xs) : RepL K m H (d :: ds) (x :: xs) := by unfold RepL; exact ⟨x, xs, rfl, h, t⟩
theorem RepL.length : ∀ {ds : List D} {xs : List V}, RepL K m H ds xs → xs.length = ds.length
  | [], xs, h => by unfold RepL at h; subst h; rfl
  | d :: ds, xs, h => by
    unfold RepL at h
    obtain ⟨x, r, rfl, _, h2⟩ := h
    simp [RepL.length h2]
theorem RepL.get : ∀ {ds : List D} {xs : List V} {i : Nat} {d : D}, RepL K m H ds xs → ds[i]? = some d → ∃ x, xs[i]? = some x ∧ RepV K m H d x
  | [], _, _, _, _, e => by simp at e
  | d :: ds, xs, i, d', h, e => by
    unfold RepL at h
    obtain ⟨x, r, rfl, h1, h2⟩ := h
    cases i with
    | zero => simp at e; subst e; exact ⟨x, rfl, h1⟩
    | succ i =>
      obtain ⟨y, hy, hr⟩ := RepL.get (i := i) h2 (by simpa using e)
      exact ⟨y, by simpa using hy, hr⟩
theorem RepL.append : ∀ {ds es : List D} {xs ys : List V}, RepL K m H ds xs → RepL K m H es ys → RepL K m H (ds ++ es) (xs ++ ys)
  | [], _, xs, _, h, t => by unfold RepL at h; subst h; exact t
  | d :: ds, es, xs, ys, h, t => by
    unfold RepL at h
    obtain ⟨x, r, rfl, h1, h2⟩ := h
    exact .cons h1 (RepL.append h2 t)
theorem RepL.set : ∀ {ds : List D} {xs : List V} (i : Nat) {d : D} {x : V}, RepL K m H ds xs → RepV K m H d x → RepL K m H (ds.set i d) (xs.set i x)
  | [], xs, i, _, _, h, _ => by unfold RepL at h; subst h; exact RepL.nil
  | d :: ds, xs, i, e, y, h, t => by
    unfold RepL at h
    obtain ⟨x, r, rfl, h1, h2⟩ := h
    cases i with
    | zero => exact .cons t h2
    | succ i => exact .cons h1 (RepL.set i h2 t)
theorem RepL.take : ∀ {ds : List D} {xs : List V} (n : Nat), RepL K m H ds xs → RepL K m H (ds.take n) (xs.take n)
  | [], xs, n, h => by unfold RepL at h; subst h; cases n <;> exact RepL.nil
  | d :: ds, xs, n, h => by
    unfold RepL at h
    obtain ⟨x, r, rfl, h1, h2⟩ := h
    cases n with
    | zero => exact RepL.nil
    | succ n => exact .cons h1 (RepL.take n h2)
theorem RepL.drop : ∀ {ds : List D} {xs : List V} (n : Nat), RepL K m H ds xs → RepL K m H (ds.drop n) (xs.drop n)
  | [], xs, n, h => by unfold RepL at h; subst h; cases n <;> exact RepL.nil
  | d :: ds, xs, n, h => by
    have h' := h
    unfold RepL at h
    obtain ⟨x, r, rfl, h1, h2⟩ := h
    cases n with
    | zero => exact h'
    | succ n => exact RepL.drop n h2
theorem RepL.nil_iff {ds : List D} {xs : List V} (h : RepL K m H ds xs) : xs = [] ↔ ds = [] := by
  rw [← List.length_eq_zero_iff, ← List.length_eq_zero_iff, h.length]
end
variable (K)
/-- the slots -/
def RepS (m : List Addr) (H : Hp) : Sl → St → Prop
  | [], [] => True
  | od :: ds, ov :: vs => (∀ d, od = some d → ∃ v, ov = some v ∧ RepV K m H d v) ∧ RepS m H ds vs
  | _, _ => False
variable {K}
theorem RepS.mono0 {m m' : List Addr} {H H' : Hp} (g : Grw m H m' H') : ∀ {ds : Sl} {σ : St}, RepS K m H ds σ → RepS K m' H' ds σ
  | [], [], _ => trivial
  | _ :: _, _ :: _, ⟨a, b⟩ => ⟨fun d e => let ⟨v, e1, r⟩ := a d e; ⟨v, e1, r.mono0 g⟩, RepS.mono0 g b⟩
  | [], _ :: _, h => h.elim
  | _ :: _, [], h => h.elim
theorem RepS.mono {m m' : List Addr} {H H' : Hp} (g : Grow m H m' H') {ds : Sl} {σ : St} (h : RepS K m H ds σ) : RepS K m' H' ds σ := h.mono0 g.w
theorem RepS.get {m : List Addr} {H : Hp} : ∀ {ds : Sl} {σ : St} {i : Nat} {d : D}, RepS K m H ds σ → ds[i]? = some (some d) → ∃ v, σ[i]? = some (some v) ∧ RepV K m H d v
  | [], _, _, _, _, e => by simp at e
  | _ :: _, [], _, _, h, _ => h.elim
  | od :: ds, ov :: vs, 0, d, ⟨a, _⟩, e => by
    simp at e
    obtain ⟨v, e1, r⟩ := a d e
    exact ⟨v, by simp [e1], r⟩
  | od :: ds, ov :: vs, i + 1, d, ⟨_, b⟩, e => by
    obtain ⟨v, e1, r⟩ := RepS.get (i := i) b (by simpa using e)
    exact ⟨v, by simpa using e1, r⟩
theorem RepS.set {m : List Addr} {H : Hp} {od : Option D} {ov : Option V} (h : ∀ d, od = some d → ∃ v, ov = some v ∧ RepV K m H d v) : ∀ {ds : Sl} {σ : St} (i : Nat), RepS K m H ds σ → RepS K m H (ds.set i od) (σ.set i ov)
  | [], [], _, _ => trivial
  | [], _ :: _, _, h => h.elim
  | _ :: _, [], _, h => h.elim
  | _ :: _, _ :: _, 0, ⟨_, b⟩ => ⟨h, b⟩
  | _ :: _, _ :: _, i + 1, ⟨a, b⟩ => ⟨a, RepS.set h i b⟩
theorem RepS.put {m : List Addr} {H : Hp} {d : D} {v : V} {ds : Sl} {σ : St} (i : Nat) (r : RepS K m H ds σ) (h : RepV K m H d v) : RepS K m H (ds.set i (some d)) (σ.set i (some v)) :=
  r.set (fun _ e => by cases e; exact ⟨v, rfl, h⟩) i
theorem RepS.forget {m : List Addr} {H : Hp} {ds : Sl} {σ : St} (i : Nat) (r : RepS K m H ds σ) (ov : Option V) : RepS K m H (ds.set i none) (σ.set i ov) :=
  r.set (fun _ e => by cases e) i
theorem RepS.length {m : List Addr} {H : Hp} : ∀ {ds : Sl} {σ : St}, RepS K m H ds σ → ds.length = σ.length
  | [], [], _ => rfl
  | [], _ :: _, h => h.elim
  | _ :: _, [], h => h.elim
  | _ :: _, _ :: _, ⟨_, b⟩ => by simp [RepS.length b]
variable (K) in
/-- the attributes of an instance -/
def RepF (m : List Addr) (H : Hp) (fs : List (Str × D)) (xs : List (Str × V)) : Prop := fs.map (·.1) = xs.map (·.1) ∧ RepL K m H (fs.map (·.2)) (xs.map (·.2))
/-- keys by value -/
def keyD : D → Option Key
  | .int i => some (.inl i)
  | .str s => some (.inr s)
  | _ => none
variable (K) in
def RepO (m : List Addr) (H : Hp) (a : Addr) : AO → Prop
  | .lst ds => ∃ xs, H a = some (.lst xs) ∧ RepL K m H ds xs
  | .dct kvs => ∃ ks : List (Key × V), H a = some (.dK ks) ∧ kvs.map (·.1) = ks.map (·.1) ∧ RepL K m H (kvs.map (·.2)) (ks.map (·.2))
  | .fdc kvs => ∃ (o : Obj) (ks : List (Key × V)), H a = some (.frz o (.dK ks)) ∧ kvs.map (·.1) = ks.map (·.1) ∧ RepL K m H (kvs.map (·.2)) (ks.map (·.2))
  | .dcT kvs => ∃ ks : List (List Key × V), H a = some (.dT ks) ∧ kvs.map (·.1) = ks.map (·.1) ∧ RepL K m H (kvs.map (·.2)) (ks.map (·.2))
  | .ins C fs => ∃ dx xs, H a = some (.ins (He.ga K C) dx xs) ∧ RepF K m H fs xs
variable (K) in
structure RepH (m : List Addr) (H : Hp) (h : Hs) : Prop where
  len : m.length = h.length
  nd : m.Nodup
  at_ : ∀ (i : Nat) (a : Addr) (o : AO), m[i]? = some a → h[i]? = some o → RepO K m H a o
theorem RepO.some {m : List Addr} {H : Hp} {a : Addr} {o : AO} (r : RepO K m H a o) : H a ≠ none := by
  cases o with
  | lst ds => obtain ⟨xs, e, _⟩ := r; rw [e]; exact fun z => nomatch z
  | dct kvs => obtain ⟨xs, e, _⟩ := r; rw [e]; exact fun z => nomatch z
  | fdc kvs => obtain ⟨o, xs, e, _⟩ := r; rw [e]; exact fun z => nomatch z
  | dcT kvs => obtain ⟨xs, e, _⟩ := r; rw [e]; exact fun z => nomatch z
  | ins C fs => obtain ⟨dx, xs, e, _⟩ := r; rw [e]; exact fun z => nomatch z
structure Cfg where
  K : PySem.W.Frag
  W : WX
def OutE (g : Cfg) (m : List Addr) (H : Hp) (σ : St) (Q : VK) : R D → Prop
  | .ok d h' => ∀ v m' H', Grow m H m' H' → RepV g.K m' H' d v → RepH g.K m' H' h' → Q v H'
  | .exc c h' => ∀ m' H', Grow m H m' H' → RepH g.K m' H' h' → g.W (.ref (He.ga g.K c)) none σ H'
  | .bad => False
def OutA (g : Cfg) (m : List Addr) (H : Hp) (σ : St) (Q : List V → Hp → Prop) : R (List D) → Prop
  | .ok ds h' => ∀ vs m' H', Grow m H m' H' → RepL g.K m' H' ds vs → RepH g.K m' H' h' → Q vs H'
  | .exc c h' => ∀ m' H', Grow m H m' H' → RepH g.K m' H' h' → g.W (.ref (He.ga g.K c)) none σ H'
  | .bad => False
def OutT (g : Cfg) (m : List Addr) (H : Hp) (σ : St) (Q : Bool → Hp → Prop) : R Bool → Prop
  | .ok b h' => ∀ m' H', Grow m H m' H' → RepH g.K m' H' h' → Q b H'
  | .exc c h' => ∀ m' H', Grow m H m' H' → RepH g.K m' H' h' → g.W (.ref (He.ga g.K c)) none σ H'
  | .bad => False
def OutS (g : Cfg) (m : List Addr) (H : Hp) (N : Ends) : RS → Prop
  | .nx ds h' => ∀ σ' m' H', Grow m H m' H' → RepS g.K m' H' ds σ' → RepH g.K m' H' h' → N.nx σ' H'
  | .rt d h' => ∀ v m' H', Grow m H m' H' → RepV g.K m' H' d v → RepH g.K m' H' h' → N.rt v H'
  | .bk ds h' => ∀ σ' m' H', Grow m H m' H' → RepS g.K m' H' ds σ' → RepH g.K m' H' h' → N.bk σ' H'
  | .ct ds h' => ∀ σ' m' H', Grow m H m' H' → RepS g.K m' H' ds σ' → RepH g.K m' H' h' → N.ct σ' H'
  | .exc c ds h' => ∀ σ' m' H', Grow m H m' H' → RepS g.K m' H' ds σ' → RepH g.K m' H' h' → g.W (.ref (He.ga g.K c)) none σ' H'
  | .bad => False
def tM (g : Cfg) (M : EM) : TE := fun σ H Q => ∃ m ds h, RepS g.K m H ds σ ∧ RepH g.K m H h ∧ OutE g m H σ Q (M ds h)
def tA (g : Cfg) (M : AM) : TA := fun σ H Q => ∃ m ds h, RepS g.K m H ds σ ∧ RepH g.K m H h ∧ OutA g m H σ Q (M ds h)
def tT (g : Cfg) (M : TM) : TT := fun σ H Q => ∃ m ds h, RepS g.K m H ds σ ∧ RepH g.K m H h ∧ OutT g m H σ Q (M ds h)
def tS (g : Cfg) (M : SM) : TS := fun N σ H => ∃ m ds h, RepS g.K m H ds σ ∧ RepH g.K m H h ∧ OutS g m H N (M ds h)
section
variable {g : Cfg} {m m' : List Addr} {H H' : Hp} {σ : St}
theorem OutE.mono {Q : VK} {r : R D} (o : OutE g m H σ Q r) (w : Grow m H m' H') : OutE g m' H' σ Q r := by
  cases r with
  | ok d h => exact fun v m2 H2 w2 => o v m2 H2 (w.trans w2)
  | exc c h => exact fun m2 H2 w2 => o m2 H2 (w.trans w2)
  | bad => exact o
theorem OutA.mono {Q : List V → Hp → Prop} {r : R (List D)} (o : OutA g m H σ Q r) (w : Grow m H m' H') : OutA g m' H' σ Q r := by
  cases r with
  | ok d h => exact fun v m2 H2 w2 => o v m2 H2 (w.trans w2)
  | exc c h => exact fun m2 H2 w2 => o m2 H2 (w.trans w2)
  | bad => exact o
theorem OutT.mono {Q : Bool → Hp → Prop} {r : R Bool} (o : OutT g m H σ Q r) (w : Grow m H m' H') : OutT g m' H' σ Q r := by
  cases r with
  | ok d h => exact fun m2 H2 w2 => o m2 H2 (w.trans w2)
  | exc c h => exact fun m2 H2 w2 => o m2 H2 (w.trans w2)
  | bad => exact o
theorem OutS.mono {N : Ends} {r : RS} (o : OutS g m H N r) (w : Grow m H m' H') : OutS g m' H' N r := by
  cases r with
  | nx ds h => exact fun σ2 m2 H2 w2 => o σ2 m2 H2 (w.trans w2)
  | rt d h => exact fun v m2 H2 w2 => o v m2 H2 (w.trans w2)
  | bk ds h => exact fun σ2 m2 H2 w2 => o σ2 m2 H2 (w.trans w2)
  | ct ds h => exact fun σ2 m2 H2 w2 => o σ2 m2 H2 (w.trans w2)
  | exc c ds h => exact fun σ2 m2 H2 w2 => o σ2 m2 H2 (w.trans w2)
  | bad => exact o
/-- an expression's value taken on -/
theorem OutE.toE {Q Q' : VK} {r : R D} {k : D → Hs → R D} (o : OutE g m H σ Q (r.bind k)) (f : ∀ d h' v m' H', Grow m H m' H' → RepV g.K m' H' d v → RepH g.K m' H' h' → OutE g m' H' σ Q (k d h') → Q' v H') : OutE g m H σ Q' r := by
  cases r with
  | ok d h => exact fun v m' H' w rv rh => f d h v m' H' w rv rh (OutE.mono o w)
  | exc c h => exact o
  | bad => exact o
theorem OutE.toA {Q : List V → Hp → Prop} {Q' : VK} {r : R D} {k : D → Hs → R (List D)} (o : OutA g m H σ Q (r.bind k)) (f : ∀ d h' v m' H', Grow m H m' H' → RepV g.K m' H' d v → RepH g.K m' H' h' → OutA g m' H' σ Q (k d h') → Q' v H') : OutE g m H σ Q' r := by
  cases r with
  | ok d h => exact fun v m' H' w rv rh => f d h v m' H' w rv rh (OutA.mono o w)
  | exc c h => exact o
  | bad => exact o
theorem OutE.toT {Q : Bool → Hp → Prop} {Q' : VK} {r : R D} {k : D → Hs → R Bool} (o : OutT g m H σ Q (r.bind k)) (f : ∀ d h' v m' H', Grow m H m' H' → RepV g.K m' H' d v → RepH g.K m' H' h' → OutT g m' H' σ Q (k d h') → Q' v H') : OutE g m H σ Q' r := by
  cases r with
  | ok d h => exact fun v m' H' w rv rh => f d h v m' H' w rv rh (OutT.mono o w)
  | exc c h => exact o
  | bad => exact o
theorem OutE.toS {N : Ends} {Q' : VK} {r : R D} {ds : Sl} {k : D → Hs → RS} (hs : RepS g.K m H ds σ) (o : OutS g m H N (lift r ds k)) (f : ∀ d h' v m' H', Grow m H m' H' → RepV g.K m' H' d v → RepH g.K m' H' h' → OutS g m' H' N (k d h') → Q' v H') : OutE g m H σ Q' r := by
  cases r with
  | ok d h => exact fun v m' H' w rv rh => f d h v m' H' w rv rh (OutS.mono o w)
  | exc c h => exact fun m' H' w rh => o σ m' H' w (hs.mono w) rh
  | bad => exact o
theorem OutA.toE {Q : VK} {Q' : List V → Hp → Prop} {r : R (List D)} {k : List D → Hs → R D} (o : OutE g m H σ Q (r.bind k)) (f : ∀ d h' v m' H', Grow m H m' H' → RepL g.K m' H' d v → RepH g.K m' H' h' → OutE g m' H' σ Q (k d h') → Q' v H') : OutA g m H σ Q' r := by
  cases r with
  | ok d h => exact fun v m' H' w rv rh => f d h v m' H' w rv rh (OutE.mono o w)
  | exc c h => exact o
  | bad => exact o
theorem OutA.toA {Q : List V → Hp → Prop} {Q' : List V → Hp → Prop} {r : R (List D)} {k : List D → Hs → R (List D)} (o : OutA g m H σ Q (r.bind k)) (f : ∀ d h' v m' H', Grow m H m' H' → RepL g.K m' H' d v → RepH g.K m' H' h' → OutA g m' H' σ Q (k d h') → Q' v H') : OutA g m H σ Q' r := by
  cases r with
  | ok d h => exact fun v m' H' w rv rh => f d h v m' H' w rv rh (OutA.mono o w)
  | exc c h => exact o
  | bad => exact o
theorem OutT.toT {Q : Bool → Hp → Prop} {Q' : Bool → Hp → Prop} {r : R Bool} {k : Bool → Hs → R Bool} (o : OutT g m H σ Q (r.bind k)) (f : ∀ b h' m' H', Grow m H m' H' → RepH g.K m' H' h' → OutT g m' H' σ Q (k b h') → Q' b H') : OutT g m H σ Q' r := by
  cases r with
  | ok d h => exact fun m' H' w rh => f d h m' H' w rh (OutT.mono o w)
  | exc c h => exact o
  | bad => exact o
theorem OutT.toS {N : Ends} {Q' : Bool → Hp → Prop} {r : R Bool} {ds : Sl} {k : Bool → Hs → RS} (hs : RepS g.K m H ds σ) (o : OutS g m H N (lift r ds k)) (f : ∀ b h' m' H', Grow m H m' H' → RepH g.K m' H' h' → OutS g m' H' N (k b h') → Q' b H') : OutT g m H σ Q' r := by
  cases r with
  | ok d h => exact fun m' H' w rh => f d h m' H' w rh (OutS.mono o w)
  | exc c h => exact fun m' H' w rh => o σ m' H' w (hs.mono w) rh
  | bad => exact o
end
end DV
namespace DV
open PySem PySem.Spec PyProof.Rows L2
section
variable {K : PySem.W.Frag} {m m' : List Addr} {H H' : Hp} {h : Hs} {p a : Addr} {o u : HO} {ao : AO}
theorem RepH.fresh (r : RepH K m H h) (n : H p = none) : p ∉ m := fun hm => by
  obtain ⟨i, hi⟩ := List.mem_iff_getElem?.mp hm
  obtain ⟨hl, _⟩ := List.getElem?_eq_some_iff.mp hi
  have hl' : i < h.length := by rw [← r.len]; exact hl
  exact (r.at_ i p _ hi (List.getElem?_eq_getElem hl')).some n
theorem RepO.keep0 (r : RepO K m H a ao) (g : Grw m H m' H') (e : H' a = H a) : RepO K m' H' a ao := by
  cases ao with
  | lst ds => obtain ⟨xs, q, l⟩ := r; exact ⟨xs, e.trans q, l.mono0 g⟩
  | dct kvs => obtain ⟨xs, q, k, l⟩ := r; exact ⟨xs, e.trans q, k, l.mono0 g⟩
  | fdc kvs => obtain ⟨o, xs, q, k, l⟩ := r; exact ⟨o, xs, e.trans q, k, l.mono0 g⟩
  | dcT kvs => obtain ⟨xs, q, k, l⟩ := r; exact ⟨xs, e.trans q, k, l.mono0 g⟩
  | ins C fs => obtain ⟨dx, xs, q, k, l⟩ := r; exact ⟨dx, xs, e.trans q, k, l.mono0 g⟩
theorem RepO.keep (r : RepO K m H a ao) (g : Grow m H m' H') (e : H' a = H a) : RepO K m' H' a ao := r.keep0 g.w e
theorem Grow.put (n : H p = none) : Grow m H m (upd H p o) :=
  ⟨⟨[], by simp⟩, fun b xs e => by rw [upd_ne (ne_of_none e n)]; exact e, fun b o xs e => by rw [upd_ne (ne_of_none e n)]; exact e, fun b o e => by rw [upd_ne (ne_of_none e n)]; exact e⟩
theorem Grow.app (n : H p = none) : Grow m H (m ++ [p]) (upd H p o) := ⟨⟨[p], rfl⟩, (Grow.put (m := m) n).tup, (Grow.put (m := m) n).frz, (Grow.put (m := m) n).ext⟩
theorem RepH.put (r : RepH K m H h) (n : H p = none) : RepH K m (upd H p o) h :=
  ⟨r.len, r.nd, fun i b ob hi hb => (r.at_ i b ob hi hb).keep (.put n) (upd_ne fun z => r.fresh n (by rw [← z]; exact List.mem_of_getElem? hi))⟩
theorem RepH.new (r : RepH K m H h) (n : H p = none) (new : RepO K (m ++ [p]) (L2.upd H p o) p ao) : RepH K (m ++ [p]) (L2.upd H p o) (h ++ [ao]) := by
  have fr := r.fresh n
  refine ⟨by simp [r.len], ?_, fun i b ob hi hb => ?_⟩
  · exact List.nodup_append.mpr ⟨r.nd, by simp, fun x hx y hy z => fr (by simp at hy; rw [← hy, ← z]; exact hx)⟩
  · by_cases hl : i < m.length
    · rw [List.getElem?_append_left hl] at hi
      rw [List.getElem?_append_left (by rw [← r.len]; exact hl)] at hb
      exact (r.at_ i b ob hi hb).keep (.app n) (upd_ne fun z => fr (by rw [← z]; exact List.mem_of_getElem? hi))
    · have hz : i = m.length := by
        obtain ⟨q, _⟩ := List.getElem?_eq_some_iff.mp hi
        simp at q; omega
      subst hz
      simp at hi
      rw [r.len] at hb
      simp at hb
      subst hi hb
      exact new
/-- an object written -/
theorem Grow.write (e : H a = some u) (n1 : ∀ xs, u ≠ .tup xs) (n2 : ∀ o v, u ≠ .frz o v) (n3 : ∀ φ, u ≠ .ext φ) : Grow m H m (L2.upd H a o) :=
  ⟨⟨[], by simp⟩, fun b xs q => by rw [upd_ne (fun z => n1 xs (by rw [z, e] at q; exact Option.some.inj q))]; exact q,
    fun b o xs q => by rw [upd_ne (fun z => n2 o xs (by rw [z, e] at q; exact Option.some.inj q))]; exact q,
    fun b φ q => by rw [upd_ne (fun z => n3 φ (by rw [z, e] at q; exact Option.some.inj q))]; exact q⟩
theorem RepH.write {l : Nat} (r : RepH K m H h) (hl : m[l]? = some a) (e : H a = some u) (n1 : ∀ xs, u ≠ .tup xs) (n2 : ∀ o v, u ≠ .frz o v) (n3 : ∀ φ, u ≠ .ext φ) (new : RepO K m (L2.upd H a o) a ao) : RepH K m (L2.upd H a o) (h.set l ao) := by
  refine ⟨by simp [r.len], r.nd, fun i b ob hi hb => ?_⟩
  by_cases z : i = l
  · subst z
    rw [hl] at hi; cases hi
    obtain ⟨q, hq⟩ := List.getElem?_eq_some_iff.mp hb
    simp at q hq
    subst hq
    exact new
  · rw [List.getElem?_set_ne (Ne.symm z)] at hb
    refine (r.at_ i b ob hi hb).keep (.write e n1 n2 n3) (upd_ne fun w => z ?_)
    subst w
    obtain ⟨q1, e1⟩ := List.getElem?_eq_some_iff.mp hi
    obtain ⟨q2, e2⟩ := List.getElem?_eq_some_iff.mp hl
    exact (List.getElem_inj r.nd).mp (e1.trans e2.symm)
theorem RepH.lst {l : Nat} {ds : List D} (r : RepH K m H h) (hl : m[l]? = some a) (e : h[l]? = some (.lst ds)) : ∃ xs, H a = some (.lst xs) ∧ RepL K m H ds xs := r.at_ l a _ hl e
end
abbrev Res := Option (D × Hs)
abbrev VF2 := D → D → Hs → Res
def R.ofO : Res → R D
  | some p => .ok p.1 p.2
  | none => .bad
@[simp] theorem R.ofO_some (d : D) (h : Hs) : R.ofO (some (d, h)) = .ok d h := rfl
@[simp] theorem R.ofO_none : R.ofO none = .bad := rfl
def OutV (K : PySem.W.Frag) (m : List Addr) (H : Hp) (Q : VK) : Res → Prop
  | some p => ∀ v m' H', Grow m H m' H' → RepV K m' H' p.1 v → RepH K m' H' p.2 → Q v H'
  | none => False
def rV (K : PySem.W.Frag) (F : VF2) : R2 := fun x y H Q => ∃ m h dx dy, RepV K m H dx x ∧ RepV K m H dy y ∧ RepH K m H h ∧ OutV K m H Q (F dx dy h)
theorem OutV.of {g : Cfg} {m : List Addr} {H : Hp} {σ : St} {Q : VK} {r : Res} (o : OutE g m H σ Q (.ofO r)) : OutV g.K m H Q r := by
  cases r with
  | some p => exact o
  | none => exact o
/-- a value told, the heap as it is -/
theorem OutV.keep {K : PySem.W.Frag} {m : List Addr} {H : Hp} {h : Hs} {Q : VK} {d : D} {v : V} (o : OutV K m H Q (some (d, h))) (r : RepV K m H d v) (rh : RepH K m H h) : Q v H := o v m H (.refl _ _) r rh
theorem PE.weak {X : Cx} {e : Expr} {t t' : TE} (p : PE X e t) (w : ∀ σ H Q, t' σ H Q → t σ H Q) : PE X e t' := ⟨fun pns s σ H Q I h => p.run pns s σ H Q I (w σ H Q h)⟩
theorem PT.weak {X : Cx} {e : Expr} {t t' : TT} (p : PT X e t) (w : ∀ σ H Q, t' σ H Q → t σ H Q) : PT X e t' := ⟨fun pns s σ H Q I h => p.run pns s σ H Q I (w σ H Q h)⟩
theorem PW.weak {X : Cx} {e : Expr} {t t' : TT} (p : PW X e t) (w : ∀ σ H Q, t' σ H Q → t σ H Q) : PW X e t' := ⟨fun wh pns s σ H Q I h => p.run wh pns s σ H Q I (w σ H Q h)⟩
theorem PA.weak {X : Cx} {e : List Expr} {t t' : TA} (p : PA X e t) (w : ∀ σ H Q, t' σ H Q → t σ H Q) : PA X e t' := ⟨fun pos pns s σ H Q I h => p.run pos pns s σ H Q I (w σ H Q h)⟩
theorem PS.weak {X : Cx} {e : Stmt} {t t' : TS} (p : PS X e t) (w : ∀ N σ H, t' N σ H → t N σ H) : PS X e t' := ⟨fun pns s σ H Q I h => p.run pns s σ H Q I (w Q σ H h)⟩
theorem PSs.weak {X : Cx} {e : List Stmt} {t t' : TS} (p : PSs X e t) (w : ∀ N σ H, t' N σ H → t N σ H) : PSs X e t' := ⟨fun pns s σ H Q I h => p.run pns s σ H Q I (w Q σ H h)⟩
def cM (d : D) : EM := fun _ h => .ok d h
def vM (i : Nat) : EM := fun ds h => match ds[i]? with
  | some (some d) => .ok d h
  | _ => .bad
def binM (F : VF2) (A B : EM) : EM := fun ds h => (A ds h).bind fun x h => (B ds h).bind fun y h => .ofO (F x y h)
def unM (F : D → Hs → Res) (A : EM) : EM := fun ds h => (A ds h).bind fun x h => .ofO (F x h)
def nilA : AM := fun _ h => .ok [] h
def consA (A : EM) (B : AM) : AM := fun ds h => (A ds h).bind fun x h => (B ds h).bind fun xs h => .ok (x :: xs) h
abbrev LIM : Nat := 16777216
def tupF (xs : List D) (h : Hs) : Res := if xs.length ≤ LIM then some (.tup xs, h) else none
def lstF (xs : List D) (h : Hs) : Res := if xs.length ≤ LIM then some (.loc h.length, h ++ [.lst xs]) else none
def argM (F : List D → Hs → Res) (A : AM) : EM := fun ds h => (A ds h).bind fun xs h => .ofO (F xs h)
/-- a value as a test: a truth -/
def tbM (A : EM) : TM := fun ds h => (A ds h).bind fun d h => match d with
  | .bl b => .ok b h
  | _ => .bad
def truD : D → Hs → Option Bool
  | .non, _ => some false
  | .bl b, _ => some b
  | .int i, _ => some (i != 0)
  | .str s, _ => if s.length ≤ LIM then some ((s.length : Int) != 0) else none
  | .tup ds, _ => some (!ds.isEmpty)
  | .loc l, h => match h[l]? with
    | some (.lst ds) => some (!ds.isEmpty)
    | _ => none
  | _, _ => none
def truM (A : EM) : TM := fun ds h => (A ds h).bind fun d h => match truD d h with
  | some b => .ok b h
  | none => .bad
def andM (A B : TM) : TM := fun ds h => (A ds h).bind fun b h => if b = true then B ds h else .ok false h
def orM (A B : TM) : TM := fun ds h => (A ds h).bind fun b h => if b = true then .ok true h else B ds h
def notM (A : TM) : TM := fun ds h => (A ds h).bind fun b h => .ok (!b) h
def andV (A B : EM) : EM := fun ds h => (A ds h).bind fun d h => match d with
  | .bl b => if b = true then B ds h else .ok (.bl false) h
  | _ => .bad
def orV (A B : EM) : EM := fun ds h => (A ds h).bind fun d h => match d with
  | .bl b => if b = true then .ok (.bl true) h else B ds h
  | _ => .bad
def notV (A : EM) : EM := fun ds h => (A ds h).bind fun d h => match d with
  | .bl b => .ok (.bl (!b)) h
  | _ => .bad
def chainM (F G : VF2) (A B C : EM) : EM := fun ds h => (A ds h).bind fun x h => (B ds h).bind fun y h => (R.ofO (F x y h)).bind fun z h => match z with
  | .bl b => if b = true then (C ds h).bind fun w h => .ofO (G y w h) else .ok (.bl false) h
  | _ => .bad
def ifE (T : TM) (A B : EM) : EM := fun ds h => (T ds h).bind fun b h => if b = true then A ds h else B ds h
section
variable {X : Cx} {g : Cfg} {e a b c : Expr} {es : List Expr} {A B C : EM} {pos : Pos} {F G : VF2}
theorem em_const {v : V} {d : D} (p : PE X e (tC v)) (r : ∀ m H, RepV g.K m H d v) : PE X e (tM g (cM d)) := PE.weak p fun σ H Q ⟨m, ds, h, hs, rh, o⟩ => o v m H (.refl _ _) (r m H) rh
theorem em_int {i : Int} {j pos} : PE X (.Constant (.int i) j pos) (tM g (cM (.int i))) := em_const pe_int fun m H => by unfold RepV; rfl
theorem em_str {i : Str} {j pos} : PE X (.Constant (.str i) j pos) (tM g (cM (.str i))) := em_const pe_str fun m H => by unfold RepV; rfl
theorem em_bl {i : Bool} {j pos} : PE X (.Constant (.bool i) j pos) (tM g (cM (.bl i))) := em_const pe_bl fun m H => by unfold RepV; rfl
theorem em_gint {x : Str} {i : Int} {pos : Pos} (hg : Gl X x) (hm : ∃ t, X.mg x = some (.int i t)) (hd : (x == ("__debug__" : Str)) = false := by decide) : PE X (.Name x pos) (tM g (cM (.int i))) := by
  obtain ⟨t, hm⟩ := hm
  exact em_const (pe_glob (v := .int i) hg hm ⟨t, rfl⟩ hd) fun m H => by unfold RepV; rfl
theorem em_gstr {x : Str} {i : Str} {pos : Pos} (hg : Gl X x) (hm : ∃ t, X.mg x = some (.str i t)) (hd : (x == ("__debug__" : Str)) = false := by decide) : PE X (.Name x pos) (tM g (cM (.str i))) := by
  obtain ⟨t, hm⟩ := hm
  exact em_const (pe_glob (v := .str i) hg hm ⟨t, rfl⟩ hd) fun m H => by unfold RepV; rfl
theorem em_v {i : Nat} (p : PE X e (tVar i)) : PE X e (tM g (vM i)) := PE.weak p fun σ H Q ⟨m, ds, h, hs, rh, o⟩ => by
  unfold vM at o
  split at o
  · rename_i d hd
    obtain ⟨v, e1, r⟩ := hs.get hd
    exact ⟨v, e1, o v m H (.refl _ _) r rh⟩
  · exact o.elim
theorem bin_read {σ : St} {H : Hp} {Q : VK} (q : tM g (binM F A B) σ H Q) : tOp (rV g.K F) (tM g A) (tM g B) σ H Q := by
  obtain ⟨m, ds, h, hs, rh, o⟩ := q
  refine ⟨m, ds, h, hs, rh, OutE.toE o fun d1 h1 v1 m1 H1 g1 r1 rh1 o1 => ?_⟩
  refine ⟨m1, ds, h1, hs.mono g1, rh1, OutE.toE o1 fun d2 h2 v2 m2 H2 g2 r2 rh2 o2 => ?_⟩
  exact ⟨m2, h2, d1, d2, r1.mono g2, r2, rh2, .of o2⟩
theorem em_bin {op : Operator} (ho : OpR X (binaryOp op) (rV g.K F)) (ha : PE X a (tM g A)) (hb : PE X b (tM g B)) : PE X (.BinOp a op b pos) (tM g (binM F A B)) := PE.weak (pe_op ho ha hb) fun _ _ _ => bin_read
theorem em_cmp {op : CmpOp} (ho : OpR X (compareOp op) (rV g.K F)) (ha : PE X a (tM g A)) (hb : PE X b (tM g B)) (hm : behindInMarks op b = false) : PE X (.Compare a [op] [b] pos) (tM g (binM F A B)) := PE.weak (pe_cmpR ho ha hb hm) fun _ _ _ => bin_read
theorem em_ix (ho : IxR X (rV g.K F)) (ha : PE X a (tM g A)) (hb : PE X b (tM g B)) (hs : PlainIx b) : PE X (.Subscript a b pos) (tM g (binM F A B)) := PE.weak (pe_ix ho ha hb hs) fun _ _ _ => bin_read
theorem tb_read {σ : St} {H : Hp} {Q : Bool → Hp → Prop} (q : tT g (tbM A) σ H Q) : tM g A σ H fun x H' => ∃ k, x = .bl k ∧ Q k H' := by
  obtain ⟨m, ds, h, hs, rh, o⟩ := q
  refine ⟨m, ds, h, hs, rh, OutE.toT o fun d h' v m' H' w rv rh' o' => ?_⟩
  cases d with
  | bl b => exact ⟨b, by unfold RepV at rv; exact rv, o' m' H' (.refl _ _) rh'⟩
  | _ => exact (show False from o').elim
/-- comparisons as tests -/
theorem tm_cmp {op : CmpOp} (ho : OpR X (compareOp op) (rV g.K F)) (ha : PE X a (tM g A)) (hb : PE X b (tM g B)) (hm : behindInMarks op b = false) : PT X (.Compare a [op] [b] pos) (tT g (tbM (binM F A B))) :=
  PT.weak (pt_cmpR ho ha hb hm) fun σ H Q q => bin_read (tb_read q)
/-- any value as a test -/
theorem tm_tru (ha : PE X a (tM g A)) (hK : X.K = g.K) (he : ∀ whole, isTrue a X.env whole = (do let v ← whole; standAt a.pos; holding [v] (truthy v)) := by intro _; rfl) : PT X a (tT g (truM A)) := by
  refine PT.weak (pt_truth ha he) fun σ H Q ⟨m, ds, h, hs, rh, o⟩ => ⟨m, ds, h, hs, rh, OutE.toT o fun d h' v m' H' w rv rh' o' => ?_⟩
  have fin : ∀ {b : Bool}, OutT g m' H' σ Q (.ok b h') → Q b H' := fun q => q m' H' (.refl _ _) rh'
  have ls : sizeLine = 16777216 := sizeLine_eq
  cases d with
  | non => unfold RepV at rv; subst rv; exact ⟨false, rfl, fin o'⟩
  | bl b => unfold RepV at rv; subst rv; exact ⟨b, rfl, fin o'⟩
  | int i => unfold RepV at rv; subst rv; exact ⟨_, rfl, fin o'⟩
  | str s =>
    unfold RepV at rv; subst rv
    by_cases hz : s.length ≤ LIM
    · refine ⟨_, ⟨by rw [ls]; exact hz, rfl⟩, fin ?_⟩
      have e : truD (.str s) h' = some ((s.length : Int) != 0) := if_pos hz
      simpa only [e] using o'
    · have e : truD (.str s) h' = none := if_neg hz
      simp only [e] at o'
      exact o'.elim
  | tup xs =>
    unfold RepV at rv
    obtain ⟨p, vs, rfl, hp, rl⟩ := rv
    refine ⟨!vs.isEmpty, .inr (.inl ⟨vs, SqT.of hp, rfl⟩), ?_⟩
    have e : vs.isEmpty = xs.isEmpty := by
      rw [Bool.eq_iff_iff, List.isEmpty_iff, List.isEmpty_iff]; exact rl.nil_iff
    rw [e]
    exact fin o'
  | loc l =>
    unfold RepV at rv
    obtain ⟨p, hp, rfl⟩ := rv
    cases q : h'[l]? with
    | none => simp only [truD, q] at o'; exact o'.elim
    | some ao =>
      cases ao with
      | lst xs =>
        obtain ⟨vs, hv, rl⟩ := rh'.lst hp q
        refine ⟨!vs.isEmpty, .inl ⟨vs, SqL.of hv, rfl⟩, ?_⟩
        have e : vs.isEmpty = xs.isEmpty := by
          rw [Bool.eq_iff_iff, List.isEmpty_iff, List.isEmpty_iff]; exact rl.nil_iff
        rw [e]
        simp only [truD, q] at o'
        exact fin o'
      | _ => simp only [truD, q] at o'; exact o'.elim
  | exn c => exact (show False from o').elim
  | ro ns => exact (show False from o').elim
theorem tm_and1 {T : TM} (ha : PT X a (tT g T)) : PW X (.BoolOp .And [a] pos) (tT g T) := pw_and1 ha
theorem tm_or1 {T : TM} (ha : PT X a (tT g T)) : PW X (.BoolOp .Or [a] pos) (tT g T) := pw_or1 ha
theorem tm_and {T U : TM} {rest : List Expr} (ha : PT X a (tT g T)) (hb : PW X (.BoolOp .And (b :: rest) pos) (tT g U)) : PW X (.BoolOp .And (a :: b :: rest) pos) (tT g (andM T U)) := by
  refine PW.weak (pw_and ha hb) fun σ H Q ⟨m, ds, h, hs, rh, o⟩ => ⟨m, ds, h, hs, rh, OutT.toT o fun k h' m' H' w rh' o' => ?_⟩
  cases k with
  | true => rw [if_pos rfl] at o' ⊢; exact ⟨m', ds, h', hs.mono w, rh', o'⟩
  | false => rw [if_neg Bool.false_ne_true] at o' ⊢; exact o' m' H' (.refl _ _) rh'
theorem tm_or {T U : TM} {rest : List Expr} (ha : PT X a (tT g T)) (hb : PW X (.BoolOp .Or (b :: rest) pos) (tT g U)) : PW X (.BoolOp .Or (a :: b :: rest) pos) (tT g (orM T U)) := by
  refine PW.weak (pw_or ha hb) fun σ H Q ⟨m, ds, h, hs, rh, o⟩ => ⟨m, ds, h, hs, rh, OutT.toT o fun k h' m' H' w rh' o' => ?_⟩
  cases k with
  | true => rw [if_pos rfl] at o' ⊢; exact o' m' H' (.refl _ _) rh'
  | false => rw [if_neg Bool.false_ne_true] at o' ⊢; exact ⟨m', ds, h', hs.mono w, rh', o'⟩
theorem tm_not {T : TM} (ha : PT X a (tT g T)) : PT X (.UnaryOp .Not a pos) (tT g (notM T)) := by
  refine PT.weak (pt_not ha) fun σ H Q ⟨m, ds, h, hs, rh, o⟩ => ⟨m, ds, h, hs, rh, OutT.toT o fun k h' m' H' w rh' o' => ?_⟩
  exact o' m' H' (.refl _ _) rh'
theorem em_one {op} (ha : PE X a (tM g A)) : PE X (.BoolOp op [a] pos) (tM g A) := pe_one ha
theorem em_and {rest : List Expr} (ha : PE X a (tM g A)) (hb : PE X (.BoolOp .And (b :: rest) pos) (tM g B)) : PE X (.BoolOp .And (a :: b :: rest) pos) (tM g (andV A B)) := by
  refine PE.weak (pe_and ha hb) fun σ H Q ⟨m, ds, h, hs, rh, o⟩ => ⟨m, ds, h, hs, rh, OutE.toE o fun d h' v m' H' w rv rh' o' => ?_⟩
  cases d with
  | bl k =>
    refine ⟨k, by unfold RepV at rv; exact rv, ?_⟩
    have o' : OutE g m' H' σ Q (if k = true then B ds h' else .ok (.bl false) h') := o'
    cases k with
    | true => rw [if_pos rfl] at o' ⊢; exact ⟨m', ds, h', hs.mono w, rh', o'⟩
    | false => rw [if_neg Bool.false_ne_true] at o' ⊢; exact o' _ m' H' (.refl _ _) (by unfold RepV; rfl) rh'
  | _ => exact (show False from o').elim
theorem em_or {rest : List Expr} (ha : PE X a (tM g A)) (hb : PE X (.BoolOp .Or (b :: rest) pos) (tM g B)) : PE X (.BoolOp .Or (a :: b :: rest) pos) (tM g (orV A B)) := by
  refine PE.weak (pe_or ha hb) fun σ H Q ⟨m, ds, h, hs, rh, o⟩ => ⟨m, ds, h, hs, rh, OutE.toE o fun d h' v m' H' w rv rh' o' => ?_⟩
  cases d with
  | bl k =>
    refine ⟨k, by unfold RepV at rv; exact rv, ?_⟩
    have o' : OutE g m' H' σ Q (if k = true then .ok (.bl true) h' else B ds h') := o'
    cases k with
    | true => rw [if_pos rfl] at o' ⊢; exact o' _ m' H' (.refl _ _) (by unfold RepV; rfl) rh'
    | false => rw [if_neg Bool.false_ne_true] at o' ⊢; exact ⟨m', ds, h', hs.mono w, rh', o'⟩
  | _ => exact (show False from o').elim
theorem em_not (ha : PE X a (tM g A)) : PE X (.UnaryOp .Not a pos) (tM g (notV A)) := by
  refine PE.weak (pe_not ha) fun σ H Q ⟨m, ds, h, hs, rh, o⟩ => ⟨m, ds, h, hs, rh, OutE.toE o fun d h' v m' H' w rv rh' o' => ?_⟩
  cases d with
  | bl k => exact ⟨k, by unfold RepV at rv; exact rv, o' _ m' H' (.refl _ _) (by unfold RepV; rfl) rh'⟩
  | _ => exact (show False from o').elim
theorem am_nil : PA X [] (tA g nilA) := PA.weak pa_nil fun σ H Q ⟨m, ds, h, hs, rh, o⟩ => o [] m H (.refl _ _) .nil rh
theorem am_cons {As : AM} (ha : PE X e (tM g A)) (hr : PA X es (tA g As)) (hs : starEach (e :: es) X.env = (false, eval e X.env) :: starEach es X.env := by rfl) : PA X (e :: es) (tA g (consA A As)) := by
  refine PA.weak (pa_cons ha hr hs) fun σ H Q ⟨m, ds, h, hs, rh, o⟩ => ⟨m, ds, h, hs, rh, OutE.toA o fun d h' v m' H' w rv rh' o' => ?_⟩
  refine ⟨m', ds, h', hs.mono w, rh', OutA.toA o' fun xs h2 vs m2 H2 w2 rl rh2 o2 => ?_⟩
  exact o2 _ m2 H2 (.refl _ _) (.cons (rv.mono w2) rl) rh2
theorem em_tup {As : AM} {x1} (h : PA X es (tA g As)) : PE X (.Tuple es x1 pos) (tM g (argM tupF As)) := by
  refine PE.weak (pe_tup h) fun σ H Q ⟨m, ds, h, hs, rh, o⟩ => ⟨m, ds, h, hs, rh, OutA.toE o fun xs h' vs m' H' w rl rh' o' => ?_⟩
  have ls : sizeLine = 16777216 := sizeLine_eq
  by_cases hz : xs.length ≤ LIM
  · have e : tupF xs h' = some (.tup xs, h') := if_pos hz
    rw [e] at o'
    refine ⟨by rw [rl.length, ls]; exact hz, fun p hp => o' _ m' _ (.put hp) ?_ (rh'.put hp)⟩
    unfold RepV
    exact ⟨p, vs, rfl, upd_same, rl.mono (.put hp)⟩
  · have e : tupF xs h' = none := if_neg hz
    rw [e] at o'
    exact o'.elim
/-- a new list tracked -/
theorem new_lst {m : List Addr} {H : Hp} {h : Hs} {xs : List D} {vs : List V} {p : Addr} (rl : RepL g.K m H xs vs) (rh : RepH g.K m H h) (hp : H p = none) :
    RepV g.K (m ++ [p]) (upd H p (.lst vs)) (.loc h.length) (.ref p) ∧ RepH g.K (m ++ [p]) (upd H p (.lst vs)) (h ++ [.lst xs]) := by
  refine ⟨?_, rh.new hp ⟨vs, upd_same, rl.mono (.app hp)⟩⟩
  unfold RepV
  exact ⟨p, by rw [← rh.len]; simp, rfl⟩
theorem em_lst {As : AM} (h : PA X es (tA g As)) : PE X (.List es pos) (tM g (argM lstF As)) := by
  refine PE.weak (pe_lst h) fun σ H Q ⟨m, ds, h, hs, rh, o⟩ => ⟨m, ds, h, hs, rh, OutA.toE o fun xs h' vs m' H' w rl rh' o' => ?_⟩
  have ls : sizeLine = 16777216 := sizeLine_eq
  by_cases hz : xs.length ≤ LIM
  · have e : lstF xs h' = some (.loc h'.length, h' ++ [.lst xs]) := if_pos hz
    rw [e] at o'
    refine ⟨by rw [rl.length, ls]; exact hz, fun p hp => ?_⟩
    obtain ⟨q1, q2⟩ := new_lst rl rh' hp
    exact o' _ _ _ (.app hp) q1 q2
  · have e : lstF xs h' = none := if_neg hz
    rw [e] at o'
    exact o'.elim
def rC (K : PySem.W.Frag) (F : List D → Hs → Res) : List V → Hp → VK → Prop := fun vs H Q => ∃ m h ds, RepL K m H ds vs ∧ RepH K m H h ∧ OutV K m H Q (F ds h)
theorem call_read {Fc : List D → Hs → Res} {As : AM} {σ : St} {H : Hp} {Q : VK} (q : tM g (argM Fc As) σ H Q) : tCB (rC g.K Fc) (tA g As) σ H Q := by
  obtain ⟨m, ds, h, hs, rh, o⟩ := q
  exact ⟨m, ds, h, hs, rh, OutA.toE o fun xs h' vs m' H' w rl rh' o' => ⟨m', h', xs, rl, rh', .of o'⟩⟩
theorem em_callB {id : String} {Fc : List D → Hs → Res} {As : AM} {x : Str} {p : Pos} (hc : CallR X (.builtin id) (rC g.K Fc)) (hg : Gl X x) (hm : X.mg x = none) (hv : bootBuiltins x = some (.builtin id)) (ha : PA X (e :: es) (tA g As)) (hn : x ≠ "__name__" := by decide) (hdb : (x == ("__debug__" : Str)) = false := by decide)
    (he : starEach (e :: es) X.env = (false, eval e X.env) :: starEach es X.env := by rfl) (hpl : (backTo pos (starEach es X.env)).any (·.1) = false := by rfl) : PE X (.Call (.Name x p) (e :: es) [] pos) (tM g (argM Fc As)) :=
  PE.weak (pe_callB hc hg hm hv ha hn hdb he hpl) fun _ _ _ => call_read
theorem em_callTy {T : String} {Fc : List D → Hs → Res} {As : AM} {x : Str} {p : Pos} (hc : CallR X (.type T) (rC g.K Fc)) (hg : Gl X x) (hm : X.mg x = none) (hv : bootBuiltins x = some (.type T)) (ha : PA X (e :: es) (tA g As)) (hn : x ≠ "__name__" := by decide) (hdb : (x == ("__debug__" : Str)) = false := by decide)
    (he : starEach (e :: es) X.env = (false, eval e X.env) :: starEach es X.env := by rfl) (hpl : (backTo pos (starEach es X.env)).any (·.1) = false := by rfl) : PE X (.Call (.Name x p) (e :: es) [] pos) (tM g (argM Fc As)) :=
  PE.weak (pe_callTy hc hg hm hv ha hn hdb he hpl) fun _ _ _ => call_read
end
end DV
namespace DV
open PySem PySem.Spec PyProof.Rows L2
def passM : SM := fun ds h => .nx ds h
def seqM (A B : SM) : SM := fun ds h => match A ds h with
  | .nx ds h => B ds h
  | r => r
def setM (i : Nat) (A : EM) : SM := fun ds h => lift (A ds h) ds fun d h => .nx (ds.set i (some d)) h
def exprM (A : EM) : SM := fun ds h => lift (A ds h) ds fun _ h => .nx ds h
def retM (A : EM) : SM := fun ds h => lift (A ds h) ds fun d h => .rt d h
def retN : SM := fun _ h => .rt .non h
def ifM (T : TM) (A B : SM) : SM := fun ds h => lift (T ds h) ds fun b h => if b = true then A ds h else B ds h
def raiseM (c : Str) : SM := fun ds h => .exc c ds h
def whileM (T : TM) (B : SM) : Nat → SM
  | 0 => fun _ _ => .bad
  | n + 1 => fun ds h => lift (T ds h) ds fun b h => if b = true then (match B ds h with
    | .nx ds h => whileM T B n ds h
    | .ct ds h => whileM T B n ds h
    | .bk ds h => .nx ds h
    | r => r) else .nx ds h
/-- targets -/
abbrev GM := D → Sl → Hs → RS
def nameG (i : Nat) : GM := fun d ds h => .nx (ds.set i (some d)) h
def nilG : List D → Sl → Hs → RS := fun xs ds h => match xs with
  | [] => .nx ds h
  | _ => .bad
def consG (T : GM) (U : List D → Sl → Hs → RS) : List D → Sl → Hs → RS := fun xs ds h => match xs with
  | x :: r => (match T x ds h with
    | .nx ds h => U r ds h
    | _ => .bad)
  | [] => .bad
def tupG (n : Nat) (U : List D → Sl → Hs → RS) : GM := fun d ds h => match d with
  | .tup xs => if xs.length = n then U xs ds h else .bad
  | _ => .bad
def asgM (A : EM) (T : GM) : SM := fun ds h => lift (A ds h) ds fun d h => T d ds h
/-- loops over known items, under a guard -/
abbrev IM := Sl → Hs → R (List D × (Hs → Prop))
open Classical in
noncomputable def loopM (gd : Hs → Prop) (T : GM) (B : SM) : List D → SM
  | [] => fun ds h => if gd h then .nx ds h else .bad
  | d :: r => fun ds h => if gd h then (match T d ds h with
    | .nx ds h => (match B ds h with
      | .nx ds h => loopM gd T B r ds h
      | .ct ds h => loopM gd T B r ds h
      | .bk ds h => .nx ds h
      | q => q)
    | _ => .bad) else .bad
noncomputable def forM (I : IM) (T : GM) (B : SM) : SM := fun ds h => lift (I ds h) ds fun p h => loopM p.2 T B p.1 ds h
def tG (g : Cfg) (T : GM) : TG := fun v σ H Q => ∃ m d ds h, RepV g.K m H d v ∧ RepS g.K m H ds σ ∧ RepH g.K m H h ∧ OutS g m H { nx := Q, rt := fun _ _ => False } (match T d ds h with | .nx ds h => .nx ds h | _ => .bad)
def tGs (g : Cfg) (U : List D → Sl → Hs → RS) : TGs := fun vs σ H Q => ∃ m xs ds h, RepL g.K m H xs vs ∧ RepS g.K m H ds σ ∧ RepH g.K m H h ∧ OutS g m H { nx := Q, rt := fun _ _ => False } (match U xs ds h with | .nx ds h => .nx ds h | _ => .bad)
theorem PG.weak {X : Cx} {e : Expr} {t t' : TG} (p : PG X e t) (w : ∀ v σ H Q, t' v σ H Q → t v σ H Q) : PG X e t' := ⟨fun pns s σ H v u Q I r h => p.run pns s σ H v u Q I r (w v σ H Q h)⟩
theorem PGs.weak {X : Cx} {e : List Expr} {t t' : TGs} (p : PGs X e t) (w : ∀ v σ H Q, t' v σ H Q → t v σ H Q) : PGs X e t' := ⟨fun pns s σ H v u Q I r h => p.run pns s σ H v u Q I r (w v σ H Q h)⟩
theorem PI.weak {X : Cx} {tg e : Expr} {t t' : TI} (p : PI X tg e t) (w : ∀ σ H R, t' σ H R → t σ H R) : PI X tg e t' := ⟨fun pns s σ H R I h => p.run pns s σ H R I (w σ H R h)⟩
section
variable {X : Cx} {g : Cfg} {e a b c tg iter : Expr} {es : List Expr} {A B C : EM} {pos : Pos} {F G : VF2} {S U : SM} {T : TM} {st : Stmt} {sts body : List Stmt}
theorem sms_nil : PSs X [] (tS g passM) := PSs.weak pss_nil fun N σ H ⟨m, ds, h, hs, rh, o⟩ => o σ m H (.refl _ _) hs rh
theorem sms_one (h1 : PS X st (tS g S)) : PSs X [st] (tS g S) := pss_one h1
theorem sms_cons (h1 : PS X st (tS g S)) (h2 : PSs X sts (tS g U)) : PSs X (st :: sts) (tS g (seqM S U)) := by
  refine PSs.weak (pss_cons h1 h2) fun N σ H ⟨m, ds, h, hs, rh, o⟩ => ⟨m, ds, h, hs, rh, ?_⟩
  unfold seqM at o
  cases q : S ds h with
  | nx ds1 h1 =>
    rw [q] at o
    exact fun σ1 m1 H1 g1 r1 rh1 => ⟨m1, ds1, h1, r1, rh1, OutS.mono o g1⟩
  | rt d h1 => rw [q] at o; exact o
  | bk ds1 h1 => rw [q] at o; exact o
  | ct ds1 h1 => rw [q] at o; exact o
  | exc c ds1 h1 => rw [q] at o; exact o
  | bad => rw [q] at o; exact o
theorem sm_expr (he : PE X e (tM g A)) (hs : swapsWith e none pos.line X.env = pure false := by rfl) : PS X (.Expr e pos) (tS g (exprM A)) :=
  PS.weak (ps_expr he hs) fun N σ H ⟨m, ds, h, hs, rh, o⟩ => ⟨m, ds, h, hs, rh, OutE.toS hs o fun d h1 v m1 H1 g1 r1 rh1 o1 => o1 σ m1 H1 (.refl _ _) (hs.mono g1) rh1⟩
theorem sm_ret (he : PE X e (tM g A)) : PS X (.Return (some e) pos) (tS g (retM A)) :=
  PS.weak (ps_ret he) fun N σ H ⟨m, ds, h, hs, rh, o⟩ => ⟨m, ds, h, hs, rh, OutE.toS hs o fun d h1 v m1 H1 g1 r1 rh1 o1 => o1 v m1 H1 (.refl _ _) r1 rh1⟩
theorem sm_if {tb fb : List Stmt} (hc : PT X c (tT g T)) (ha : PSs X tb (tS g S)) (hb : PSs X fb (tS g U)) : PS X (.If c tb fb pos) (tS g (ifM T S U)) := by
  refine PS.weak (ps_if hc ha hb) fun N σ H ⟨m, ds, h, hs, rh, o⟩ => ⟨m, ds, h, hs, rh, OutT.toS hs o fun k h1 m1 H1 g1 rh1 o1 => ?_⟩
  cases k with
  | true => rw [if_pos rfl] at o1 ⊢; exact ⟨m1, ds, h1, hs.mono g1, rh1, o1⟩
  | false => rw [if_neg Bool.false_ne_true] at o1 ⊢; exact ⟨m1, ds, h1, hs.mono g1, rh1, o1⟩
theorem gm_name {i : Nat} (h : PG X tg (gName i)) : PG X tg (tG g (nameG i)) :=
  PG.weak h fun v σ H Q ⟨m, d, ds, h, rv, hs, rh, o⟩ => o (σ.set i (some v)) m H (.refl _ _) (hs.put i rv) rh
theorem gms_nil : PGs X [] (tGs g nilG) := PGs.weak pgs_nil fun vs σ H Q ⟨m, xs, ds, h, rl, hs, rh, o⟩ => by
  cases xs with
  | nil => unfold RepL at rl; exact ⟨rl, o σ m H (.refl _ _) hs rh⟩
  | cons x r => exact (show False from o).elim
theorem gms_cons {T1 : GM} {U1 : List D → Sl → Hs → RS} (h1 : PG X e (tG g T1)) (h2 : PGs X es (tGs g U1))
    (hs : (assignEach (e :: es) X.env).map (·.2) = assign e X.env :: (assignEach es X.env).map (·.2) := by rfl) : PGs X (e :: es) (tGs g (consG T1 U1)) := by
  refine PGs.weak (pgs_cons h1 h2 hs) fun vs σ H Q ⟨m, xs, ds, h, rl, hs, rh, o⟩ => ?_
  cases xs with
  | nil => exact (show False from o).elim
  | cons x r =>
    unfold RepL at rl
    obtain ⟨v, vr, rfl, r1, r2⟩ := rl
    refine ⟨v, vr, rfl, m, x, ds, h, r1, hs, rh, ?_⟩
    have o : OutS g m H { nx := Q, rt := fun _ _ => False } (match (match T1 x ds h with | .nx ds h => U1 r ds h | _ => .bad) with | .nx ds h => .nx ds h | _ => .bad) := o
    cases q : T1 x ds h with
    | nx ds1 h1 =>
      rw [q] at o
      exact fun σ1 m1 H1 g1 s1 rh1 => ⟨m1, r, ds1, h1, r2.mono g1, s1, rh1, OutS.mono o g1⟩
    | _ => rw [q] at o; exact (show False from o).elim
theorem gm_tup {k n : Nat} {U1 : List D → Sl → Hs → RS} (hc : X.calm = true) (h : PGs X es (tGs g U1)) (hK : X.K = g.K)
    (hn : (assignEach es X.env).length = n := by rfl) (hst : (assignEach es X.env).findIdx? (·.1) = none := by rfl) : PG X (.Tuple es k pos) (tG g (tupG n U1)) := by
  refine PG.weak (pg_tup hc h hn hst) fun v σ H Q ⟨m, d, ds, h, rv, hs, rh, o⟩ => ?_
  cases d with
  | tup xs =>
    unfold RepV at rv
    obtain ⟨p, vs, rfl, hp, rl⟩ := rv
    have o : OutS g m H { nx := Q, rt := fun _ _ => False } (match (if xs.length = n then U1 xs ds h else .bad) with | .nx ds h => .nx ds h | _ => .bad) := o
    by_cases hl : xs.length = n
    · rw [if_pos hl] at o
      exact ⟨p, vs, rfl, SqT.of hp, by rw [rl.length]; exact hl, m, xs, ds, h, rl, hs, rh, o⟩
    · rw [if_neg hl] at o; exact o.elim
  | _ => exact (show False from o).elim
/-- only a next or nothing comes of a target -/
def okG (T : GM) : GM := fun d ds h => match T d ds h with
  | .nx ds h => .nx ds h
  | _ => .bad
theorem sm_set {i : Nat} {x : Str} {pos' : Pos} (hN : X.N.Nodup) (hi : X.N[i]? = some x) (hx : Loc X.env.scope x) (he : PE X e (tM g A)) (hs : swapsWith e (some (.Name x pos')) pos.line X.env = pure false := by rfl) (hf : X.fn x = true ∨ X.env.scope.names.lookup x = some .local := by first | exact .inl rfl | exact .inr rfl | assumption) :
    PS X (.Assign [.Name x pos'] e pos) (tS g (setM i A)) :=
  PS.weak (ps_set hN hi hx he hs hf) fun N σ H ⟨m, ds, h, hs, rh, o⟩ => ⟨m, ds, h, hs, rh, OutE.toS hs o fun d h1 v m1 H1 g1 r1 rh1 o1 => o1 _ m1 H1 (.refl _ _) ((hs.mono g1).put i r1) rh1⟩
theorem sm_asg {T1 : GM} (he : PE X e (tM g A)) (hg : PG X tg (tG g T1)) (hs : swapsWithSole [tg] e pos.line X.env = pure false := by rfl) (hw : swappedStores [tg] e X.env = pure none := by rfl)
    (h1 : (assignEach [tg] X.env).map (·.2) = [assign tg X.env] := by rfl) : PS X (.Assign [tg] e pos) (tS g (asgM A (okG T1))) := by
  refine PS.weak (ps_asg he hg hs hw h1) fun N σ H ⟨m, ds, h, hs, rh, o⟩ => ⟨m, ds, h, hs, rh, OutE.toS hs o fun d h1 v m1 H1 g1 r1 rh1 o1 => ⟨m1, d, ds, h1, r1, hs.mono g1, rh1, ?_⟩⟩
  have o1 : OutS g m1 H1 N (match T1 d ds h1 with | .nx ds h => .nx ds h | _ => .bad) := o1
  cases q : T1 d ds h1 with
  | nx ds1 h1 => rw [q] at o1; exact o1
  | _ => rw [q] at o1; exact (show False from o1).elim
theorem sm_while (n : Nat) (hp : PassesOwn (model X.prog X.w) X.A X.env X.xe) (hc : PT X c (tT g T)) (hb : PSs X body (tS g S)) : PS X (.While c body [] pos) (tS g (whileM T S n)) := by
  refine PS.weak (ps_while hp hc hb) fun N σ H ⟨m, ds, h, hs, rh, o⟩ => ?_
  refine ⟨fun k σ H => ∃ m ds h, RepS g.K m H ds σ ∧ RepH g.K m H h ∧ OutS g m H N (whileM T S k ds h), ⟨n, m, ds, h, hs, rh, o⟩, ?_⟩
  rintro k σ H ⟨m, ds, h, hs, rh, o⟩
  cases k with
  | zero => exact (show False from o).elim
  | succ k =>
    refine ⟨m, ds, h, hs, rh, OutT.toS hs o fun b h1 m1 H1 g1 rh1 o1 => ?_⟩
    cases b with
    | true =>
      rw [if_pos rfl] at o1 ⊢
      refine ⟨fun σ H => ∃ m ds h, RepS g.K m H ds σ ∧ RepH g.K m H h ∧ OutS g m H N (whileM T S k ds h), fun σ' H' q => ⟨k, Nat.lt_succ_self k, q⟩, m1, ds, h1, hs.mono g1, rh1, ?_⟩
      cases q : S ds h1 with
      | nx ds2 h2 => rw [q] at o1; exact fun σ2 m2 H2 g2 s2 rh2 => ⟨m2, ds2, h2, s2, rh2, OutS.mono o1 g2⟩
      | ct ds2 h2 => rw [q] at o1; exact fun σ2 m2 H2 g2 s2 rh2 => ⟨m2, ds2, h2, s2, rh2, OutS.mono o1 g2⟩
      | bk ds2 h2 => rw [q] at o1; exact o1
      | rt d h2 => rw [q] at o1; exact o1
      | exc c ds2 h2 => rw [q] at o1; exact o1
      | bad => rw [q] at o1; exact o1
    | false => rw [if_neg Bool.false_ne_true] at o1 ⊢; exact o1 _ m1 H1 (.refl _ _) (hs.mono g1) rh1
end
/-- the iterator J yields these, as long as the guard holds -/
def IsIt (K : PySem.W.Frag) (J : It) (its : List D) (gd : Hs → Prop) (m0 : List Addr) (H0 : Hp) : Prop :=
  ∀ i m H h, Grow m0 H0 m H → RepH K m H h → gd h → (∀ d, its[i]? = some d → J.go i H ∧ ∀ x H', J.yld i H x H' → Grow m H m H' ∧ RepV K m H' d x ∧ RepH K m H' h) ∧ (its.length ≤ i → J.stop i H)
def OutI (g : Cfg) (m : List Addr) (H : Hp) (σ : St) (Q : It → Hp → Prop) : R (List D × (Hs → Prop)) → Prop
  | .ok p h' => ∀ J m' H', Grow m H m' H' → RepH g.K m' H' h' → IsIt g.K J p.1 p.2 m' H' → Q J H'
  | .exc c h' => ∀ m' H', Grow m H m' H' → RepH g.K m' H' h' → g.W (.ref (He.ga g.K c)) none σ H'
  | .bad => False
def tI (g : Cfg) (M : IM) : TI := fun σ H Q => ∃ m ds h, RepS g.K m H ds σ ∧ RepH g.K m H h ∧ OutI g m H σ Q (M ds h)
section
variable {X : Cx} {g : Cfg} {tg iter : Expr} {body : List Stmt} {pos : Pos} {S : SM} {T : GM} {I : IM}
theorem sm_for (hp : PassesOwn (model X.prog X.w) X.A X.env X.xe) (hc : X.calm = true) (hi : PI X tg iter (tI g I)) (hg : PG X tg (tG g T)) (hb : PSs X body (tS g S))
    (hs : ∀ x, foldedSetIterable iter X.env x = pure x := by intro _; rfl) : PS X (.For tg iter body [] pos) (tS g (forM I T S)) := by
  refine PS.weak (ps_for hp hc hi hg hb hs) fun N σ H ⟨m, ds, h, hs, rh, o⟩ => ⟨m, ds, h, hs, rh, ?_⟩
  unfold forM at o
  cases q : I ds h with
  | exc c h1 => rw [q] at o; exact fun m' H' w rh' => o σ m' H' w (hs.mono w) rh'
  | bad => rw [q] at o; exact o
  | ok p h1 =>
    obtain ⟨its, gd⟩ := p
    rw [q, lift_ok] at o
    intro J m1 H1 g1 rh1 it
    refine ⟨fun i k σ H => k = its.length - i ∧ i ≤ its.length ∧ ∃ m ds h, Grow m1 H1 m H ∧ RepS g.K m H ds σ ∧ RepH g.K m H h ∧ OutS g m H N (loopM gd T S (its.drop i) ds h),
      ⟨_, rfl, Nat.zero_le _, m1, ds, h1, .refl _ _, hs.mono g1, rh1, OutS.mono o g1⟩, ?_⟩
    rintro i k σ2 H2 ⟨rfl, hi, m2, ds2, h2, g2, s2, rh2, o2⟩
    by_cases hlt : i < its.length
    · have hd : its.drop i = its[i] :: its.drop (i + 1) := List.drop_eq_getElem_cons hlt
      rw [hd] at o2
      unfold loopM at o2
      by_cases hgd : gd h2
      · rw [if_pos hgd] at o2
        obtain ⟨f1, _⟩ := it i m2 H2 h2 g2 rh2 hgd
        obtain ⟨go, yl⟩ := f1 its[i] (List.getElem?_eq_getElem hlt)
        refine .inr ⟨go, fun σ H => ∃ m ds h, Grow m1 H1 m H ∧ RepS g.K m H ds σ ∧ RepH g.K m H h ∧ OutS g m H N (loopM gd T S (its.drop (i + 1)) ds h), fun σ' H' ⟨m', ds', h', w⟩ => ⟨its.length - (i + 1), by omega, rfl, hlt, m', ds', h', w⟩, fun x H3 y => ?_⟩
        obtain ⟨g3, r3, rh3⟩ := yl x H3 y
        refine ⟨m2, its[i], ds2, h2, r3, s2.mono g3, rh3, ?_⟩
        cases w : T its[i] ds2 h2 with
        | nx ds4 h4 =>
          rw [w] at o2
          intro σ4 m4 H4 g4 s4 rh4
          refine ⟨m4, ds4, h4, s4, rh4, ?_⟩
          have o2 : OutS g m2 H2 N (match S ds4 h4 with
            | .nx ds h => loopM gd T S (its.drop (i + 1)) ds h
            | .ct ds h => loopM gd T S (its.drop (i + 1)) ds h
            | .bk ds h => .nx ds h
            | q => q) := o2
          have o4 := OutS.mono o2 (g3.trans g4)
          have gg := g2.trans (g3.trans g4)
          cases w2 : S ds4 h4 with
          | nx ds5 h5 => rw [w2] at o4; exact fun σ5 m5 H5 g5 s5 rh5 => ⟨m5, ds5, h5, gg.trans g5, s5, rh5, OutS.mono o4 g5⟩
          | ct ds5 h5 => rw [w2] at o4; exact fun σ5 m5 H5 g5 s5 rh5 => ⟨m5, ds5, h5, gg.trans g5, s5, rh5, OutS.mono o4 g5⟩
          | bk ds5 h5 => rw [w2] at o4; exact o4
          | rt d h5 => rw [w2] at o4; exact o4
          | exc c ds5 h5 => rw [w2] at o4; exact o4
          | bad => rw [w2] at o4; exact o4
        | _ => rw [w] at o2; exact (show False from o2).elim
      · rw [if_neg hgd] at o2; exact o2.elim
    · have e : i = its.length := by omega
      subst e
      rw [List.drop_length] at o2
      unfold loopM at o2
      by_cases hgd : gd h2
      · rw [if_pos hgd] at o2
        exact .inl ⟨(it _ m2 H2 h2 g2 rh2 hgd).2 (Nat.le_refl _), o2 σ2 m2 H2 (.refl _ _) s2 rh2⟩
      · rw [if_neg hgd] at o2; exact o2.elim
end
/-- the items of a value and the guard: a list must stay as it is -/
noncomputable def itsF (d : D) (h : Hs) : Option (List D × (Hs → Prop)) := match d with
  | .tup ds => some (ds, fun _ => True)
  | .ro ns => some (ns.map D.int, fun _ => True)
  | .str s => some (s.cps.toList.map fun c => .str ⟨#[c]⟩, fun _ => True)
  | .loc l => match h[l]? with
    | some (.lst ds) => some (ds, fun h => h[l]? = some (.lst ds))
    | _ => none
  | _ => none
noncomputable def valI (A : EM) : IM := fun ds h => (A ds h).bind fun d h => match itsF d h with
  | some p => .ok p h
  | none => .bad
/-- a test that no evaluation looks into -/
noncomputable def cB (p : Prop) : Bool := @decide p (Classical.propDecidable p)
theorem cB_iff {p : Prop} : cB p = true ↔ p := by unfold cB; exact @decide_eq_true_iff p (Classical.propDecidable p)
theorem cB_of {p : Prop} (h : p) : cB p = true := cB_iff.mpr h
/-- a range's ends fit -/
noncomputable def inR (j : Int) : Bool := cB (-(2 ^ 62) ≤ j ∧ j < 2 ^ 62)
noncomputable def rng1 : List D → Option (List D)
  | [.int j] => if inR j = true then some ((List.range j.toNat).map fun (i : Nat) => .int (i : Int)) else none
  | _ => none
noncomputable def rng2 : List D → Option (List D)
  | [.int i, .int j] => if inR i = true ∧ inR j = true then some ((List.range (j - i).toNat).map fun (k : Nat) => .int (i + (k : Int))) else none
  | _ => none
theorem rng1_inv {xs its : List D} (h : rng1 xs = some its) : ∃ j : Int, xs = [.int j] ∧ (-(2 ^ 62) ≤ j ∧ j < 2 ^ 62) ∧ its = (List.range j.toNat).map fun (i : Nat) => .int (i : Int) := by
  unfold rng1 at h
  split at h
  · rename_i j
    split at h
    · rename_i hj; exact ⟨j, rfl, cB_iff.mp hj, (Option.some.inj h).symm⟩
    · cases h
  · cases h
def rngI (F : List D → Option (List D)) (A : AM) : IM := fun ds h => (A ds h).bind fun xs h => match F xs with
  | some its => .ok (its, fun _ => True) h
  | none => .bad
section
variable {X : Cx} {g : Cfg} {tg e a b : Expr} {A : EM} {pos : Pos}
/-- any of list, tuple, text, by its value -/
theorem pi_any {l : Expr} {tl : TE} (hl : PE X l tl) : PI X tg l (fun σ H R => tl σ H fun x H1 => (∃ a, x = .ref a ∧ (∃ xs, SqL X.K H1 a xs) ∧ R (Itl X.K a) H1) ∨ (∃ a, x = .ref a ∧ (∃ xs, SqT X.K H1 a xs) ∧ R (Itt X.K a) H1) ∨ ∃ z, x = .str z ∧ R (Its z) H1) := by
  refine ⟨fun pns s σ H R I h => ?_⟩
  refine thn (hl.run pns s σ H _ I h) fun v s1 ⟨x, H1, I1, r1, q1⟩ => ?_
  rcases q1 with ⟨a, e, ⟨xs, hq⟩, q⟩ | ⟨a, e, ⟨xs, hq⟩, q⟩ | ⟨z, e, q⟩
  · subst e
    cases r1
    obtain ⟨its, rv, p, hz⟩ := I1.list hq
    refine wpAny_pyIter_list p.isList ?_
    refine ⟨s1.heap.objs.size, [s1.heap.objs.size], _, _, H1, rfl, I1.kept (t' := s1.toks) fun b o e => Heap.get?_push_of_some _ e, turn_list a _, ⟨_, Heap.get?_push_size _ rfl, rfl, rfl⟩, fun b hb => ?_, q⟩
    have e : b = s1.heap.objs.size := by simpa using hb
    subst e
    exact I1.fpOk (Nat.le_refl _) (I1.hok.fresh (Nat.le_refl _))
  · subst e
    cases r1
    obtain ⟨its, rv, p, hz⟩ := I1.tuple hq
    refine wpAny_pyIter_tuple (show s1.heap.IsTuple a its.toArray from p) ?_
    refine ⟨s1.heap.objs.size, [s1.heap.objs.size], _, _, H1, rfl, I1.kept (t' := s1.toks) fun b o e => Heap.get?_push_of_some _ e, turn_tuple a _, ⟨_, Heap.get?_push_size _ rfl, rfl, rfl⟩, fun b hb => ?_, q⟩
    have e : b = s1.heap.objs.size := by simpa using hb
    subst e
    exact I1.fpOk (Nat.le_refl _) (I1.hok.fresh (Nat.le_refl _))
  · subst e
    obtain ⟨t, rfl⟩ := r1
    cases ha : z.cps.all (· < 128)
    · exact wpAny_pyIter_wide ha (pi_one (tk := s1.toks) I1 _ (turn_str _ z t "str_iterator" (.inr rfl)) ⟨_, Heap.get?_push_size _ rfl, rfl, rfl⟩ q)
    · exact wpAny_pyIter_ascii ha (pi_one (tk := s1.toks) I1 _ (turn_str _ z t "str_ascii_iterator" (.inl rfl)) ⟨_, Heap.get?_push_size _ rfl, rfl, rfl⟩ q)
theorem isIt_tup {K : PySem.W.Frag} {p : Addr} {vs : List V} {ds : List D} {m : List Addr} {H : Hp} (hp : H p = some (.tup vs)) (rl : RepL K m H ds vs) : IsIt K (Itt K p) ds (fun _ => True) m H := by
  intro i m' H' h' g' rh' _
  have hp' := g'.tup _ _ hp
  refine ⟨fun d hd => ?_, fun hi => ⟨vs, SqT.of hp', by rw [rl.length]; exact hi⟩⟩
  obtain ⟨x, hx, rx⟩ := rl.get hd
  refine ⟨⟨vs, x, SqT.of hp', hx⟩, fun y H2 ⟨e, q⟩ => ?_⟩
  subst e
  have := q vs (SqT.of hp')
  rw [hx] at this; cases this
  exact ⟨.refl _ _, rx.mono g', rh'⟩
theorem isIt_lst {K : PySem.W.Frag} {p : Addr} {l : Nat} {ds : List D} {m : List Addr} {H : Hp} (hp : m[l]? = some p) : IsIt K (Itl K p) ds (fun h => h[l]? = some (.lst ds)) m H := by
  intro i m' H' h' g' rh' hg
  obtain ⟨⟨r, rfl⟩, _, _, _⟩ := g'
  obtain ⟨hlt, _⟩ := List.getElem?_eq_some_iff.mp hp
  have hp' : (m ++ r)[l]? = some p := by rw [List.getElem?_append_left hlt]; exact hp
  obtain ⟨vs, hv, rl⟩ := rh'.lst hp' hg
  refine ⟨fun d hd => ?_, fun hi => ⟨vs, SqL.of hv, by rw [rl.length]; exact hi⟩⟩
  obtain ⟨x, hx, rx⟩ := rl.get hd
  refine ⟨⟨vs, x, SqL.of hv, hx⟩, fun y H2 ⟨e, q⟩ => ?_⟩
  subst e
  have := q vs (SqL.of hv)
  rw [hx] at this; cases this
  exact ⟨.refl _ _, rx, rh'⟩
theorem SqR.mono {K : PySem.W.Frag} {H H' : Hp} {m m' : List Addr} {p : Addr} {xs : List V} (g : Grow m H m' H') (q : SqR K H p xs) : SqR K H' p xs := by
  rcases q with ⟨o, q⟩ | q
  · exact .inl ⟨o, g.frz _ _ _ q⟩
  · exact .inr q
theorem isIt_ro {K : PySem.W.Frag} {p : Addr} {ns : List Int} {m : List Addr} {H : Hp} (hp : SqR K H p (ns.map V.int)) : IsIt K (Itl K p) (ns.map D.int) (fun _ => True) m H := by
  intro i m' H' h' g' rh' _
  have hq := (hp.mono g').sq
  refine ⟨fun d hd => ?_, fun hi => ⟨_, hq, by simpa using hi⟩⟩
  rw [List.getElem?_map] at hd
  cases e : ns[i]? with
  | none => rw [e] at hd; cases hd
  | some n =>
    rw [e] at hd
    cases hd
    have hx : (ns.map V.int)[i]? = some (.int n) := by rw [List.getElem?_map, e]; rfl
    refine ⟨⟨_, .int n, hq, hx⟩, fun y H2 ⟨e, q⟩ => ?_⟩
    subst e
    have := q _ hq
    rw [hx] at this; cases this
    exact ⟨.refl _ _, by unfold RepV; rfl, rh'⟩
theorem isIt_str {K : PySem.W.Frag} {z : Str} {m : List Addr} {H : Hp} : IsIt K (Its z) (z.cps.toList.map fun c => .str ⟨#[c]⟩) (fun _ => True) m H := by
  intro i m' H' h' g' rh' _
  refine ⟨fun d hd => ?_, fun hi => (show z.cps.size ≤ i by simpa using hi)⟩
  rw [List.getElem?_map, Array.getElem?_toList] at hd
  cases e : z.cps[i]? with
  | none => rw [e] at hd; cases hd
  | some n =>
    rw [e] at hd
    cases hd
    refine ⟨?_, fun y H2 ⟨e2, c, hc, q⟩ => ?_⟩
    · have : i < z.cps.size := (Array.getElem?_eq_some_iff.mp e).1
      exact this
    · subst e2 q
      rw [e] at hc; cases hc
      exact ⟨.refl _ _, by unfold RepV; rfl, rh'⟩
theorem isIt_rng {K : PySem.W.Frag} {lo : Int} {n : Nat} {m : List Addr} {H : Hp} : IsIt K (Itr lo n) ((List.range n).map fun (k : Nat) => .int (lo + (k : Int))) (fun _ => True) m H := by
  intro i m' H' h' g' rh' _
  refine ⟨fun d hd => ?_, fun hi => (show n ≤ i by simpa using hi)⟩
  rw [List.getElem?_map] at hd
  by_cases hl : i < n
  · rw [List.getElem?_range hl] at hd
    cases hd
    exact ⟨hl, fun y H2 ⟨e2, q⟩ => by subst e2 q; exact ⟨.refl _ _, by unfold RepV; rfl, rh'⟩⟩
  · rw [List.getElem?_eq_none (by simpa using hl)] at hd; cases hd
theorem OutE.toI {g : Cfg} {m : List Addr} {H : Hp} {σ : St} {Q : It → Hp → Prop} {Q' : VK} {r : R D} {k : D → Hs → R (List D × (Hs → Prop))} (o : OutI g m H σ Q (r.bind k)) (f : ∀ d h' v m' H', Grow m H m' H' → RepV g.K m' H' d v → RepH g.K m' H' h' → OutI g m' H' σ Q (k d h') → Q' v H') : OutE g m H σ Q' r := by
  cases r with
  | ok d h =>
    refine fun v m' H' w rv rh => f d h v m' H' w rv rh ?_
    rw [R.bind_ok] at o
    cases q : k d h with
    | ok p h2 => rw [q] at o; exact fun J m2 H2 w2 => o J m2 H2 (w.trans w2)
    | exc c h2 => rw [q] at o; exact fun m2 H2 w2 => o m2 H2 (w.trans w2)
    | bad => rw [q] at o; exact o
  | exc c h => exact o
  | bad => exact o
theorem OutA.toI {g : Cfg} {m : List Addr} {H : Hp} {σ : St} {Q : It → Hp → Prop} {Q' : List V → Hp → Prop} {r : R (List D)} {k : List D → Hs → R (List D × (Hs → Prop))} (o : OutI g m H σ Q (r.bind k)) (f : ∀ d h' v m' H', Grow m H m' H' → RepL g.K m' H' d v → RepH g.K m' H' h' → OutI g m' H' σ Q (k d h') → Q' v H') : OutA g m H σ Q' r := by
  cases r with
  | ok d h =>
    refine fun v m' H' w rv rh => f d h v m' H' w rv rh ?_
    rw [R.bind_ok] at o
    cases q : k d h with
    | ok p h2 => rw [q] at o; exact fun J m2 H2 w2 => o J m2 H2 (w.trans w2)
    | exc c h2 => rw [q] at o; exact fun m2 H2 w2 => o m2 H2 (w.trans w2)
    | bad => rw [q] at o; exact o
  | exc c h => exact o
  | bad => exact o
theorem im_val (hK : X.K = g.K) (he : PE X e (tM g A)) : PI X tg e (tI g (valI A)) := by
  refine PI.weak (pi_any he) fun σ H R ⟨m, ds, h, hs, rh, o⟩ => ⟨m, ds, h, hs, rh, OutE.toI o fun d h1 v m1 H1 g1 r1 rh1 o1 => ?_⟩
  rw [hK]
  cases d with
  | tup xs =>
    unfold RepV at r1
    obtain ⟨p, vs, rfl, hp, rl⟩ := r1
    exact .inr (.inl ⟨p, rfl, ⟨vs, SqT.of hp⟩, o1 _ m1 H1 (.refl _ _) rh1 (isIt_tup hp rl)⟩)
  | ro ns =>
    unfold RepV at r1
    obtain ⟨p, rfl, hp⟩ := r1
    exact .inl ⟨p, rfl, ⟨_, hp.sq⟩, o1 _ m1 H1 (.refl _ _) rh1 (isIt_ro hp)⟩
  | str z =>
    unfold RepV at r1
    exact .inr (.inr ⟨z, r1, o1 _ m1 H1 (.refl _ _) rh1 isIt_str⟩)
  | loc l =>
    unfold RepV at r1
    obtain ⟨p, hp, rfl⟩ := r1
    cases q : h1[l]? with
    | none => simp only [itsF, q] at o1; exact o1.elim
    | some ao =>
      cases ao with
      | lst xs =>
        obtain ⟨vs, hv, rl⟩ := rh1.lst hp q
        simp only [itsF, q] at o1
        exact .inl ⟨p, rfl, ⟨vs, SqL.of hv⟩, o1 _ m1 H1 (.refl _ _) rh1 (isIt_lst hp)⟩
      | _ => simp only [itsF, q] at o1; exact o1.elim
  | _ => exact (show False from o1).elim
theorem repL1 {K : PySem.W.Frag} {m : List Addr} {H : Hp} {d : D} {vs : List V} (r : RepL K m H [d] vs) : ∃ v, vs = [v] ∧ RepV K m H d v := by
  unfold RepL at r
  obtain ⟨x, r, rfl, h1, h2⟩ := r
  unfold RepL at h2
  exact ⟨x, by rw [h2], h1⟩
theorem repL2 {K : PySem.W.Frag} {m : List Addr} {H : Hp} {d e : D} {vs : List V} (r : RepL K m H [d, e] vs) : ∃ v u, vs = [v, u] ∧ RepV K m H d v ∧ RepV K m H e u := by
  unfold RepL at r
  obtain ⟨x, r, rfl, h1, h2⟩ := r
  obtain ⟨u, rfl, h3⟩ := repL1 h2
  exact ⟨x, u, rfl, h1, h3⟩
theorem im_rng1 {As : AM} {p : Pos} (hg : Gl X "range") (hm : X.mg "range" = none) (ha : PA X [a] (tA g As)) (hs : starEach [a] X.env = [(false, eval a X.env)] := by rfl) : PI X tg (.Call (.Name "range" p) [a] [] pos) (tI g (rngI rng1 As)) := by
  refine PI.weak (pi_range1 hg hm ha hs) fun σ H R ⟨m, ds, h, hs, rh, o⟩ => ⟨m, ds, h, hs, rh, OutA.toI o fun xs h1 vs m1 H1 g1 rl rh1 o1 => ?_⟩
  cases q : rng1 xs with
  | none => simp only [q] at o1; exact o1.elim
  | some its =>
    simp only [q] at o1
    obtain ⟨j, rfl, hj, rfl⟩ := rng1_inv q
    obtain ⟨v, rfl, r1⟩ := repL1 rl
    unfold RepV at r1
    subst r1
    refine ⟨j, rfl, hj.1, hj.2, o1 _ m1 H1 (.refl _ _) rh1 ?_⟩
    have := isIt_rng (K := g.K) (lo := 0) (n := j.toNat) (m := m1) (H := H1)
    simpa only [Int.zero_add] using this
end
end DV
namespace DV
open PySem PySem.Spec PyProof.Rows L2
def wipeD (ds : Sl) : List Nat → Sl
  | [] => ds
  | v :: vs => (wipeD ds vs).set v none
theorem RepS.wipe {K : PySem.W.Frag} {m : List Addr} {H : Hp} {ds : Sl} {σ : St} (r : RepS K m H ds σ) : ∀ vs : List Nat, RepS K m H (wipeD ds vs) (wipe σ vs)
  | [] => r
  | v :: vs => (RepS.wipe r vs).forget v none
/-- no exception -/
def R.noX {α : Type} : R α → R α
  | .ok a h => .ok a h
  | _ => .bad
@[simp] theorem R.noX_ok {α : Type} (a : α) (h : Hs) : (R.ok a h).noX = .ok a h := rfl
open Classical in
/-- l: the new list's number -/
noncomputable def lcLoop (gd : Hs → Prop) (l : Nat) (T : GM) (C : TM) (A : EM) (ds : Sl) : List D → Hs → R D
  | [], h => if gd h then .ok (.loc l) h else .bad
  | d :: r, h => if gd h then (match T d ds h with
    | .nx ds1 h1 => (C ds1 h1).noX.bind fun b h2 => if b = true then (A ds1 h2).noX.bind fun y h3 => (match h3[l]? with
        | some (.lst acc) => if acc.length < LIM then lcLoop gd l T C A ds r (h3.set l (.lst (acc ++ [y]))) else .bad
        | _ => .bad) else lcLoop gd l T C A ds r h2
    | _ => .bad) else .bad
/-- [A for T in I if C], own: the slots of its own names -/
noncomputable def lcM (own : List Nat) (I : IM) (T : GM) (C : TM) (A : EM) : EM := fun ds h => (I ds h).bind fun p h => lcLoop p.2 h.length T C A (wipeD ds own) p.1 (h ++ [.lst []])
def yesM : TM := fun _ h => .ok true h
theorem OutI.toE {g : Cfg} {m : List Addr} {H : Hp} {σ : St} {Q : VK} {Q' : It → Hp → Prop} {r : R (List D × (Hs → Prop))} {k : (List D × (Hs → Prop)) → Hs → R D} (o : OutE g m H σ Q (r.bind k))
    (f : ∀ p h' J m' H', Grow m H m' H' → RepH g.K m' H' h' → IsIt g.K J p.1 p.2 m' H' → OutE g m' H' σ Q (k p h') → Q' J H') : OutI g m H σ Q' r := by
  cases r with
  | ok p h => exact fun J m' H' w rh it => f p h J m' H' w rh it (OutE.mono o w)
  | exc c h => exact o
  | bad => exact o
/-- no exception leaves a comprehension's block -/
def noW (K : PySem.W.Frag) : Cfg := ⟨K, fun _ _ _ _ => False⟩
theorem IsIt.mono {K : PySem.W.Frag} {J : It} {its : List D} {gd : Hs → Prop} {m m' : List Addr} {H H' : Hp} (x : IsIt K J its gd m H) (w : Grow m H m' H') : IsIt K J its gd m' H' :=
  fun i m2 H2 h2 g2 => x i m2 H2 h2 (w.trans g2)
/-- a target of own names: its reading t, its maker T -/
structure CT (K : PySem.W.Frag) (own : List Nat) (t : TG) (T : GM) : Prop where
  keep : ∀ d ds h ds' h', T d ds h = .nx ds' h' → h' = h
  run : ∀ (m : List Addr) (d : D) (ds ds' : Sl) (h h' : Hs) (v : V) (σ : St) (H : Hp) (Q : St → Hp → Prop), RepV K m H d v → RepS K m H ds (wipe σ own) → T d ds h = .nx ds' h' →
    (∀ σ', wipe σ' own = wipe σ own → RepS K m H ds' σ' → Q σ' H) → t v (wipe σ own) H fun σ2 H2 => wipe σ2 own = wipe σ own ∧ Q σ2 H2
theorem ct_name (K : PySem.W.Frag) (i : Nat) : CT K [i] (gName i) (nameG i) where
  keep := fun d ds h ds' h' e => by cases e; rfl
  run := by
    intro m d ds ds' h h' v σ H Q rv rs e o
    cases e
    have e : wipe ((wipe σ [i]).set i (some v)) [i] = wipe σ [i] := by
      show (((σ.set i none).set i (some v)).set i none) = σ.set i none
      rw [List.set_set, List.set_set]
    exact ⟨e, o _ e (rs.put i rv)⟩
theorem lc_read {g : Cfg} {own : List Nat} {I : IM} {T : GM} {C : TM} {A : EM} {σ : St} {H : Hp} {Q : VK} (q : tM g (lcM own I T C A) σ H Q)
    {t : TG} (ct : CT g.K own t T) :
    tLc (tI g I) t (tT (noW g.K) C) (tM (noW g.K) A) own σ H Q := by
  obtain ⟨m, ds, h, hs, rh, o⟩ := q
  refine ⟨m, ds, h, hs, rh, OutI.toE o fun p h1 J m1 H1 g1 rh1 it o1 => ?_⟩
  obtain ⟨its, gd⟩ := p
  intro L hL
  -- the new list
  have rh2 : RepH g.K (m1 ++ [L]) (upd H1 L (.lst [])) (h1 ++ [.lst []]) := (new_lst (g := g) (.nil) rh1 hL).2
  have g2 : Grow m1 H1 (m1 ++ [L]) (upd H1 L (.lst [])) := .app hL
  have hl : (m1 ++ [L])[h1.length]? = some L := by rw [← rh1.len]; simp
  have s2 := (hs.mono g1).mono g2
  have it2 := it.mono g2
  have o2 : OutE g (m1 ++ [L]) (upd H1 L (.lst [])) σ Q (lcLoop gd h1.length T C A (wipeD ds own) its (h1 ++ [.lst []])) := OutE.mono o1 g2
  generalize (m1 ++ [L]) = m2 at rh2 g2 hl s2 it2 o2
  generalize (upd H1 L (.lst [])) = H2 at rh2 g2 s2 it2 o2 ⊢
  generalize h1.length = l at hl o2
  generalize (h1 ++ [AO.lst []]) = h2 at rh2 o2
  refine ⟨fun i k H => k = its.length - i ∧ i ≤ its.length ∧ ∃ m h, Grow m2 H2 m H ∧ RepH g.K m H h ∧ OutE g m H σ Q (lcLoop gd l T C A (wipeD ds own) (its.drop i) h), ⟨_, rfl, Nat.zero_le _, m2, h2, .refl _ _, rh2, o2⟩, ?_⟩
  rintro i k H3 ⟨rfl, hi, m3, h3, g3, rh3, o3⟩
  have hl3 : m3[l]? = some L := by
    obtain ⟨⟨r, rfl⟩, _, _, _⟩ := g3
    obtain ⟨q, _⟩ := List.getElem?_eq_some_iff.mp hl
    rw [List.getElem?_append_left q]; exact hl
  by_cases hlt : i < its.length
  · have hd : its.drop i = its[i] :: its.drop (i + 1) := List.drop_eq_getElem_cons hlt
    rw [hd] at o3
    unfold lcLoop at o3
    by_cases hgd : gd h3
    · rw [if_pos hgd] at o3
      obtain ⟨f1, _⟩ := it2 i m3 H3 h3 g3 rh3 hgd
      obtain ⟨go, yl⟩ := f1 its[i] (List.getElem?_eq_getElem hlt)
      refine .inr ⟨go, fun H => ∃ m h, Grow m2 H2 m H ∧ RepH g.K m H h ∧ OutE g m H σ Q (lcLoop gd l T C A (wipeD ds own) (its.drop (i + 1)) h), fun H' ⟨m', h', w⟩ => ⟨its.length - (i + 1), by omega, rfl, hlt, m', h', w⟩, fun x H4 y => ?_⟩
      obtain ⟨g4, r4, rh4⟩ := yl x H4 y
      cases w : T its[i] (wipeD ds own) h3 with
      | nx ds5 h5 =>
        rw [w] at o3
        obtain rfl := ct.keep _ _ _ _ _ w
        refine ct.run m3 its[i] (wipeD ds own) ds5 h5 h5 x σ H4 _ r4 (((s2.mono g3).mono g4).wipe own) w fun σ5 hw5 s5 => ?_
        have o5 := OutE.mono o3 g4
        refine ⟨m3, ds5, h5, s5, rh4, ?_⟩
        have gg := g3.trans g4
        change OutE g m3 H4 σ Q ((C ds5 h5).noX.bind _) at o5
        cases c5 : C ds5 h5 with
        | exc c h6 => rw [c5] at o5; exact o5.elim
        | bad => rw [c5] at o5; exact o5
        | ok b h6 =>
          rw [c5, R.noX_ok, R.bind_ok] at o5
          intro m6 H6 g6 rh6
          cases b with
          | false =>
            rw [if_neg Bool.false_ne_true] at o5 ⊢
            exact ⟨m6, h6, gg.trans g6, rh6, OutE.mono o5 g6⟩
          | true =>
            rw [if_pos rfl] at o5 ⊢
            refine ⟨m6, ds5, h6, s5.mono g6, rh6, ?_⟩
            cases a6 : A ds5 h6 with
            | exc c h7 => rw [a6] at o5; exact o5.elim
            | bad => rw [a6] at o5; exact o5
            | ok yd h7 =>
              rw [a6, R.noX_ok, R.bind_ok] at o5
              intro yv m7 H7 g7 r7 rh7
              have hl7 : m7[l]? = some L := by
                obtain ⟨⟨r, rfl⟩, _, _, _⟩ := g4.trans (g6.trans g7)
                obtain ⟨q, _⟩ := List.getElem?_eq_some_iff.mp hl3
                rw [List.getElem?_append_left q]; exact hl3
              cases e7 : h7[l]? with
              | none => rw [e7] at o5; exact o5.elim
              | some ao =>
                cases ao with
                | lst acc =>
                  rw [e7] at o5
                  change OutE g m3 H4 σ Q (if acc.length < LIM then _ else _) at o5
                  by_cases hz : acc.length < LIM
                  · rw [if_pos hz] at o5
                    obtain ⟨vs, hv, rl⟩ := rh7.lst hl7 e7
                    have w8 : Grow m7 H7 m7 (upd H7 L (.lst (vs ++ [yv]))) := .write hv (fun _ z => nomatch z) (fun _ _ z => nomatch z) (fun _ z => nomatch z)
                    have rh8 : RepH g.K m7 (upd H7 L (.lst (vs ++ [yv]))) (h7.set l (.lst (acc ++ [yd]))) :=
                      rh7.write hl7 hv (fun _ z => nomatch z) (fun _ _ z => nomatch z) (fun _ z => nomatch z) ⟨_, upd_same, (rl.append (.cons r7 .nil)).mono w8⟩
                    refine ⟨vs, hv, ?_, m7, _, (gg.trans (g6.trans g7)).trans w8, rh8, OutE.mono o5 ((g6.trans g7).trans w8)⟩
                    rw [rl.length, sizeLine_eq]; exact hz
                  · rw [if_neg hz] at o5; exact o5.elim
                | _ => rw [e7] at o5; exact (show False from o5).elim
      | _ => rw [w] at o3; exact (show False from o3).elim
    · rw [if_neg hgd] at o3; exact o3.elim
  · have e : i = its.length := by omega
    subst e
    rw [List.drop_length] at o3
    unfold lcLoop at o3
    by_cases hgd : gd h3
    · rw [if_pos hgd] at o3
      exact .inl ⟨(it2 _ m3 H3 h3 g3 rh3 hgd).2 (Nat.le_refl _), o3 _ m3 H3 (.refl _ _) (by unfold RepV; exact ⟨L, hl3, rfl⟩) rh3⟩
    · rw [if_neg hgd] at o3; exact o3.elim
theorem tms_one {X : Cx} {g : Cfg} {c : Expr} {C : TM} (h : PT X c (tT g C)) : PTs X [c] (tT g C) := pts_one h
section
variable {X : Cx} {g : Cfg} {tg elt iter : Expr} {ifs : List Expr} {scope : Scope} {own : List (Str × Nat)} {pos spos py : Pos} {I : IM} {T : GM} {C : TM} {A : EM} {t : TG}
theorem em_lc (hc : X.calm = true) (hN : X.N.Nodup) (hi : PI X tg iter (tI g I)) (ok : BlkOk X.N X.env.scope scope own) (ct : CT g.K (own.map (·.2)) t T)
    (hg : ∀ (s : Shared) (H : Hp) (C : Addr) (cl : List (Str × Addr)) (fp : List Addr), PG (X.blk s H scope (compEnvC scope cl C X.env) fp) tg t)
    (ht : ∀ (s : Shared) (H : Hp) (Ca : Addr) (cl : List (Str × Addr)) (fp : List Addr), PTs (X.blk s H scope (compEnvC scope cl Ca X.env) fp) ifs (tT (noW g.K) C))
    (he : ∀ (s : Shared) (H : Hp) (C : Addr) (cl : List (Str × Addr)) (fp : List Addr), PE (X.blk s H scope (compEnvC scope cl C X.env) fp) elt (tM (noW g.K) A)) (hs : ∀ x, foldedSetIterable iter X.env x = pure x := by intro _; rfl) :
    PE X (.ListComp elt [⟨tg, iter, ifs, 0⟩] scope pos) (tM g (lcM (own.map (·.2)) I T C A)) := PE.weak (pe_lc hc hN hi ok hg ht he hs) fun σ H Q q => lc_read q ct
end
/-- what a def makes of its arguments and the objects -/
abbrev Fm := List D → Hs → R D
def OutC (K : PySem.W.Frag) (m : List Addr) (H : Hp) (Q : VK) (E : XK) : R D → Prop
  | .ok d h' => ∀ v m' H', Grow m H m' H' → RepV K m' H' d v → RepH K m' H' h' → Q v H'
  | .exc c h' => ∀ m' H', Grow m H m' H' → RepH K m' H' h' → E (.ref (He.ga K c)) none H'
  | .bad => False
def spM (K : PySem.W.Frag) (n : Nat) (φ : Fm) : Sp := fun vs H Q E => vs.length = n ∧ ∃ m ds h, RepL K m H ds vs ∧ RepH K m H h ∧ OutC K m H Q E (φ ds h)
def callM (φ : Fm) (A : AM) : EM := fun ds h => (A ds h).bind fun xs h => φ xs h
theorem callS_read {g : Cfg} {n : Nat} {φ : Fm} {As : AM} {σ : St} {H : Hp} {Q : VK} (ar : ∀ xs h, xs.length ≠ n → φ xs h = .bad) (q : tM g (callM φ As) σ H Q) : tCallS (spM g.K n φ) (WE g.W) (tA g As) σ H Q := by
  obtain ⟨m, ds, h, hs, rh, o⟩ := q
  refine ⟨m, ds, h, hs, rh, OutA.toE o fun xs h' vs m' H' w rl rh' o' => ?_⟩
  by_cases hl : xs.length = n
  · refine ⟨by rw [rl.length]; exact hl, m', xs, h', rl, rh', ?_⟩
    cases e : φ xs h' with
    | ok d h2 => rw [e] at o'; exact o'
    | exc c h2 => rw [e] at o'; exact o'
    | bad => rw [e] at o'; exact o'
  · rw [ar _ _ hl] at o'; exact o'.elim
/-- a def of the top, as its callers see it: at this level it does φ -/
structure FnAt (P : Program) (w : World) (K : PySem.W.Frag) (mg : Str → Option Value) (base : Heap) (k : Nat) (x : Str) (ps : List Str) (φ : Fm) : Prop where
  ex : ∃ f fd, mg x = some (.ref f) ∧ PySem.W.keepIn K (.ref f) = true ∧ Binds K fd ps [] ∧ FnOk P w K mg base (L2.CX P w) k f fd ps (spM K ps.length φ)
  ar : ∀ xs h, xs.length ≠ ps.length → φ xs h = .bad
section
variable {X : Cx} {g : Cfg} {e : Expr} {es : List Expr} {As : AM} {x : Str} {p pos : Pos} {k : Nat} {ps : List Str} {φ : Fm}
theorem em_call (F : FnAt X.prog X.w X.K X.mg X.base k x ps φ) (hK : X.K = g.K) (hr : Room k X.A) (tk : Takes X g.W) (hg : Gl X x) (ha : PA X (e :: es) (tA g As)) (hdb : (x == ("__debug__" : Str)) = false := by decide) (he : starEach (e :: es) X.env = (false, eval e X.env) :: starEach es X.env := by rfl) (hpl : (backTo pos (starEach es X.env)).any (·.1) = false := by rfl) :
    PE X (.Call (.Name x p) (e :: es) [] pos) (tM g (callM φ As)) := by
  obtain ⟨f, fd, hm, hk, hb, G⟩ := F.ex
  rw [hK] at G
  refine PE.weak (pe_callS (E := WE g.W) (by rw [hK]; exact G) hr hg hm hk hb (passAt tk) ha hdb he hpl) fun σ H Q q => callS_read F.ar q
end
end DV
namespace DV
open PySem PySem.Spec PyProof.Rows L2
mutual
def noloc : D → Bool
  | .loc _ => false
  | .tup ds => nolocL ds
  | .non => true
  | .bl _ => true
  | .int _ => true
  | .str _ => true
  | .ro _ => true
  | .exn _ => true
def nolocL : List D → Bool
  | [] => true
  | d :: ds => noloc d && nolocL ds
end
section
variable {K : PySem.W.Frag}
mutual
theorem RepV.free {m m' : List Addr} {H : Hp} : ∀ {d : D} {v : V}, noloc d = true → RepV K m H d v → RepV K m' H d v
  | .non, _, _, h => h
  | .bl _, _, _, h => h
  | .int _, _, _, h => h
  | .str _, _, _, h => h
  | .ro _, _, _, h => h
  | .exn _, _, _, h => h
  | .tup ds, v, n, h => by
    unfold RepV at h ⊢
    obtain ⟨a, xs, e, ha, hl⟩ := h
    exact ⟨a, xs, e, ha, RepL.free (by unfold noloc at n; exact n) hl⟩
  | .loc l, v, n, h => by unfold noloc at n; cases n
theorem RepL.free {m m' : List Addr} {H : Hp} : ∀ {ds : List D} {xs : List V}, nolocL ds = true → RepL K m H ds xs → RepL K m' H ds xs
  | [], _, _, h => h
  | d :: ds, xs, n, h => by
    unfold RepL at h ⊢
    unfold nolocL at n
    obtain ⟨n1, n2⟩ := Bool.and_eq_true_iff.mp n
    obtain ⟨x, r, e, h1, h2⟩ := h
    exact ⟨x, r, e, RepV.free n1 h1, RepL.free n2 h2⟩
end
mutual
/-- what stood for it by fewer numbers still does -/
theorem RepV.shrink {m0 r : List Addr} {H0 H : Hp} : ∀ {d : D} {v0 v : V}, RepV K m0 H0 d v0 → RepV K (m0 ++ r) H d v → RepV K m0 H d v
  | .non, _, _, _, h => h
  | .bl _, _, _, _, h => h
  | .int _, _, _, _, h => h
  | .str _, _, _, _, h => h
  | .ro _, _, _, _, h => h
  | .exn _, _, _, _, h => h
  | .tup ds, v0, v, n, h => by
    unfold RepV at h n ⊢
    obtain ⟨a0, xs0, _, _, hl0⟩ := n
    obtain ⟨a, xs, e, ha, hl⟩ := h
    exact ⟨a, xs, e, ha, RepL.shrink hl0 hl⟩
  | .loc l, v0, v, n, h => by
    unfold RepV at h n ⊢
    obtain ⟨a0, ha0, _⟩ := n
    obtain ⟨a, ha, e⟩ := h
    obtain ⟨hl, _⟩ := List.getElem?_eq_some_iff.mp ha0
    rw [List.getElem?_append_left hl] at ha
    exact ⟨a, ha, e⟩
theorem RepL.shrink {m0 r : List Addr} {H0 H : Hp} : ∀ {ds : List D} {xs0 xs : List V}, RepL K m0 H0 ds xs0 → RepL K (m0 ++ r) H ds xs → RepL K m0 H ds xs
  | [], _, _, _, h => h
  | d :: ds, xs0, xs, n, h => by
    unfold RepL at h n ⊢
    obtain ⟨x0, r0, _, n1, n2⟩ := n
    obtain ⟨x, r, e, h1, h2⟩ := h
    exact ⟨x, r, e, RepV.shrink n1 h1, RepL.shrink n2 h2⟩
end
theorem RepO.shrink {m0 r : List Addr} {H0 H : Hp} {a a0 : Addr} {o : AO} (n : RepO K m0 H0 a0 o) (h : RepO K (m0 ++ r) H a o) : RepO K m0 H a o := by
  cases o with
  | lst ds => obtain ⟨xs0, _, n⟩ := n; obtain ⟨xs, e, h⟩ := h; exact ⟨xs, e, n.shrink h⟩
  | dct kvs => obtain ⟨xs0, _, _, n⟩ := n; obtain ⟨xs, e, k, h⟩ := h; exact ⟨xs, e, k, n.shrink h⟩
  | fdc kvs => obtain ⟨_, xs0, _, _, n⟩ := n; obtain ⟨ob, xs, e, k, h⟩ := h; exact ⟨ob, xs, e, k, n.shrink h⟩
  | dcT kvs => obtain ⟨xs0, _, _, n⟩ := n; obtain ⟨xs, e, k, h⟩ := h; exact ⟨xs, e, k, n.shrink h⟩
  | ins C fs => obtain ⟨_, xs0, _, _, n⟩ := n; obtain ⟨dx, xs, e, k, h⟩ := h; exact ⟨dx, xs, e, k, n.shrink h⟩
/-- an object without numbers in it -/
def nolocO : AO → Bool
  | .lst ds => nolocL ds
  | .dct kvs => nolocL (kvs.map (·.2))
  | .fdc kvs => nolocL (kvs.map (·.2))
  | .dcT kvs => nolocL (kvs.map (·.2))
  | .ins _ fs => nolocL (fs.map (·.2))
theorem RepO.free {m m' : List Addr} {H : Hp} {a : Addr} {o : AO} (n : nolocO o = true) (h : RepO K m H a o) : RepO K m' H a o := by
  cases o with
  | lst ds => obtain ⟨xs, e, h⟩ := h; exact ⟨xs, e, h.free n⟩
  | dct kvs => obtain ⟨xs, e, k, h⟩ := h; exact ⟨xs, e, k, h.free n⟩
  | fdc kvs => obtain ⟨ob, xs, e, k, h⟩ := h; exact ⟨ob, xs, e, k, h.free n⟩
  | dcT kvs => obtain ⟨xs, e, k, h⟩ := h; exact ⟨xs, e, k, h.free n⟩
  | ins C fs => obtain ⟨dx, xs, e, k, h⟩ := h; exact ⟨dx, xs, e, k, h.free n⟩
theorem Grow.cut {m m' : List Addr} {H H' : Hp} (g : Grow m H m' H') : Grow m H m H' := ⟨⟨[], by simp⟩, g.tup, g.frz, g.ext⟩
/-- back to the old objects, each as it was or without numbers -/
theorem RepH.cut {m m' : List Addr} {H H' : Hp} {h h' : Hs} (r0 : RepH K m H h) (r : RepH K m' H' h') (g : Grow m H m' H') (c : ∀ (i : Nat) (o : AO), i < h.length → h'[i]? = some o → h[i]? = some o ∨ nolocO o = true) : RepH K m H' (h'.take h.length) := by
  obtain ⟨⟨q, rfl⟩, _, _⟩ := g
  have l1 := r.len
  have l0 := r0.len
  rw [List.length_append] at l1
  refine ⟨by rw [List.length_take]; omega, (List.nodup_append.mp r.nd).1, fun i a o hi ho => ?_⟩
  obtain ⟨hl, _⟩ := List.getElem?_eq_some_iff.mp hi
  have hlt : i < h.length := by omega
  rw [List.getElem?_take_of_lt hlt] at ho
  have ro := r.at_ i a o (by rw [List.getElem?_append_left hl]; exact hi) ho
  rcases c i o hlt ho with e | e
  · exact (r0.at_ i a o hi e).shrink ro
  · exact ro.free e
end
open Classical in
/-- nothing is changed, a value without objects comes back -/
noncomputable def nPure (φ : Fm) : Fm := fun xs h => match φ xs h with
  | .ok d h' => if noloc d = true ∧ h'.take h.length = h then .ok d h else .bad
  | .exc c h' => if h'.take h.length = h then .exc c h else .bad
  | .bad => .bad
open Classical in
/-- nothing is changed, a new list or dict comes back, without objects in it -/
noncomputable def nNew (φ : Fm) : Fm := fun xs h => match φ xs h with
  | .ok (.loc l) h' => (match h'[l]? with
    | some o => if h.length ≤ l ∧ h'.take h.length = h ∧ nolocO o = true then .ok (.loc h.length) (h ++ [o]) else .bad
    | none => .bad)
  | .exc c h' => if h'.take h.length = h then .exc c h else .bad
  | _ => .bad
open Classical in
/-- old objects may be changed, but to such without objects in them; a value without objects comes back -/
noncomputable def nEff (φ : Fm) : Fm := fun xs h => match φ xs h with
  | .ok d h' => if noloc d = true ∧ (∀ (i : Nat) (o : AO), i < h.length → h'[i]? = some o → h[i]? = some o ∨ nolocO o = true) then .ok d (h'.take h.length) else .bad
  | .exc c h' => if (∀ (i : Nat) (o : AO), i < h.length → h'[i]? = some o → h[i]? = some o ∨ nolocO o = true) then .exc c (h'.take h.length) else .bad
  | .bad => .bad
section
variable {K : PySem.W.Frag} {m : List Addr} {H : Hp} {Q : VK} {E : XK} {φ : Fm} {xs : List D} {h : Hs}
theorem take_same {h h' : Hs} (e : h'.take h.length = h) : ∀ (i : Nat) (o : AO), i < h.length → h'[i]? = some o → h[i]? = some o ∨ nolocO o = true := fun i o hl ho => .inl (by
  rw [← List.getElem?_take_of_lt hl, e] at ho; exact ho)
theorem nPure_ok (rh : RepH K m H h) (o : OutC K m H Q E (nPure φ xs h)) : OutC K m H Q E (φ xs h) := by
  unfold nPure at o
  cases q : φ xs h with
  | ok d h' =>
    rw [q] at o
    simp only at o
    split at o
    · rename_i c
      intro v m' H' g rv rh'
      have := rh.cut rh' g (take_same c.2)
      rw [c.2] at this
      exact o v m H' g.cut (rv.free c.1) this
    · exact o.elim
  | exc c h' =>
    rw [q] at o
    simp only at o
    split at o
    · rename_i e
      intro m' H' g rh'
      have := rh.cut rh' g (take_same e)
      rw [e] at this
      exact o m H' g.cut this
    · exact o.elim
  | bad => rw [q] at o; exact o
theorem nNew_ok (rh : RepH K m H h) (o : OutC K m H Q E (nNew φ xs h)) : OutC K m H Q E (φ xs h) := by
  unfold nNew at o
  cases q : φ xs h with
  | ok d h' =>
    rw [q] at o
    cases d with
    | loc l =>
      cases e : h'[l]? with
      | none => simp only [e] at o; exact o.elim
      | some ob =>
        simp only [e] at o
        split at o
        · rename_i c
          obtain ⟨c1, c2, c3⟩ := c
          intro v m' H' g rv rh'
          unfold RepV at rv
          obtain ⟨a, ha, rfl⟩ := rv
          have r1 := rh.cut rh' g (take_same c2)
          rw [c2] at r1
          have ro : RepO K (m ++ [a]) H' a ob := (rh'.at_ l a ob ha e).free c3
          have hn : a ∉ m := fun hm => by
            obtain ⟨⟨q, rfl⟩, _, _⟩ := g
            obtain ⟨i, hi⟩ := List.mem_iff_getElem?.mp hm
            obtain ⟨hl, e1⟩ := List.getElem?_eq_some_iff.mp hi
            have hi' : (m ++ q)[i]? = some a := by rw [List.getElem?_append_left hl]; exact hi
            obtain ⟨q1, e1⟩ := List.getElem?_eq_some_iff.mp hi'
            obtain ⟨q2, e2⟩ := List.getElem?_eq_some_iff.mp ha
            have := (List.getElem_inj rh'.nd).mp (e1.trans e2.symm)
            have := rh.len
            omega
          refine o (.ref a) (m ++ [a]) H' ⟨⟨[a], rfl⟩, g.tup, g.frz, g.ext⟩ (by unfold RepV; exact ⟨a, by rw [← rh.len]; simp, rfl⟩) ⟨by simp [rh.len], ?_, fun i b ob' hi hb => ?_⟩
          · exact List.nodup_append.mpr ⟨r1.nd, by simp, fun x hx y hy z => hn (by simp at hy; rw [← hy, ← z]; exact hx)⟩
          · by_cases hl : i < m.length
            · rw [List.getElem?_append_left hl] at hi
              rw [List.getElem?_append_left (by rw [← rh.len]; exact hl)] at hb
              exact (r1.at_ i b ob' hi hb).keep ⟨⟨[a], rfl⟩, fun _ _ z => z, fun _ _ _ z => z, fun _ _ z => z⟩ rfl
            · have hz : i = m.length := by
                obtain ⟨q, _⟩ := List.getElem?_eq_some_iff.mp hi
                simp at q; omega
              subst hz
              simp at hi
              rw [rh.len] at hb
              simp at hb
              subst hi hb
              exact ro
        · exact o.elim
    | _ => exact (show False from o).elim
  | exc c h' =>
    rw [q] at o
    simp only at o
    split at o
    · rename_i e
      intro m' H' g rh'
      have := rh.cut rh' g (take_same e)
      rw [e] at this
      exact o m H' g.cut this
    · exact o.elim
  | bad => rw [q] at o; exact o
theorem nEff_ok (rh : RepH K m H h) (o : OutC K m H Q E (nEff φ xs h)) : OutC K m H Q E (φ xs h) := by
  unfold nEff at o
  cases q : φ xs h with
  | ok d h' =>
    rw [q] at o
    simp only at o
    split at o
    · rename_i c
      intro v m' H' g rv rh'
      exact o v m H' g.cut (rv.free c.1) (rh.cut rh' g c.2)
    · exact o.elim
  | exc c h' =>
    rw [q] at o
    simp only at o
    split at o
    · rename_i e
      intro m' H' g rh'
      exact o m H' g.cut (rh.cut rh' g e)
    · exact o.elim
  | bad => rw [q] at o; exact o
end
/-- a kind of end -/
structure Nrm where
  f : Fm → Fm
  ok : ∀ (K : PySem.W.Frag) (m : List Addr) (H : Hp) (Q : VK) (E : XK) (φ : Fm) (xs : List D) (h : Hs), RepH K m H h → OutC K m H Q E (f φ xs h) → OutC K m H Q E (φ xs h)
  ar : ∀ (φ : Fm) (n : Nat), (∀ xs h, xs.length ≠ n → φ xs h = .bad) → ∀ xs h, xs.length ≠ n → f φ xs h = .bad
noncomputable def kPure : Nrm := ⟨nPure, fun _ _ _ _ _ _ _ _ => nPure_ok, fun φ n a xs h l => by unfold nPure; rw [a xs h l]⟩
noncomputable def kNew : Nrm := ⟨nNew, fun _ _ _ _ _ _ _ _ => nNew_ok, fun φ n a xs h l => by unfold nNew; rw [a xs h l]⟩
noncomputable def kEff : Nrm := ⟨nEff, fun _ _ _ _ _ _ _ _ => nEff_ok, fun φ n a xs h l => by unfold nEff; rw [a xs h l]⟩
def startD (nN : Nat) (xs : List D) : Sl := xs.map some ++ List.replicate (nN - xs.length) none
def runM (np nN : Nat) (M : SM) : Fm := fun xs h => if xs.length = np then (match M (startD nN xs) h with
  | .nx _ h => .ok .non h
  | .rt d h => .ok d h
  | .exc c _ h => .exc c h
  | _ => .bad) else .bad
theorem runM_ar (np nN : Nat) (M : SM) : ∀ xs h, xs.length ≠ np → runM np nN M xs h = .bad := fun xs h l => if_neg l
theorem repS_start {K : PySem.W.Frag} {m : List Addr} {H : Hp} {N : List Str} : ∀ {xs : List D} {vs : List V}, RepL K m H xs vs → RepS K m H (startD N.length xs) (start N vs) := by
  intro xs vs r
  have rep : ∀ n : Nat, RepS K m H (List.replicate n none) (List.replicate n none) := fun n => by
    induction n with
    | zero => exact trivial
    | succ n ih => exact ⟨fun d e => (nomatch e), ih⟩
  have gen : ∀ (n : Nat) (xs : List D) (vs : List V), RepL K m H xs vs → RepS K m H (xs.map some ++ List.replicate n none) (vs.map some ++ List.replicate n none) := by
    intro n xs
    induction xs with
    | nil => intro vs r; unfold RepL at r; subst r; exact rep n
    | cons x xs ih =>
      intro vs r
      unfold RepL at r
      obtain ⟨v, vr, rfl, h1, h2⟩ := r
      exact ⟨fun d e => by cases e; exact ⟨v, rfl, h1⟩, ih vr h2⟩
  unfold startD L2.start
  rw [r.length]
  exact gen _ xs vs r
section
variable {P : Program} {w : World} {K : PySem.W.Frag} {mg : Str → Option Value} {base : Heap} {x qual : Str} {params : Arguments} {body : List Stmt} {scope : Scope} {f : Addr} {fd : FuncData}
theorem def_ok {N ps : List Str} {k : Nat} {M : SM} (kd : Nrm) (F : FunD K x qual params body scope [] [] f fd) (S : FnScope N ps scope)
    (hb : ∀ (cdv : Value) (A : Around) (outer : List Env) (s : Shared) (H : Hp) (E : XK) (W : WX), Room k (A.deeper (envOfC qual scope s.heap.objs.size f cdv)) → Takes (cxOf (L2.CX P w) P w K mg base N qual scope f cdv A outer s H E) W →
      PSs (cxOf (L2.CX P w) P w K mg base N qual scope f cdv A outer s H E) body (tS ⟨K, W⟩ M)) : FnOk P w K mg base (L2.CX P w) (k + 1) f fd ps (spM K ps.length (kd.f (runM ps.length N.length M))) := by
  refine F.ok S (fun vs H Q E h => h.1) fun cdv A outer s H vs Q E hr h => ?_
  obtain ⟨hl, m, ds, hs, rl, rh, o⟩ := h
  have o := kd.ok K m H Q E _ ds hs rh o
  refine ⟨_, hb cdv A outer s H E (fun cls d _ H => E cls d H) hr (takes_of rfl rfl rfl rfl), m, startD N.length ds, hs, repS_start rl, rh, ?_⟩
  unfold runM at o
  rw [if_pos (by rw [← rl.length]; exact hl)] at o
  cases q : M (startD N.length ds) hs with
  | nx ds1 h1 => rw [q] at o; exact fun σ' m' H' g r rh' => o .non m' H' g (by unfold RepV; rfl) rh'
  | rt d h1 => rw [q] at o; exact fun v m' H' g r rh' => o v m' H' g r rh'
  | exc c ds1 h1 => rw [q] at o; exact fun σ' m' H' g r rh' => o m' H' g rh'
  | bk ds1 h1 => rw [q] at o; exact o.elim
  | ct ds1 h1 => rw [q] at o; exact o.elim
  | bad => rw [q] at o; exact o.elim
/-- nothing is told at level 0 -/
theorem fnAt_zero {ps : List Str} (F : FunD K x qual params body scope [] [] f fd) (hm : mg x = some (.ref f)) (hb : Binds K fd ps []) : FnAt P w K mg base 0 x ps fun _ _ => .bad :=
  ⟨⟨f, fd, hm, F.kp, hb, ⟨fun vs H Q E h => h.1, fun A outer s H args us vs Q E _ _ _ _ h => by obtain ⟨_, m, ds, hs, _, _, o⟩ := h; exact o.elim⟩⟩, fun _ _ _ => rfl⟩
end
end DV
namespace DV
open PySem PySem.Spec PyProof.Rows L2
def intF (g : Int → Int → Option D) : VF2
  | .int i, .int j, h => (g i j).map fun d => (d, h)
  | _, _, _ => none
theorem intF_inv {g : Int → Int → Option D} {x y : D} {h : Hs} {p : D × Hs} (e : intF g x y h = some p) : ∃ i j d, x = .int i ∧ y = .int j ∧ g i j = some d ∧ p = (d, h) := by
  unfold intF at e
  split at e
  · rename_i i j
    cases q : g i j with
    | none => rw [q] at e; cases e
    | some d => rw [q] at e; exact ⟨i, j, d, rfl, rfl, q, (Option.some.inj e).symm⟩
  · cases e
def ipF (C : Int → Int → Bool) (g : Int → Int → Int) : VF2 := intF fun i j => if C i j = true then some (.int (g i j)) else none
def cmpF (p : Int → Int → Bool) : VF2 := intF fun i j => some (.bl (p i j))
noncomputable def cMul (i j : Int) : Bool := cB ((-18446744073709551616 < i ∧ i < 18446744073709551616) ∨ (-18446744073709551616 < j ∧ j < 18446744073709551616))
noncomputable def cDiv (_ j : Int) : Bool := cB (0 < j ∧ j < 1073741824)
noncomputable def cMod (_ j : Int) : Bool := cB (0 < j)
noncomputable def cPow (i j : Int) : Bool := cB (0 ≤ j ∧ j ≤ 1000000 ∧ i.natAbs < 18446744073709551616)
def subF : VF2 := ipF (fun _ _ => true) fun i j => i - j
noncomputable def fdivF : VF2 := ipF cDiv fun i j => i / j
noncomputable def modF : VF2 := ipF cMod fun i j => i % j
noncomputable def powF : VF2 := ipF cPow fun i j => i ^ j.toNat
def ltF : VF2 := cmpF fun i j => decide (i < j)
def gtF : VF2 := cmpF fun i j => decide (j < i)
def geF : VF2 := cmpF fun i j => decide (j ≤ i)
def negF : D → Hs → Res
  | .int i, h => some (.int (-i), h)
  | _, _ => none
section
variable {X : Cx} {K : PySem.W.Frag} {f : Value → Value → Sem Value}
theorem ip_ok {C : Int → Int → Bool} {P : Int → Int → Prop} {g : Int → Int → Int} (op : OpR X f (rI P fun i j => .int (g i j))) (hc : ∀ i j, C i j = true → P i j) : OpR X f (rV K (ipF C g)) := by
  intro pns s σ H x y v u Q I rx ry h
  obtain ⟨m, hs, dx, dy, r1, r2, rh, o⟩ := h
  cases e : ipF C g dx dy hs with
  | none => rw [e] at o; exact o.elim
  | some p =>
    rw [e] at o
    obtain ⟨i, j, d, rfl, rfl, q, rfl⟩ := intF_inv e
    unfold RepV at r1 r2
    subst r1 r2
    split at q
    · rename_i c
      cases q
      exact op pns s σ H _ _ v u Q I rx ry ⟨i, j, rfl, rfl, hc i j c, o _ m H (.refl _ _) (by unfold RepV; rfl) rh⟩
    · cases q
theorem cmp_ok {p : Int → Int → Bool} (op : OpR X f (rI0 fun i j => .bl (p i j))) : OpR X f (rV K (cmpF p)) := by
  intro pns s σ H x y v u Q I rx ry h
  obtain ⟨m, hs, dx, dy, r1, r2, rh, o⟩ := h
  cases e : cmpF p dx dy hs with
  | none => rw [e] at o; exact o.elim
  | some q =>
    rw [e] at o
    obtain ⟨i, j, d, rfl, rfl, q, rfl⟩ := intF_inv e
    unfold RepV at r1 r2
    subst r1 r2
    cases q
    exact op pns s σ H _ _ v u Q I rx ry ⟨i, j, rfl, rfl, o _ m H (.refl _ _) (by unfold RepV; rfl) rh⟩
theorem o_sub : OpR X (binaryOp .Sub) (rV K subF) := ip_ok (P := fun _ _ => True) (fun pns s σ H x y v u Q I rx ry ⟨i, j, e1, e2, _, q⟩ => op_sub pns s σ H x y v u Q I rx ry ⟨i, j, e1, e2, q⟩) fun _ _ _ => trivial
theorem o_fdiv : OpR X (binaryOp .FloorDiv) (rV K fdivF) := ip_ok op_fdiv fun i j h => cB_iff.mp h
theorem o_mod : OpR X (binaryOp .Mod) (rV K modF) := ip_ok op_mod fun i j h => cB_iff.mp h
theorem o_pow : OpR X (binaryOp .Pow) (rV K powF) := ip_ok op_pow fun i j h => cB_iff.mp h
theorem o_lt : OpR X (compareOp .Lt) (rV K ltF) := cmp_ok op_lt
theorem o_gt : OpR X (compareOp .Gt) (rV K gtF) := cmp_ok op_gt
theorem o_ge : OpR X (compareOp .GtE) (rV K geF) := cmp_ok op_ge
end
theorem em_neg {X : Cx} {g : Cfg} {a : Expr} {A : EM} {pos : Pos} (ha : PE X a (tM g A)) : PE X (.UnaryOp .USub a pos) (tM g (unM negF A)) := by
  refine PE.weak (pe_un un_neg ha) fun σ H Q ⟨m, ds, h, hs, rh, o⟩ => ⟨m, ds, h, hs, rh, OutE.toE o fun d h1 v m1 H1 g1 r1 rh1 o1 => ?_⟩
  cases d with
  | int i => unfold RepV at r1; exact ⟨i, r1, o1 _ m1 H1 (.refl _ _) (by unfold RepV; rfl) rh1⟩
  | _ => exact (show False from o1).elim
def addF : VF2
  | .int i, .int j, h => some (.int (i + j), h)
  | .str a, .str b, h => if a.length + b.length ≤ LIM then some (.str (a ++ b), h) else none
  | .tup xs, .tup ys, h => if xs.length + ys.length ≤ LIM then some (.tup (xs ++ ys), h) else none
  | .loc a, .loc b, h => match h[a]?, h[b]? with
    | some (.lst xs), some (.lst ys) => if xs.length + ys.length ≤ LIM then some (.loc h.length, h ++ [.lst (xs ++ ys)]) else none
    | _, _ => none
  | .ro ns, .loc b, h => match h[b]? with
    | some (.lst ys) => if ns.length + ys.length ≤ LIM then some (.loc h.length, h ++ [.lst (ns.map D.int ++ ys)]) else none
    | _ => none
  | _, _, _ => none
section
variable {X : Cx} {K : PySem.W.Frag}
/-- list + list, read at any list -/
theorem op_catL : OpR X (binaryOp .Add) (fun x y H Q => ∃ l b xs zs, x = .ref l ∧ y = .ref b ∧ SqL X.K H l xs ∧ SqL X.K H b zs ∧ xs.length + zs.length ≤ sizeLine ∧ ∀ p, H p = none → Q (.ref p) (upd H p (.lst (xs ++ zs)))) := by
  intro pns s σ H x y v u Q I rx ry h
  obtain ⟨l, b, xs, zs, rfl, rfl, hH, hB, hz, q⟩ := h
  cases rx
  cases ry
  obtain ⟨its, r, pl, z⟩ := I.list hH
  obtain ⟨its2, r2, pl2, z2⟩ := I.list hB
  have hl := r.length
  have hl2 := r2.length
  obtain ⟨⟨cls, dd, data, sl⟩, ho, hc, n, hd⟩ := pl.isList
  obtain ⟨⟨cls2, dd2, data2, sl2⟩, ho2, hc2, n2, hd2⟩ := pl2.isList
  simp only at hc hd hc2 hd2
  subst hc hd hc2 hd2
  have e : its.toArray ++ its2.toArray = (its ++ its2).toArray := by simp
  refine concat_meets ⟨_, ho, rfl⟩ ⟨_, ho2, rfl⟩ noFill_list_add seq_list_add PySem.F.slot_list_add PySem.F.entry_list_add (PySem.F.args_list_add_2 _ _) (list_addW l b its.toArray its2.toArray n n2 dd dd2 sl sl2 (by simp only [List.size_toArray]; omega)) ⟨ho, ho2, ?_⟩
  rw [e]
  exact ⟨.ref _, _, I.lnew (t' := s.toks) (r.append r2) (by rw [List.length_append]; omega), rfl, q _ I.fresh⟩
theorem repL_ints {m : List Addr} {H : Hp} : ∀ ns : List Int, RepL K m H (ns.map D.int) (ns.map V.int)
  | [] => RepL.nil
  | n :: ns => .cons (by unfold RepV; rfl) (repL_ints ns)
/-- a list told, at its number -/
theorem new_lst' {m : List Addr} {H : Hp} {h : Hs} {xs : List D} {vs : List V} {p : Addr} {Q : VK} (rl : RepL K m H xs vs) (rh : RepH K m H h) (hp : H p = none) (o : OutV K m H Q (some (.loc h.length, h ++ [.lst xs]))) : Q (.ref p) (upd H p (.lst vs)) :=
  let ⟨q1, q2⟩ := new_lst (g := ⟨K, fun _ _ _ _ => False⟩) rl rh hp
  o _ _ _ (.app hp) q1 q2
theorem LIM_eq : sizeLine = LIM := sizeLine_eq
theorem o_add : OpR X (binaryOp .Add) (rV X.K addF) := by
  intro pns s σ H x y v u Q I rx ry h
  obtain ⟨m, hs, dx, dy, r1, r2, rh, o⟩ := h
  unfold addF at o
  split at o
  · unfold RepV at r1 r2
    subst r1 r2
    exact op_add pns s σ H _ _ v u Q I rx ry ⟨_, _, rfl, rfl, o _ m H (.refl _ _) (by unfold RepV; rfl) rh⟩
  · unfold RepV at r1 r2
    subst r1 r2
    split at o
    · rename_i hz
      exact op_add_str pns s σ H _ _ v u Q I rx ry ⟨_, _, rfl, rfl, by rw [LIM_eq]; exact hz, o _ m H (.refl _ _) (by unfold RepV; rfl) rh⟩
    · exact o.elim
  · unfold RepV at r1 r2
    obtain ⟨a, vs, rfl, ha, rl⟩ := r1
    obtain ⟨b, ws, rfl, hb, rl2⟩ := r2
    split at o
    · rename_i hz
      refine op_catA pns s σ H _ _ v u Q I rx ry ⟨a, b, vs, ws, rfl, rfl, SqT.of ha, SqT.of hb, by rw [LIM_eq, rl.length, rl2.length]; exact hz, fun e => ?_, fun e1 e => ?_, fun _ _ p hp => ?_⟩
      · have := rl.nil_iff.mp e
        subst this
        exact o _ m H (.refl _ _) (by unfold RepV; exact ⟨b, ws, rfl, hb, rl2⟩) rh
      · have := rl2.nil_iff.mp e
        subst this
        refine o _ m H (.refl _ _) ?_ rh
        show RepV X.K m H (.tup (_ ++ [])) _
        rw [List.append_nil]
        unfold RepV
        exact ⟨a, vs, rfl, ha, rl⟩
      · exact o _ m _ (.put hp) (by unfold RepV; exact ⟨p, _, rfl, upd_same, (rl.append rl2).mono (.put hp)⟩) (rh.put hp)
    · exact o.elim
  · unfold RepV at r1 r2
    obtain ⟨a, ha, rfl⟩ := r1
    obtain ⟨b, hb, rfl⟩ := r2
    split at o
    · rename_i xs ys e1 e2
      obtain ⟨vs, hv, rl⟩ := rh.lst ha e1
      obtain ⟨ws, hw, rl2⟩ := rh.lst hb e2
      split at o
      · rename_i hz
        exact op_catL pns s σ H _ _ v u Q I rx ry ⟨a, b, vs, ws, rfl, rfl, SqL.of hv, SqL.of hw, by rw [LIM_eq, rl.length, rl2.length]; exact hz, fun p hp => new_lst' (rl.append rl2) rh hp o⟩
      · exact o.elim
    · exact o.elim
  · unfold RepV at r1 r2
    obtain ⟨a, rfl, ha⟩ := r1
    obtain ⟨b, hb, rfl⟩ := r2
    split at o
    · rename_i ys e2
      obtain ⟨ws, hw, rl2⟩ := rh.lst hb e2
      split at o
      · rename_i hz
        exact op_catL pns s σ H _ _ v u Q I rx ry ⟨a, b, _, ws, rfl, rfl, ha.sq, SqL.of hw, by rw [LIM_eq, List.length_map, rl2.length]; exact hz, fun p hp => new_lst' ((repL_ints _).append rl2) rh hp o⟩
      · exact o.elim
    · exact o.elim
  · exact o.elim
/-- a text n times -/
def repS (z : Str) (n : Nat) : Str := ⟨((List.replicate n z.cps.toList).flatten).toArray⟩
theorem rep_fold (l : List Nat) : ∀ (k : Nat) (acc : List Nat), (List.replicate k l.toArray).foldl (fun p q => p ++ q) acc.toArray = (acc ++ (List.replicate k l).flatten).toArray
  | 0, acc => by simp
  | k + 1, acc => by
    have ih := rep_fold l k (acc ++ l)
    have e : acc.toArray ++ l.toArray = (acc ++ l).toArray := by simp
    rw [List.replicate_succ, List.foldl_cons, e, ih, List.replicate_succ, List.flatten_cons, List.append_assoc]
theorem rep_len (l : List Nat) (k : Nat) : (List.replicate k l).flatten.length = l.length * k := by
  induction k with
  | zero => simp
  | succ k ih => rw [List.replicate_succ, List.flatten_cons, List.length_append, ih, Nat.mul_succ, Nat.add_comm]
noncomputable def mulF : VF2
  | .int i, .int j, h => if cMul i j = true then some (.int (i * j), h) else none
  | .str z, .int j, h => if cB (-1000000 ≤ j ∧ j ≤ 1000000 ∧ z.length ≤ 1000000 ∧ z.length * j.toNat ≤ LIM) = true then some (.str (repS z j.toNat), h) else none
  | _, _, _ => none
theorem mul_strD {A : Around} {E : Value → Shared → Prop} {P : Program} {w : World} {s : Shared} {z : Str} {j : Int} {t u : Tok} {Q : Value → Shared → Prop} (c1 : -1000000 ≤ j) (c2 : j ≤ 1000000) (c3 : z.length ≤ 1000000) (c4 : z.length * j.toNat ≤ LIM)
    (q : ∀ t' tk, Q (.str (repS z j.toNat) t') { s with toks := tk }) : wpAny (model P w) A (binaryOp .Mult (.str z t) (.int j u)) Q E s := by
  have hz : z.length = z.cps.toList.length := by rw [Array.length_toList]; rfl
  refine PySem.P.mul_str (by rw [decide_eq_false (by omega), decide_eq_false (by omega)]; rfl) (fun h1 h2 h3 => ?_) (fun h1 h2 => ?_) ?_
  · have h5 : (1000000 : Int) ≤ (2 ^ 63 - 1) / j := (Int.le_ediv_iff_mul_le (by omega)).mpr (by omega)
    omega
  · show decide (_ > sizeLine) = false
    rw [LIM_eq]
    exact decide_eq_false (by omega)
  · have e1 : sizeLine = LIM := LIM_eq
    by_cases h1 : j < 1
    · rw [if_pos h1]
      have : j.toNat = 0 := by omega
      rw [this] at q
      exact ⟨by rw [e1]; decide, q _ _⟩
    · rw [if_neg h1]
      by_cases h2 : (j == 1 || z.length == 0) = true
      · rw [if_pos h2]
        have er : repS z j.toNat = z := by
          rcases Bool.or_eq_true_iff.mp h2 with h | h
          · have : j = 1 := eq_of_beq h
            subst this
            show (⟨((List.replicate 1 z.cps.toList).flatten).toArray⟩ : Str) = z
            simp
          · have h : z.length = 0 := eq_of_beq h
            have hl : z.cps.toList = [] := List.eq_nil_of_length_eq_zero (by omega)
            have hn : z.cps = #[] := Array.toList_inj.mp hl
            cases z with
            | mk cps => subst hn; unfold repS; simp
        have := q t s.toks
        rw [er] at this
        exact this
      · rw [if_neg h2]
        have ef : (List.replicate j.toNat z.cps).foldl (fun p q => p ++ q) #[] = ((List.replicate j.toNat z.cps.toList).flatten).toArray := by
          have := rep_fold z.cps.toList j.toNat []
          simpa using this
        refine ⟨?_, ?_⟩
        · rw [e1]
          show Array.size _ ≤ LIM
          rw [ef, List.size_toArray, rep_len, ← hz]
          exact c4
        · have := q s.toks (s.toks + 1)
          unfold repS at this
          rw [← ef] at this
          exact this
theorem o_mul : OpR X (binaryOp .Mult) (rV K mulF) := by
  intro pns s σ H x y v u Q I rx ry h
  obtain ⟨m, hs, dx, dy, r1, r2, rh, o⟩ := h
  unfold mulF at o
  split at o
  · unfold RepV at r1 r2
    subst r1 r2
    split at o
    · rename_i c
      refine op_mul pns s σ H _ _ v u Q I rx ry ⟨_, _, rfl, rfl, ?_, o _ m H (.refl _ _) (by unfold RepV; rfl) rh⟩
      exact cB_iff.mp c
    · exact o.elim
  · unfold RepV at r1 r2
    subst r1 r2
    split at o
    · rename_i c
      have c := cB_iff.mp c
      obtain ⟨t, rfl⟩ := rx
      obtain ⟨t', rfl⟩ := ry
      exact mul_strD c.1 c.2.1 c.2.2.1 c.2.2.2 fun t' tk => ⟨.str _, H, I.tok _, ⟨_, rfl⟩, o _ m H (.refl _ _) (by unfold RepV; rfl) rh⟩
    · exact o.elim
  · exact o.elim
end
mutual
/-- texts, numbers, None, and tuples of them -/
def pyOk : D → Bool
  | .non => true
  | .int _ => true
  | .str s => PyData.strOk s
  | .tup ds => pyOkL ds
  | .bl _ => false
  | .loc _ => false
  | .ro _ => false
  | .exn _ => false
def pyOkL : List D → Bool
  | [] => true
  | d :: ds => pyOk d && pyOkL ds
end
mutual
def depD : D → Nat
  | .tup ds => depL ds + 1
  | .non => 0
  | .int _ => 0
  | .str _ => 0
  | .bl _ => 0
  | .loc _ => 0
  | .ro _ => 0
  | .exn _ => 0
def depL : List D → Nat
  | [] => 0
  | d :: ds => max (depD d) (depL ds)
end
mutual
def toPy : D → PyData
  | .non => .none
  | .int i => .int i
  | .str s => .str s
  | .tup ds => .tuple (toPyL ds)
  | .bl b => .bool b
  | .loc _ => .none
  | .ro _ => .none
  | .exn _ => .none
def toPyL : List D → List PyData
  | [] => []
  | d :: ds => toPy d :: toPyL ds
end
mutual
theorem canLay_of : ∀ {d : D}, pyOk d = true → (toPy d).canLay0 = true
  | .non, _ => rfl
  | .int _, _ => rfl
  | .str s, k => by unfold pyOk at k; exact k
  | .tup ds, k => by unfold pyOk at k; exact canLay_ofL k
  | .bl _, _ => rfl
  | .loc _, _ => rfl
  | .ro _, _ => rfl
  | .exn _, _ => rfl
theorem canLay_ofL : ∀ {ds : List D}, pyOkL ds = true → PyData.canLayAll0 (toPyL ds) = true
  | [], _ => rfl
  | d :: ds, k => by
    unfold pyOkL at k
    obtain ⟨k1, k2⟩ := Bool.and_eq_true_iff.mp k
    show ((toPy d).canLay0 && PyData.canLayAll0 (toPyL ds)) = true
    rw [canLay_of k1, canLay_ofL k2]; rfl
end
mutual
theorem dep_toPy : ∀ d : D, (toPy d).depth = depD d
  | .non => rfl
  | .int _ => rfl
  | .str _ => rfl
  | .tup ds => by
    show PyData.depthAll (toPyL ds) + 1 = depL ds + 1
    rw [dep_toPyL ds]
  | .bl _ => rfl
  | .loc _ => rfl
  | .ro _ => rfl
  | .exn _ => rfl
theorem dep_toPyL : ∀ ds : List D, PyData.depthAll (toPyL ds) = depL ds
  | [] => rfl
  | d :: ds => by
    show max (toPy d).depth (PyData.depthAll (toPyL ds)) = max (depD d) (depL ds)
    rw [dep_toPy d, dep_toPyL ds]
end
mutual
theorem eqv_iff : ∀ {d e : D}, pyOk d = true → pyOk e = true → (PyData.eqv (toPy d) (toPy e) = true ↔ d = e)
  | .non, .non, _, _ => by simp [toPy, PyData.eqv]
  | .int i, .int j, _, _ => by simp [toPy, PyData.eqv]
  | .str i, .str j, _, _ => by simp [toPy, PyData.eqv]
  | .tup ds, .tup es, k1, k2 => by
    unfold pyOk at k1 k2
    have := eqv_iffL k1 k2
    simp only [toPy, PyData.eqv, D.tup.injEq]
    exact this
  | .non, .int _, _, _ => by simp [toPy, PyData.eqv]
  | .non, .str _, _, _ => by simp [toPy, PyData.eqv]
  | .non, .tup _, _, _ => by simp [toPy, PyData.eqv]
  | .int _, .non, _, _ => by simp [toPy, PyData.eqv]
  | .int _, .str _, _, _ => by simp [toPy, PyData.eqv]
  | .int _, .tup _, _, _ => by simp [toPy, PyData.eqv]
  | .str _, .non, _, _ => by simp [toPy, PyData.eqv]
  | .str _, .int _, _, _ => by simp [toPy, PyData.eqv]
  | .str _, .tup _, _, _ => by simp [toPy, PyData.eqv]
  | .tup _, .non, _, _ => by simp [toPy, PyData.eqv]
  | .tup _, .int _, _, _ => by simp [toPy, PyData.eqv]
  | .tup _, .str _, _, _ => by simp [toPy, PyData.eqv]
  | .bl _, _, k, _ => by unfold pyOk at k; cases k
  | .loc _, _, k, _ => by unfold pyOk at k; cases k
  | .ro _, _, k, _ => by unfold pyOk at k; cases k
  | .exn _, _, k, _ => by unfold pyOk at k; cases k
  | _, .bl _, _, k => by unfold pyOk at k; cases k
  | _, .loc _, _, k => by unfold pyOk at k; cases k
  | _, .ro _, _, k => by unfold pyOk at k; cases k
  | _, .exn _, _, k => by unfold pyOk at k; cases k
theorem eqv_iffL : ∀ {ds es : List D}, pyOkL ds = true → pyOkL es = true → (PyData.eqvAll (toPyL ds) (toPyL es) = true ↔ ds = es)
  | [], [], _, _ => by simp [toPyL, PyData.eqvAll]
  | [], _ :: _, _, _ => by simp [toPyL, PyData.eqvAll]
  | _ :: _, [], _, _ => by simp [toPyL, PyData.eqvAll]
  | d :: ds, e :: es, k1, k2 => by
    unfold pyOkL at k1 k2
    obtain ⟨a1, a2⟩ := Bool.and_eq_true_iff.mp k1
    obtain ⟨b1, b2⟩ := Bool.and_eq_true_iff.mp k2
    show (PyData.eqv (toPy d) (toPy e) && PyData.eqvAll (toPyL ds) (toPyL es)) = true ↔ _
    rw [Bool.and_eq_true_iff, eqv_iff a1 b1, eqv_iffL a2 b2, List.cons.injEq]
end
mutual
def pyW (φ : Nat → Option PyData) : D → Option PyData
  | .non => some .none
  | .bl b => some (.bool b)
  | .int i => some (.int i)
  | .str s => some (.str s)
  | .tup ds => (pyWL φ ds).map .tuple
  | .loc l => φ l
  | .ro ns => some (.list (ns.map .int))
  | .exn _ => none
def pyWL (φ : Nat → Option PyData) : List D → Option (List PyData)
  | [] => some []
  | d :: ds => (pyW φ d).bind fun p => (pyWL φ ds).map fun ps => p :: ps
end
def pyLoc : Nat → Hs → Nat → Option PyData
  | 0, _, _ => none
  | n + 1, h, l => match h[l]? with
    | some (.lst ds) => (pyWL (pyLoc n h) ds).map .list
    | _ => none
def pyH (h : Hs) (d : D) : Option PyData := pyW (pyLoc 4 h) d
section
variable {K : PySem.W.Frag} {m : List Addr} {H : Hp}
theorem dp_ints : ∀ ns : List Int, DpAll K H (ns.map V.int) (ns.map .int)
  | [] => .nil
  | n :: ns => .cons (.int n) (dp_ints ns)
mutual
theorem pyW_dp {φ : Nat → Option PyData} (hφ : ∀ l p v, φ l = some p → RepV K m H (.loc l) v → Dp K H v p) : ∀ {d : D} {v : V} {p : PyData}, pyW φ d = some p → RepV K m H d v → Dp K H v p
  | .non, _, _, e, r => by unfold RepV at r; subst r; cases e; exact .non
  | .bl b, _, _, e, r => by unfold RepV at r; subst r; cases e; exact .bl b
  | .int i, _, _, e, r => by unfold RepV at r; subst r; cases e; exact .int i
  | .str s, _, _, e, r => by unfold RepV at r; subst r; cases e; exact .str s
  | .tup ds, _, _, e, r => by
    unfold RepV at r
    obtain ⟨a, xs, rfl, ha, rl⟩ := r
    unfold pyW at e
    cases q : pyWL φ ds with
    | none => rw [q] at e; cases e
    | some ps => rw [q] at e; cases e; exact .tup (SqT.of ha) (pyWL_dp hφ q rl)
  | .loc l, _, _, e, r => hφ _ _ _ (by unfold pyW at e; exact e) r
  | .ro ns, _, _, e, r => by
    unfold RepV at r
    obtain ⟨a, rfl, q⟩ := r
    cases e
    exact .lst q.sq (dp_ints ns)
  | .exn _, _, _, e, _ => by cases e
theorem pyWL_dp {φ : Nat → Option PyData} (hφ : ∀ l p v, φ l = some p → RepV K m H (.loc l) v → Dp K H v p) : ∀ {ds : List D} {vs : List V} {ps : List PyData}, pyWL φ ds = some ps → RepL K m H ds vs → DpAll K H vs ps
  | [], _, _, e, r => by unfold RepL at r; subst r; cases e; exact .nil
  | d :: ds, _, _, e, r => by
    unfold RepL at r
    obtain ⟨x, xs, rfl, r1, r2⟩ := r
    unfold pyWL at e
    cases q1 : pyW φ d with
    | none => rw [q1] at e; cases e
    | some p =>
      cases q2 : pyWL φ ds with
      | none => rw [q1, q2] at e; cases e
      | some ps => rw [q1, q2] at e; cases e; exact .cons (pyW_dp hφ q1 r1) (pyWL_dp hφ q2 r2)
end
theorem pyLoc_dp {h : Hs} (rh : RepH K m H h) : ∀ (n l : Nat) (p : PyData) (v : V), pyLoc n h l = some p → RepV K m H (.loc l) v → Dp K H v p
  | 0, _, _, _, e, _ => by cases e
  | n + 1, l, p, v, e, r => by
    unfold RepV at r
    obtain ⟨a, ha, rfl⟩ := r
    unfold pyLoc at e
    cases q : h[l]? with
    | none => rw [q] at e; cases e
    | some o =>
      rw [q] at e
      cases o with
      | lst ds =>
        simp only at e
        obtain ⟨vs, hv, rl⟩ := rh.lst ha q
        cases q2 : pyWL (pyLoc n h) ds with
        | none => rw [q2] at e; cases e
        | some ps => rw [q2] at e; cases e; exact .lst (SqL.of hv) (pyWL_dp (fun l p v => pyLoc_dp rh n l p v) q2 rl)
      | _ => cases e
theorem pyH_dp {h : Hs} (rh : RepH K m H h) {d : D} {v : V} {p : PyData} (e : pyH h d = some p) (r : RepV K m H d v) : Dp K H v p := pyW_dp (fun l p v => pyLoc_dp rh 4 l p v) e r
end
mutual
theorem pyW_of (φ : Nat → Option PyData) : ∀ {d : D}, pyOk d = true → pyW φ d = some (toPy d)
  | .non, _ => rfl
  | .int _, _ => rfl
  | .str _, _ => rfl
  | .tup ds, k => by
    unfold pyOk at k
    unfold pyW toPy
    rw [pyWL_of φ k]; rfl
  | .bl _, _ => rfl
  | .loc _, k => by unfold pyOk at k; cases k
  | .ro _, k => by unfold pyOk at k; cases k
  | .exn _, k => by unfold pyOk at k; cases k
theorem pyWL_of (φ : Nat → Option PyData) : ∀ {ds : List D}, pyOkL ds = true → pyWL φ ds = some (toPyL ds)
  | [], _ => rfl
  | d :: ds, k => by
    unfold pyOkL at k
    obtain ⟨a, b⟩ := Bool.and_eq_true_iff.mp k
    unfold pyWL toPyL
    rw [pyW_of φ a, pyWL_of φ b]; rfl
end
/-- two lists of different lengths -/
def lenNe (d e : D) (h : Hs) : Bool := match d, e with
  | .loc a, .loc b => (match h[a]?, h[b]? with
    | some (.lst xs), some (.lst ys) => decide (xs.length ≠ ys.length)
    | _, _ => false)
  | _, _ => false
/-- d == e, where it is told -/
noncomputable def eqB (d e : D) (h : Hs) : Option Bool := if lenNe d e h = true then some false else match pyH h d, pyH h e with
  | some p, some q => if p.canLay0 = true ∧ q.canLay0 = true ∧ p.depth ≤ 190 then some (PyData.eqv p q) else none
  | _, _ => none
noncomputable def eqF : VF2 := fun d e h => (eqB d e h).map fun b => (.bl b, h)
noncomputable def neF : VF2 := fun d e h => (eqB d e h).map fun b => (.bl (!b), h)
section
variable {X : Cx}
theorem decide_iff {p : Prop} {b : Bool} (h : b = true ↔ p) : b = @decide p (Classical.propDecidable p) := by
  letI := Classical.propDecidable p
  by_cases hp : p
  · rw [decide_eq_true hp, h.mpr hp]
  · rw [decide_eq_false hp]
    cases b with
    | true => exact absurd (h.mp rfl) hp
    | false => rfl
/-- both comparisons at once -/
theorem eq_core {pns : List (Addr × Obj)} {s : Shared} {σ : St} {H : Hp} {x y : V} {v u : Value} {m : List Addr} {hs : Hs} {dx dy : D} {b : Bool} (hu : X.A.units + 195 < cLine) (I : Inv X pns σ H s) (rx : RelV x v) (ry : RelV y u) (r1 : RepV X.K m H dx x) (r2 : RepV X.K m H dy y)
    (rh : RepH X.K m H hs) (e : eqB dx dy hs = some b) {Q : Value → Shared → Prop} {Q' : Value → Shared → Prop} {E : Value → Shared → Prop} (q : Q (.bool b) s) (q' : Q' (.bool (!b)) s) :
    wpAny (model X.prog X.w) X.A (compareOp .Eq v u) Q E s ∧ wpAny (model X.prog X.w) X.A (compareOp .NotEq v u) Q' E s := by
  unfold eqB at e
  split at e
  · rename_i c
    cases e
    unfold lenNe at c
    split at c
    · rename_i i j
      unfold RepV at r1 r2
      obtain ⟨a, ha, rfl⟩ := r1
      obtain ⟨c2, hc, rfl⟩ := r2
      split at c
      · rename_i xs ys e1 e2
        have hne := of_decide_eq_true c
        obtain ⟨vs, hv, rl⟩ := rh.lst ha e1
        obtain ⟨ws, hw, rl2⟩ := rh.lst hc e2
        cases rx; cases ry
        obtain ⟨its, r, pl, z⟩ := I.list (SqL.of hv)
        obtain ⟨its2, r2, pl2, z2⟩ := I.list (SqL.of hw)
        have hsz : (its.toArray.size != its2.toArray.size) = true := by
          have l1 := rl.length
          have l2 := rl2.length
          have l3 := r.length
          have l4 := r2.length
          simp only [List.size_toArray, bne_iff_ne, ne_eq]
          omega
        exact ⟨SeqAt.eq_list_lengthsAt pl.isList pl2.isList hsz (by omega) q, SeqAt.RcNeAt.lists_lengths pl.isList pl2.isList hsz (by omega) _ _ _ _ q'⟩
      · cases c
    · cases c
  · split at e
    · rename_i p p' e1 e2
      split at e
      · rename_i c
        obtain ⟨c1, c2, c3⟩ := c
        obtain ⟨as, q1⟩ := Dp.reads I _ x v (pyH_dp rh e1 r1) rx
        obtain ⟨bs, q2⟩ := Dp.reads I _ y u (pyH_dp rh e2 r2) ry
        have room : X.A.units + min p.depth p'.depth < cLine := by
          have : min p.depth p'.depth ≤ p.depth := Nat.min_le_left _ _
          omega
        have e3 : PyData.eqv p p' = b := Option.some.inj e
        exact ⟨SeqAt.compareEq_reads q1 q2 c1 c2 room (by rw [e3]; exact q), SeqAt.compareNe_reads q1 q2 c1 c2 room (by rw [e3]; exact q')⟩
      · cases e
    · cases e
theorem o_eq (hu : X.A.units + 195 < cLine) : OpR X (compareOp .Eq) (rV X.K eqF) := by
  intro pns s σ H x y v u Q I rx ry h
  obtain ⟨m, hs, dx, dy, r1, r2, rh, o⟩ := h
  unfold eqF at o
  cases e : eqB dx dy hs with
  | none => rw [e] at o; exact o.elim
  | some b =>
    rw [e] at o
    exact (eq_core (E := X.xe) (Q' := fun _ _ => True) hu I rx ry r1 r2 rh e ⟨.bl b, H, I, rfl, o _ m H (.refl _ _) (by unfold RepV; rfl) rh⟩ trivial).1
theorem o_ne (hu : X.A.units + 195 < cLine) : OpR X (compareOp .NotEq) (rV X.K neF) := by
  intro pns s σ H x y v u Q I rx ry h
  obtain ⟨m, hs, dx, dy, r1, r2, rh, o⟩ := h
  unfold neF at o
  cases e : eqB dx dy hs with
  | none => rw [e] at o; exact o.elim
  | some b =>
    rw [e] at o
    exact (eq_core (E := X.xe) (Q := fun _ _ => True) hu I rx ry r1 r2 rh e trivial ⟨.bl (!b), H, I, rfl, o _ m H (.refl _ _) (by unfold RepV; rfl) rh⟩).2
end
open Classical in
theorem eqB_of {d e : D} {h : Hs} (a : pyOk d = true) (b : pyOk e = true) (z : depD d ≤ 190) : eqB d e h = some (decide (d = e)) := by
  have n : lenNe d e h = false := by
    unfold lenNe
    split
    · unfold pyOk at a; cases a
    · rfl
  have e1 : pyH h d = some (toPy d) := pyW_of _ a
  have e2 : pyH h e = some (toPy e) := pyW_of _ b
  unfold eqB
  rw [n, if_neg Bool.false_ne_true, e1, e2]
  simp only
  rw [if_pos ⟨canLay_of a, canLay_of b, by rw [dep_toPy]; exact z⟩, decide_iff (eqv_iff a b)]
open Classical in
theorem eqB_lst {i j : Nat} {xs ys : List D} {h : Hs} (ei : h[i]? = some (.lst xs)) (ej : h[j]? = some (.lst ys)) (a : pyOkL xs = true) (b : pyOkL ys = true) (z : depL xs ≤ 189) : eqB (.loc i) (.loc j) h = some (decide (xs = ys)) := by
  unfold eqB lenNe
  simp only [ei, ej]
  split
  · rename_i c
    have c := of_decide_eq_true c
    rw [decide_eq_false fun e => c (by rw [e])]
  · have e1 : pyH h (.loc i) = some (.list (toPyL xs)) := by
      unfold pyH pyW pyLoc
      simp only [ei, pyWL_of _ a]; rfl
    have e2 : pyH h (.loc j) = some (.list (toPyL ys)) := by
      unfold pyH pyW pyLoc
      simp only [ej, pyWL_of _ b]; rfl
    rw [e1, e2]
    simp only
    have d1 : (PyData.list (toPyL xs)).depth = depL xs + 1 := by
      show PyData.depthAll (toPyL xs) + 1 = _
      rw [dep_toPyL]
    rw [if_pos ⟨canLay_ofL a, canLay_ofL b, by rw [d1]; omega⟩]
    congr 1
    show PyData.eqvAll (toPyL xs) (toPyL ys) = _
    rw [decide_iff (eqv_iffL a b)]
    congr
theorem eqB_len {i j : Nat} {xs ys : List D} {h : Hs} (ei : h[i]? = some (.lst xs)) (ej : h[j]? = some (.lst ys)) (c : xs.length ≠ ys.length) : eqB (.loc i) (.loc j) h = some false := by
  unfold eqB lenNe
  simp only [ei, ej]
  rw [if_pos (decide_eq_true c)]
end DV
namespace DV
open PySem PySem.Spec PyProof.Rows L2
section
variable {K : PySem.W.Frag} {m : List Addr} {H : Hp}
theorem RepL.at_ {ds : List D} {vs : List V} {i : Int} {d : D} (r : RepL K m H ds vs) (e : atI ds i = some d) : ∃ v, atI vs i = some v ∧ RepV K m H d v := by
  unfold atI at e ⊢
  rw [r.length]
  cases q : ixN ds.length i with
  | none => rw [q] at e; cases e
  | some j =>
    rw [q] at e
    obtain ⟨v, hv, rv⟩ := r.get e
    exact ⟨v, hv, rv⟩
end
def valD {κ : Type} [DecidableEq κ] (kvs : List (κ × D)) (k : κ) : Option D := (kvs.find? fun p => decide (p.1 = k)).map (·.2)
def putD {κ : Type} [DecidableEq κ] (kvs : List (κ × D)) (k : κ) (v : D) : List (κ × D) := if (kvs.any fun p => decide (p.1 = k)) = true then kvs.map (fun p => if p.1 = k then (p.1, v) else p) else kvs ++ [(k, v)]
theorem kV_keyD {K : PySem.W.Frag} {m : List Addr} {H : Hp} {d : D} {v : V} {k : Key} (r : RepV K m H d v) (e : keyD d = some k) : v = kV k := by
  cases d with
  | int i => cases e; unfold RepV at r; exact r
  | str i => cases e; unfold RepV at r; exact r
  | _ => cases e
def keysD : List D → Option (List Key)
  | [] => some []
  | d :: ds => (keyD d).bind fun k => (keysD ds).map fun ks => k :: ks
theorem kV_keysD {K : PySem.W.Frag} {m : List Addr} {H : Hp} : ∀ {ds : List D} {vs : List V} {ks : List Key}, RepL K m H ds vs → keysD ds = some ks → vs = ks.map kV
  | [], vs, ks, r, e => by cases e; unfold RepL at r; exact r
  | d :: ds, vs, ks, r, e => by
    unfold RepL at r
    obtain ⟨x, xs, rfl, h1, h2⟩ := r
    unfold keysD at e
    cases q : keyD d with
    | none => rw [q] at e; cases e
    | some k =>
      cases q2 : keysD ds with
      | none => rw [q, q2] at e; cases e
      | some ks2 =>
        rw [q, q2] at e
        cases e
        rw [kV_keyD h1 q, kV_keysD h2 q2]
        rfl
section
variable {κ : Type} [DecidableEq κ] {K : PySem.W.Frag} {m : List Addr} {H : Hp}
theorem valD_rep (k : κ) : ∀ {kvs : List (κ × D)} {ks : List (κ × V)}, kvs.map (·.1) = ks.map (·.1) → RepL K m H (kvs.map (·.2)) (ks.map (·.2)) →
    (valD kvs k = none ∧ valV ks k = none) ∨ ∃ d v, valD kvs k = some d ∧ valV ks k = some v ∧ RepV K m H d v
  | [], [], _, _ => .inl ⟨rfl, rfl⟩
  | [], _ :: _, e, _ => by cases e
  | _ :: _, [], e, _ => by cases e
  | (k1, d) :: kvs, (k2, v) :: ks, e, r => by
    simp only [List.map_cons, List.cons.injEq] at e
    obtain ⟨e1, e2⟩ := e
    subst e1
    simp only [List.map_cons] at r
    unfold RepL at r
    obtain ⟨x, xs, q, h1, h2⟩ := r
    injection q with q1 q2
    subst q1 q2
    by_cases c : k1 = k
    · subst c
      exact .inr ⟨d, v, by simp [valD], by simp [valV], h1⟩
    · rcases valD_rep k e2 h2 with ⟨a, b⟩ | ⟨d', v', a, b, w⟩
      · exact .inl ⟨by unfold valD at a ⊢; rw [List.find?_cons]; simp [c]; simpa using a, by unfold valV at b ⊢; rw [List.find?_cons]; simp [c]; simpa using b⟩
      · exact .inr ⟨d', v', by unfold valD at a ⊢; rw [List.find?_cons]; simpa [c] using a, by unfold valV at b ⊢; rw [List.find?_cons]; simpa [c] using b, w⟩
theorem any_rep (k : κ) : ∀ {kvs : List (κ × D)} {ks : List (κ × V)}, kvs.map (·.1) = ks.map (·.1) → (kvs.any fun p => decide (p.1 = k)) = ks.any fun p => decide (p.1 = k)
  | [], [], _ => rfl
  | [], _ :: _, e => by cases e
  | _ :: _, [], e => by cases e
  | (k1, d) :: kvs, (k2, v) :: ks, e => by
    simp only [List.map_cons, List.cons.injEq] at e
    obtain ⟨e1, e2⟩ := e
    subst e1
    rw [List.any_cons, List.any_cons, any_rep k e2]
theorem over_rep (k : κ) {d : D} {v : V} (rv : RepV K m H d v) : ∀ {kvs : List (κ × D)} {ks : List (κ × V)}, kvs.map (·.1) = ks.map (·.1) → RepL K m H (kvs.map (·.2)) (ks.map (·.2)) →
    (kvs.map (fun p => if p.1 = k then (p.1, d) else p)).map (·.1) = (ks.map (fun p => if p.1 = k then (p.1, v) else p)).map (·.1) ∧ RepL K m H ((kvs.map (fun p => if p.1 = k then (p.1, d) else p)).map (·.2)) ((ks.map (fun p => if p.1 = k then (p.1, v) else p)).map (·.2))
  | [], [], _, _ => ⟨rfl, RepL.nil⟩
  | [], _ :: _, e, _ => by cases e
  | _ :: _, [], e, _ => by cases e
  | (k1, d1) :: kvs, (k2, v1) :: ks, e, r => by
    simp only [List.map_cons, List.cons.injEq] at e
    obtain ⟨e1, e2⟩ := e
    subst e1
    simp only [List.map_cons] at r
    unfold RepL at r
    obtain ⟨x, xs, q, h1, h2⟩ := r
    injection q with q1 q2
    subst q1 q2
    obtain ⟨a, b⟩ := over_rep k rv e2 h2
    by_cases c : k1 = k
    · simp only [List.map_cons, c, if_true]
      exact ⟨by rw [a], .cons rv b⟩
    · simp only [List.map_cons, c, if_false]
      exact ⟨by rw [a], .cons h1 b⟩
theorem put_rep (k : κ) {d : D} {v : V} (rv : RepV K m H d v) {kvs : List (κ × D)} {ks : List (κ × V)} (e : kvs.map (·.1) = ks.map (·.1)) (r : RepL K m H (kvs.map (·.2)) (ks.map (·.2))) :
    (putD kvs k d).map (·.1) = (putK ks k v).map (·.1) ∧ RepL K m H ((putD kvs k d).map (·.2)) ((putK ks k v).map (·.2)) := by
  unfold putD putK
  rw [any_rep k e]
  split
  · exact over_rep k rv e r
  · refine ⟨by rw [List.map_append, List.map_append, e]; rfl, ?_⟩
    rw [List.map_append, List.map_append]
    exact r.append (.cons rv .nil)
end
theorem map_len {α β γ δ : Type} {f : α → γ} {g : β → γ} {xs : List α} {ys : List β} (e : xs.map f = ys.map g) : xs.length = ys.length := by
  have := congrArg List.length e
  simpa using this
def ixF : VF2
  | .loc l, k, h => match h[l]? with
    | some (.lst ds) => (match k with
      | .int i => (atI ds i).map fun d => (d, h)
      | _ => none)
    | some (.dct kvs) => (keyD k).bind fun k => (valD kvs k).map fun d => (d, h)
    | some (.fdc kvs) => (keyD k).bind fun k => (valD kvs k).map fun d => (d, h)
    | some (.dcT kvs) => (match k with
      | .tup ks => (keysD ks).bind fun k => (valD kvs k).map fun d => (d, h)
      | _ => none)
    | _ => none
  | .ro ns, .int i, h => (atI ns i).map fun n => (.int n, h)
  | .tup ds, .int i, h => (atI ds i).map fun d => (d, h)
  | .str z, .int i, h => if z.length ≤ LIM then (atI z.cps.toList i).map fun c => (.str ⟨#[c]⟩, h) else none
  | _, _, _ => none
theorem atI_map {α β : Type} (f : α → β) (xs : List α) (i : Int) : atI (xs.map f) i = (atI xs i).map f := by
  unfold atI
  rw [List.length_map]
  cases ixN xs.length i with
  | none => rfl
  | some j => simp
section
variable {X : Cx}
theorem o_ix (hu : X.A.units + 1 < cLine) : IxR X (rV X.K ixF) := by
  intro value slice pns s σ H x y v u Q I rx ry h hsl
  obtain ⟨m, hs, dx, dy, r1, r2, rh, o⟩ := h
  unfold ixF at o
  split at o
  · unfold RepV at r1
    obtain ⟨a, ha, rfl⟩ := r1
    have got : ∀ {d : D} {w : V}, OutV X.K m H Q (some (d, hs)) → RepV X.K m H d w → DGet H a y (some w) → wpAny (model X.prog X.w) X.A (subscriptTail value slice v u) (EP X pns σ Q) X.xe s := fun o' rw' g => by
      cases rx
      exact tail_any (dict_typeIs I g) PySem.F.slot_dict_getitem.lookup (d_getItem hu I g ry fun w2 s2 I2 r2' => ⟨_, H, I2, r2', OutV.keep o' rw' rh⟩) hsl
    split at o
    · rename_i ds e1
      obtain ⟨vs, hv, rl⟩ := rh.lst ha e1
      split at o
      · unfold RepV at r2
        subst r2
        cases q : atI ds _ with
        | none => rw [q] at o; exact o.elim
        | some d =>
          rw [q] at o
          obtain ⟨w, hw, rw'⟩ := rl.at_ q
          exact ix_list value slice pns s σ H _ _ v u Q I rx ry ⟨a, vs, _, w, rfl, rfl, SqL.of hv, hw, OutV.keep o rw' rh⟩ hsl
      · exact o.elim
    · rename_i kvs e1
      obtain ⟨ks, hk, kk, rk⟩ := rh.at_ _ a _ ha e1
      cases q : keyD dy with
      | none => rw [q] at o; exact o.elim
      | some k =>
        rw [q, Option.bind_some] at o
        have ey := kV_keyD r2 q
        subst ey
        rcases valD_rep k kk rk with ⟨z, _⟩ | ⟨d, w, z, z2, rw'⟩
        · rw [z] at o; exact o.elim
        · rw [z] at o
          refine got o rw' ?_
          rw [← z2]
          exact DGet.k hk
    · rename_i kvs e1
      obtain ⟨ob, ks, hk, kk, rk⟩ := rh.at_ _ a _ ha e1
      cases q : keyD dy with
      | none => rw [q] at o; exact o.elim
      | some k =>
        rw [q, Option.bind_some] at o
        have ey := kV_keyD r2 q
        subst ey
        rcases valD_rep k kk rk with ⟨z, _⟩ | ⟨d, w, z, z2, rw'⟩
        · rw [z] at o; exact o.elim
        · rw [z] at o
          refine got o rw' ?_
          rw [← z2]
          exact .inl ⟨ks, k, .inr ⟨ob, hk⟩, rfl, rfl⟩
    · rename_i kvs e1
      obtain ⟨ks, hk, kk, rk⟩ := rh.at_ _ a _ ha e1
      split at o
      · rename_i kd
        cases q : keysD kd with
        | none => rw [q] at o; exact o.elim
        | some k =>
          rw [q, Option.bind_some] at o
          unfold RepV at r2
          obtain ⟨b, xs, rfl, hb, rl⟩ := r2
          have ey := kV_keysD rl q
          subst ey
          rcases valD_rep k kk rk with ⟨z, _⟩ | ⟨d, w, z, z2, rw'⟩
          · rw [z] at o; exact o.elim
          · rw [z] at o
            refine got o rw' ?_
            rw [← z2]
            exact DGet.t hk hb
      · exact o.elim
    · exact o.elim
  · unfold RepV at r1 r2
    obtain ⟨a, rfl, ha⟩ := r1
    subst r2
    rename_i ns i
    cases q : atI ns i with
    | none => rw [q] at o; exact o.elim
    | some n =>
      rw [q] at o
      exact ix_list value slice pns s σ H _ _ v u Q I rx ry ⟨a, _, i, .int n, rfl, rfl, ha.sq, by rw [atI_map, q]; rfl, OutV.keep o (by unfold RepV; rfl) rh⟩ hsl
  · unfold RepV at r1 r2
    obtain ⟨a, vs, rfl, ha, rl⟩ := r1
    subst r2
    rename_i ds i
    cases q : atI ds i with
    | none => rw [q] at o; exact o.elim
    | some d =>
      rw [q] at o
      obtain ⟨w, hw, rw'⟩ := rl.at_ q
      exact ix_tup value slice pns s σ H _ _ v u Q I rx ry ⟨a, vs, _, w, rfl, rfl, SqT.of ha, hw, OutV.keep o rw' rh⟩ hsl
  · unfold RepV at r1 r2
    subst r1 r2
    rename_i z i
    split at o
    · rename_i hz
      cases q : atI z.cps.toList i with
      | none => rw [q] at o; exact o.elim
      | some c =>
        rw [q] at o
        exact ix_str value slice pns s σ H _ _ v u Q I rx ry ⟨z, i, c, rfl, rfl, by rw [LIM_eq]; exact hz, q, OutV.keep o (by unfold RepV; rfl) rh⟩ hsl
    · exact o.elim
  · exact o.elim
end
abbrev OM := Sl → Hs → R (Option Int)
def noP : OM := fun _ h => .ok none h
def someP (A : EM) : OM := fun ds h => (A ds h).bind fun d h => match d with
  | .int i => .ok (some i) h
  | _ => .bad
def cutL {α : Type} (xs : List α) (lo hi : Option Int) : List α := (xs.drop (HT.sIx xs.length 0 lo)).take (HT.sIx xs.length xs.length hi - HT.sIx xs.length 0 lo)
def slF (d : D) (lo hi : Option Int) (h : Hs) : Res := match d with
  | .loc l => match h[l]? with
    | some (.lst ds) => some (.loc h.length, h ++ [.lst (cutL ds lo hi)])
    | _ => none
  | .ro ns => some (.loc h.length, h ++ [.lst ((cutL ns lo hi).map D.int)])
  | .tup ds => some (.tup (cutL ds lo hi), h)
  | .str z => if z.length ≤ LIM then some (.str (cutS z lo hi), h) else none
  | _ => none
def slM (A : EM) (lo hi : OM) : EM := fun ds h => (A ds h).bind fun d h => (lo ds h).bind fun l h => (hi ds h).bind fun u h => .ofO (slF d l u h)
def OutP (g : Cfg) (m : List Addr) (H : Hp) (σ : St) (Q : Option Int → Hp → Prop) : R (Option Int) → Prop
  | .ok o h' => ∀ m' H', Grow m H m' H' → RepH g.K m' H' h' → Q o H'
  | .exc c h' => ∀ m' H', Grow m H m' H' → RepH g.K m' H' h' → g.W (.ref (He.ga g.K c)) none σ H'
  | .bad => False
def tP (g : Cfg) (M : OM) : TO := fun σ H Q => ∃ m ds h, RepS g.K m H ds σ ∧ RepH g.K m H h ∧ OutP g m H σ Q (M ds h)
theorem OutP.toE {g : Cfg} {m : List Addr} {H : Hp} {σ : St} {Q : VK} {Q' : Option Int → Hp → Prop} {r : R (Option Int)} {k : Option Int → Hs → R D} (o : OutE g m H σ Q (r.bind k))
    (f : ∀ b h' m' H', Grow m H m' H' → RepH g.K m' H' h' → OutE g m' H' σ Q (k b h') → Q' b H') : OutP g m H σ Q' r := by
  cases r with
  | ok d h => exact fun m' H' w rh => f d h m' H' w rh (OutE.mono o w)
  | exc c h => exact o
  | bad => exact o
theorem PO.weak {X : Cx} {e : Option Expr} {t t' : TO} (p : PO X e t) (w : ∀ σ H Q, t' σ H Q → t σ H Q) : PO X e t' := ⟨fun pns s σ H Q I h => p.run pns s σ H Q I (w σ H Q h)⟩
section
variable {X : Cx} {g : Cfg} {e : Expr} {lo hi : Option Expr} {A : EM} {L U : OM} {pos p2 : Pos}
theorem pm_no : PO X none (tP g noP) := PO.weak po_none fun σ H Q ⟨m, ds, h, hs, rh, o⟩ => o m H (.refl _ _) rh
theorem pm_some (ha : PE X e (tM g A)) : PO X (some e) (tP g (someP A)) := by
  refine PO.weak (po_some ha) fun σ H Q ⟨m, ds, h, hs, rh, o⟩ => ⟨m, ds, h, hs, rh, ?_⟩
  unfold someP at o
  cases q : A ds h with
  | ok d h1 =>
    rw [q, R.bind_ok] at o
    intro v m1 H1 g1 r1 rh1
    cases d with
    | int i => unfold RepV at r1; exact ⟨i, r1, o m1 H1 g1 rh1⟩
    | _ => exact (show False from o).elim
  | exc c h1 => rw [q] at o; exact o
  | bad => rw [q] at o; exact o
theorem cutL_map {α β : Type} (f : α → β) (xs : List α) (lo hi : Option Int) : cutL (xs.map f) lo hi = (cutL xs lo hi).map f := by
  unfold cutL
  rw [List.length_map, List.map_take, List.map_drop]
theorem RepL.cut {K : PySem.W.Frag} {m : List Addr} {H : Hp} {ds : List D} {vs : List V} (r : RepL K m H ds vs) (lo hi : Option Int) : RepL K m H (cutL ds lo hi) (cutV vs lo hi) := by
  unfold cutL cutV
  rw [r.length]
  exact (r.drop _).take _
theorem em_slice (hK : X.K = g.K) (ha : PE X e (tM g A)) (hl : PO X lo (tP g L)) (hu : PO X hi (tP g U)) : PE X (.Subscript e (.Slice lo hi none p2) pos) (tM g (slM A L U)) := by
  have hr : SlR X (fun x lo hi H Q => (rSlL X.K x lo hi H Q ∨ rSlA X.K x lo hi H Q) ∨ rSlS x lo hi H Q) := (sl_list.or sl_tupA).or sl_str
  refine PE.weak (pe_slice hr ha hl hu) fun σ H Q ⟨m, ds, h, hs, rh, o⟩ => ⟨m, ds, h, hs, rh, OutE.toE o fun d h1 v m1 H1 g1 r1 rh1 o1 => ?_⟩
  refine ⟨m1, ds, h1, hs.mono g1, rh1, OutP.toE o1 fun l h2 m2 H2 g2 rh2 o2 => ?_⟩
  refine ⟨m2, ds, h2, (hs.mono g1).mono g2, rh2, OutP.toE o2 fun u h3 m3 H3 g3 rh3 o3 => ?_⟩
  have r3 := r1.mono (g2.trans g3)
  have o3 : OutV g.K m3 H3 Q (slF d l u h3) := .of o3
  rw [hK]
  unfold slF at o3
  split at o3
  · unfold RepV at r3
    obtain ⟨a, hq, rfl⟩ := r3
    split at o3
    · rename_i xs e1
      obtain ⟨vs, hv, rl⟩ := rh3.lst hq e1
      exact .inl (.inl ⟨a, vs, rfl, SqL.of hv, fun p hp => new_lst' (rl.cut _ _) rh3 hp o3⟩)
    · exact o3.elim
  · unfold RepV at r3
    obtain ⟨a, rfl, hq⟩ := r3
    rename_i ns _
    refine .inl (.inl ⟨a, _, rfl, hq.sq, fun p hp => new_lst' ?_ rh3 hp o3⟩)
    have := (repL_ints (K := g.K) (m := m3) (H := H3) ns).cut l u
    rwa [cutL_map] at this
  · unfold RepV at r3
    obtain ⟨a, vs, rfl, hq, rl⟩ := r3
    rename_i xs _
    refine .inl (.inr ⟨a, vs, rfl, SqT.of hq, fun hw => ?_, fun _ p hp => ?_⟩)
    · have e : cutL xs l u = xs := by
        have hl := rl.length
        rw [hl] at hw
        unfold cutL
        rw [hw.1, hw.2, List.drop_zero, Nat.sub_zero, List.take_length]
      rw [e] at o3
      exact o3 _ m3 H3 (.refl _ _) (by unfold RepV; exact ⟨a, vs, rfl, hq, rl⟩) rh3
    · exact o3 _ m3 _ (.put hp) (by unfold RepV; exact ⟨p, _, rfl, upd_same, (rl.cut _ _).mono (.put hp)⟩) (rh3.put hp)
  · unfold RepV at r3
    subst r3
    split at o3
    · rename_i hz
      exact .inr ⟨_, rfl, by rw [LIM_eq]; exact hz, OutV.keep o3 (by unfold RepV; rfl) rh3⟩
    · exact o3.elim
  · exact o3.elim
end
def lenF : List D → Hs → Res
  | [.loc l], h => match h[l]? with
    | some (.lst ds) => some (.int ds.length, h)
    | some (.dct kvs) => some (.int kvs.length, h)
    | some (.fdc kvs) => some (.int kvs.length, h)
    | _ => none
  | [.ro ns], h => some (.int ns.length, h)
  | [.tup ds], h => some (.int ds.length, h)
  | [.str z], h => if z.length ≤ LIM then some (.int z.length, h) else none
  | _, _ => none
def intT : List D → Hs → Res
  | [.int i], h => some (.int i, h)
  | [.bl b], h => some (.int (if b then 1 else 0), h)
  | _, _ => none
def strT : List D → Hs → Res
  | [.int i], h => if i.natAbs.log2 < 1920 then some (.str (toString i), h) else none
  | _, _ => none
def tupT : List D → Hs → Res
  | [.loc l], h => match h[l]? with
    | some (.lst ds) => some (.tup ds, h)
    | _ => none
  | [.tup ds], h => some (.tup ds, h)
  | _, _ => none
def intsOf : List D → Option (List Int)
  | [] => some []
  | .int i :: r => (intsOf r).map fun ns => i :: ns
  | _ => none
@[simp] theorem intsOf_map (ns : List Int) : intsOf (ns.map D.int) = some ns := by
  induction ns with
  | nil => rfl
  | cons n ns ih => rw [List.map_cons]; unfold intsOf; rw [ih]; rfl
def maxI (x : Int) (xs : List Int) : Int := xs.foldl (fun a y => if a < y then y else a) x
def max2F : List D → Hs → Res
  | [.int i, .int j], h => some (.int (if j > i then j else i), h)
  | _, _ => none
def min2F : List D → Hs → Res
  | [.int i, .int j], h => some (.int (if j < i then j else i), h)
  | _, _ => none
section
variable {X : Cx}
theorem c_len : CallR X (.builtin "len") (rC X.K lenF) := by
  intro pns s σ H vs us Q I rl h
  obtain ⟨m, hs, ds, r, rh, o⟩ := h
  unfold lenF at o
  split at o
  · obtain ⟨x, rfl, r1⟩ := repL1 r
    unfold RepV at r1
    obtain ⟨a, ha, rfl⟩ := r1
    split at o
    · rename_i xs e1
      obtain ⟨vs, hv, rl2⟩ := rh.lst ha e1
      exact call_len pns s σ H _ us Q I rl ⟨_, _, rfl, .inl ⟨vs, SqL.of hv, rl2.length.symm⟩, OutV.keep o (by unfold RepV; rfl) rh⟩
    · rename_i kvs e1
      obtain ⟨ks, hk, kk, rk⟩ := rh.at_ _ a _ ha e1
      obtain ⟨u, rfl, ru⟩ := vals1 rl
      cases ru
      refine d_len I (.inl hk) fun t s' I' => ⟨.int ks.length, H, I', ⟨t, rfl⟩, ?_⟩
      have e : ks.length = kvs.length := by have := congrArg List.length kk; simpa using this.symm
      rw [e]
      exact OutV.keep o (by unfold RepV; rfl) rh
    · rename_i kvs e1
      obtain ⟨ob, ks, hk, kk, rk⟩ := rh.at_ _ a _ ha e1
      obtain ⟨u, rfl, ru⟩ := vals1 rl
      cases ru
      refine d_len I (.inr ⟨ob, hk⟩) fun t s' I' => ⟨.int ks.length, H, I', ⟨t, rfl⟩, ?_⟩
      have e : ks.length = kvs.length := by have := congrArg List.length kk; simpa using this.symm
      rw [e]
      exact OutV.keep o (by unfold RepV; rfl) rh
    · exact o.elim
  · obtain ⟨x, rfl, r1⟩ := repL1 r
    unfold RepV at r1
    obtain ⟨a, rfl, ha⟩ := r1
    exact call_len pns s σ H _ us Q I rl ⟨_, _, rfl, .inl ⟨_, ha.sq, (List.length_map _).symm⟩, OutV.keep o (by unfold RepV; rfl) rh⟩
  · obtain ⟨x, rfl, r1⟩ := repL1 r
    unfold RepV at r1
    obtain ⟨a, xs, rfl, ha, rl2⟩ := r1
    exact call_len pns s σ H _ us Q I rl ⟨_, _, rfl, .inr ⟨xs, SqT.of ha, rl2.length.symm⟩, OutV.keep o (by unfold RepV; rfl) rh⟩
  · obtain ⟨x, rfl, r1⟩ := repL1 r
    unfold RepV at r1
    subst r1
    split at o
    · rename_i hz
      exact call_len pns s σ H _ us Q I rl ⟨_, _, rfl, ⟨by rw [LIM_eq]; exact hz, rfl⟩, OutV.keep o (by unfold RepV; rfl) rh⟩
    · exact o.elim
  · exact o.elim
theorem c_int : CallR X (.type "int") (rC X.K intT) := by
  intro pns s σ H vs us Q I rl h
  obtain ⟨m, hs, ds, r, rh, o⟩ := h
  unfold intT at o
  split at o
  · obtain ⟨x, rfl, r1⟩ := repL1 r
    unfold RepV at r1; subst r1
    exact call_int1 pns s σ H _ us Q I rl (.inl ⟨_, rfl, OutV.keep o (by unfold RepV; rfl) rh⟩)
  · obtain ⟨x, rfl, r1⟩ := repL1 r
    unfold RepV at r1; subst r1
    exact call_int1 pns s σ H _ us Q I rl (.inr ⟨_, rfl, OutV.keep o (by unfold RepV; rfl) rh⟩)
  · exact o.elim
theorem c_str : CallR X (.type "str") (rC X.K strT) := by
  intro pns s σ H vs us Q I rl h
  obtain ⟨m, hs, ds, r, rh, o⟩ := h
  unfold strT at o
  split at o
  · obtain ⟨x, rfl, r1⟩ := repL1 r
    unfold RepV at r1; subst r1
    split at o
    · rename_i hz
      exact call_str_int pns s σ H _ us Q I rl ⟨_, rfl, hz, OutV.keep o (by unfold RepV; rfl) rh⟩
    · exact o.elim
  · exact o.elim
theorem c_tuple : CallR X (.type "tuple") (rC X.K tupT) := by
  intro pns s σ H vs us Q I rl h
  obtain ⟨m, hs, ds, r, rh, o⟩ := h
  unfold tupT at o
  split at o
  · obtain ⟨x, rfl, r1⟩ := repL1 r
    unfold RepV at r1
    obtain ⟨a, ha, rfl⟩ := r1
    split at o
    · rename_i xs e1
      obtain ⟨vs, hv, rl2⟩ := rh.lst ha e1
      refine call_tuple_of pns s σ H _ us Q I rl ⟨a, vs, rfl, .inl ⟨SqL.of hv, fun p hp => ?_⟩⟩
      exact o _ m _ (.put hp) (by unfold RepV; exact ⟨p, _, rfl, upd_same, rl2.mono (.put hp)⟩) (rh.put hp)
    · exact o.elim
  · obtain ⟨x, rfl, r1⟩ := repL1 r
    have r0 := r1
    unfold RepV at r1
    obtain ⟨a, xs, rfl, ha, rl2⟩ := r1
    exact call_tuple_of pns s σ H _ us Q I rl ⟨a, xs, rfl, .inr ⟨SqT.of ha, OutV.keep o r0 rh⟩⟩
  · exact o.elim
theorem c_max2 (hc : X.calm = true) : CallR X (.builtin "max") (rC X.K max2F) := by
  intro pns s σ H vs us Q I rl h
  obtain ⟨m, hs, ds, r, rh, o⟩ := h
  unfold max2F at o
  split at o
  · obtain ⟨x, y, rfl, r1, r2⟩ := repL2 r
    unfold RepV at r1 r2; subst r1 r2
    exact call_max2 hc pns s σ H _ us Q I rl ⟨_, _, rfl, OutV.keep o (by unfold RepV; rfl) rh⟩
  · exact o.elim
theorem c_min2 (hc : X.calm = true) : CallR X (.builtin "min") (rC X.K min2F) := by
  intro pns s σ H vs us Q I rl h
  obtain ⟨m, hs, ds, r, rh, o⟩ := h
  unfold min2F at o
  split at o
  · obtain ⟨x, y, rfl, r1, r2⟩ := repL2 r
    unfold RepV at r1 r2; subst r1 r2
    exact call_min2 hc pns s σ H _ us Q I rl ⟨_, _, rfl, OutV.keep o (by unfold RepV; rfl) rh⟩
  · exact o.elim
end
def tyD : D → Hs → Option String
  | .non, _ => some "NoneType"
  | .bl _, _ => some "bool"
  | .int _, _ => some "int"
  | .str _, _ => some "str"
  | .tup _, _ => some "tuple"
  | .ro _, _ => some "list"
  | .exn _, _ => none
  | .loc l, h => match h[l]? with
    | some (.lst _) => some "list"
    | some (.dct _) => some "dict"
    | some (.fdc _) => some "dict"
    | _ => none
def isB (t T : String) : Bool := t == T || (t == "bool" && T == "int")
def isF (T : String) (d : D) (h : Hs) : Res := (tyD d h).map fun t => (.bl (isB t T), h)
theorem kitB_ok {t T : String} (ht : t ∈ ["NoneType", "bool", "int", "str", "tuple", "list", "dict"]) (hT : T ∈ ["bool", "int", "str", "tuple", "list", "dict"]) : kitB t T = some (isB t T) := by
  simp only [List.mem_cons, List.not_mem_nil, or_false] at ht hT
  rcases ht with rfl | rfl | rfl | rfl | rfl | rfl | rfl <;> rcases hT with rfl | rfl | rfl | rfl | rfl | rfl <;> decide +kernel
theorem tyD_mem {d : D} {h : Hs} {t : String} (e : tyD d h = some t) : t ∈ ["NoneType", "bool", "int", "str", "tuple", "list", "dict"] := by
  unfold tyD at e
  split at e
  all_goals first
    | (cases e; simp; done)
    | (cases e; done)
    | (split at e <;> first | (cases e; simp; done) | cases e)
theorem tyX_of {X : Cx} {m : List Addr} {H : Hp} {h : Hs} {d : D} {v : V} {t : String} (r : RepV X.K m H d v) (rh : RepH X.K m H h) (e : tyD d h = some t) : TyX X.K H v (.type t) := by
  unfold tyD at e
  split at e
  · cases e; unfold RepV at r; subst r; exact .base .non
  · cases e; unfold RepV at r; subst r; exact .base (.bl _)
  · cases e; unfold RepV at r; subst r; exact .base (.int _)
  · cases e; unfold RepV at r; subst r; exact .base (.str _)
  · cases e; unfold RepV at r; obtain ⟨a, xs, rfl, ha, _⟩ := r; exact .base (.tup ha)
  · cases e
    unfold RepV at r
    obtain ⟨a, rfl, ha⟩ := r
    rcases ha with ⟨o, ha⟩ | ⟨o, its, n, hk, hc, _⟩
    · exact .base (.frz ha)
    · exact .kList hk hc
  · cases e
  · unfold RepV at r
    obtain ⟨a, ha, rfl⟩ := r
    split at e
    · rename_i e1
      cases e
      obtain ⟨vs, hv, _⟩ := rh.lst ha e1
      exact .base (.lst hv)
    · rename_i e1
      cases e
      obtain ⟨ks, hk, _⟩ := rh.at_ _ a _ ha e1
      exact .base (.dK hk)
    · rename_i e1
      cases e
      obtain ⟨ob, ks, hk, _⟩ := rh.at_ _ a _ ha e1
      exact .fDict hk
    · cases e
theorem em_isi {X : Cx} {g : Cfg} {e : Expr} {A : EM} {T : String} {Tn : Str} {p p2 pos : Pos} (hK : X.K = g.K) (hT : T ∈ ["bool", "int", "str", "tuple", "list", "dict"]) (hg : Gl X "isinstance") (hm : X.mg "isinstance" = none) (hgT : Gl X Tn) (hmT : X.mg Tn = none) (hv : bootBuiltins Tn = some (.type T))
    (ha : PE X e (tM g A)) (hn : Tn ≠ "__name__" := by decide) (hd : (Tn == ("__debug__" : Str)) = false := by decide)
    (he : starEach [e, .Name Tn p2] X.env = (false, eval e X.env) :: starEach [.Name Tn p2] X.env := by rfl) (hpl : (backTo pos (starEach [.Name Tn p2] X.env)).any (·.1) = false := by rfl) : PE X (.Call (.Name "isinstance" p) [e, .Name Tn p2] [] pos) (tM g (unM (isF T) A)) := by
  refine PE.weak (pe_callB call_isi hg hm (by decide +kernel) (pa_cons ha (pa_cons (pe_bltn (v := .ty T) hgT hmT hv rfl hn hd) pa_nil) he) (by decide) (by decide) he hpl) fun σ H Q ⟨m, ds, h, hs, rh, o⟩ => ⟨m, ds, h, hs, rh, OutE.toE o fun d h1 v m1 H1 g1 r1 rh1 o1 => ?_⟩
  unfold isF at o1
  cases q : tyD d h1 with
  | none => rw [q] at o1; exact o1.elim
  | some t =>
    rw [q] at o1
    have ty : TyX X.K H1 v (.type t) := tyX_of (X := X) (by rw [hK]; exact r1) (by rw [hK]; exact rh1) q
    exact ⟨v, .ty T, .type t, .type T, isB t T, rfl, .ty T, ty, kit_ty (kitB_ok (tyD_mem q) hT), o1 _ m1 H1 (.refl _ _) (by unfold RepV; rfl) rh1⟩
end DV
namespace DV
open PySem PySem.Spec PyProof.Rows L2
noncomputable def rng3 : List D → Option (List D)
  | [.int i, .int j, .int k] => if k = -1 ∧ inR i = true ∧ inR j = true then some ((List.range (i - j).toNat).map fun (t : Nat) => .int (i - (t : Int))) else none
  | _ => none
/-- the receiver is of that type when it has been read -/
def mtMc (ck : D → Hs → Bool) (F : D → List D → Hs → Res) (O : EM) (As : AM) : EM := fun ds h => (O ds h).bind fun d h => if ck d h = true then (As ds h).bind fun xs h => .ofO (F d xs h) else .bad
def ckList : D → Hs → Bool
  | .loc l, h => match h[l]? with
    | some (.lst _) => true
    | _ => false
  | .ro _, _ => true
  | _, _ => false
def ckStr : D → Hs → Bool
  | .str _, _ => true
  | _, _ => false
theorem ckList_ty {K : PySem.W.Frag} {m : List Addr} {H : Hp} {h : Hs} {d : D} {v : V} (r : RepV K m H d v) (rh : RepH K m H h) (c : ckList d h = true) : tyV K "list" v H := by
  unfold ckList at c
  split at c
  · unfold RepV at r
    obtain ⟨a, ha, rfl⟩ := r
    split at c
    · rename_i e
      obtain ⟨vs, hv, _⟩ := rh.lst ha e
      exact .inl ⟨rfl, vs, SqL.of hv⟩
    · cases c
  · unfold RepV at r
    obtain ⟨a, rfl, ha⟩ := r
    exact .inl ⟨rfl, _, ha.sq⟩
  · cases c
theorem ckStr_ty {K : PySem.W.Frag} {m : List Addr} {H : Hp} {h : Hs} {d : D} {v : V} (r : RepV K m H d v) (c : ckStr d h = true) : tyV K "str" v H := by
  unfold ckStr at c
  split at c
  · unfold RepV at r; subst r; rfl
  · cases c
/-- a method's rule by values -/
def rMt (K : PySem.W.Frag) (F : D → List D → Hs → Res) : V → List V → Hp → VK → Prop := fun x vs H Q => ∃ m h d ds, RepV K m H d x ∧ RepL K m H ds vs ∧ RepH K m H h ∧ OutV K m H Q (F d ds h)
section
variable {X : Cx} {g : Cfg} {o e : Expr} {es : List Expr} {O : EM} {As : AM} {name : Str} {apos cpos : Pos} {T id : String} {F : D → List D → Hs → Res} {ck : D → Hs → Bool}
theorem em_bm (hK : X.K = g.K) (pa : PlainAttrs T) (slot : Slot T name id) (hty : typeOf (.builtin id) = pure (.type "method_descriptor")) (hm : MtR X id (rMt g.K F))
    (hck : ∀ m H h d v, RepV g.K m H d v → RepH g.K m H h → ck d h = true → tyV g.K T v H) (ho : PE X o (tM g O)) (ha : PA X (e :: es) (tA g As))
    (hbase : attributeBase o name X.env (eval o X.env) = eval o X.env := by rfl)
    (hfew : ((backTo cpos (starEach (e :: es) X.env)).all (fun x => !x.1) && (backToKw cpos (keywordEach [] X.env)).all (fun x => x.1.isSome)
      && decide ((e :: es).length + ([] : List Keyword).length + (if ([] : List Keyword).isEmpty then 0 else 1) < 30)) = true := by rfl)
    (hline : (apos.endLine == cpos.line) = true := by rfl) (hs : starEach (e :: es) X.env = (false, eval e X.env) :: starEach es X.env := by rfl) (hplain : (backTo cpos (starEach es X.env)).any (·.1) = false := by rfl) :
    PE X (.Call (.Attribute o name apos) (e :: es) [] cpos) (tM g (mtMc ck F O As)) := by
  refine PE.weak (pe_bm pa slot hty hm ho ha hbase hfew hline hs hplain) fun σ H Q ⟨m, ds, h, hs, rh, o⟩ => ⟨m, ds, h, hs, rh, OutE.toE o fun d h1 v m1 H1 g1 r1 rh1 o1 => ?_⟩
  by_cases c : ck d h1 = true
  · rw [if_pos c] at o1
    refine ⟨by rw [hK]; exact hck m1 H1 h1 d v r1 rh1 c, m1, ds, h1, hs.mono g1, rh1, OutA.toE o1 fun xs h2 vs m2 H2 g2 rl rh2 o2 => ?_⟩
    exact ⟨m2, h2, d, xs, r1.mono g2, rl, rh2, .of o2⟩
  · rw [if_neg c] at o1; exact o1.elim
theorem em_bm0 (hK : X.K = g.K) (pa : PlainAttrs T) (slot : Slot T name id) (hty : typeOf (.builtin id) = pure (.type "method_descriptor")) (hm : MtR X id (rMt g.K F))
    (hck : ∀ m H h d v, RepV g.K m H d v → RepH g.K m H h → ck d h = true → tyV g.K T v H) (ho : PE X o (tM g O))
    (hbase : attributeBase o name X.env (eval o X.env) = eval o X.env := by rfl) (hline : (apos.endLine == cpos.line) = true := by rfl) :
    PE X (.Call (.Attribute o name apos) [] [] cpos) (tM g (mtMc ck F O nilA)) := by
  refine PE.weak (pe_bm0 pa slot hty hm ho hbase hline) fun σ H Q ⟨m, ds, h, hs, rh, o⟩ => ⟨m, ds, h, hs, rh, OutE.toE o fun d h1 v m1 H1 g1 r1 rh1 o1 => ?_⟩
  by_cases c : ck d h1 = true
  · rw [if_pos c] at o1
    exact ⟨by rw [hK]; exact hck m1 H1 h1 d v r1 rh1 c, m1, h1, d, [], r1, .nil, rh1, .of o1⟩
  · rw [if_neg c] at o1; exact o1.elim
end
def appendF : D → List D → Hs → Res
  | .loc l, [d], h => match h[l]? with
    | some (.lst ds) => if ds.length < LIM then some (.non, h.set l (.lst (ds ++ [d]))) else none
    | _ => none
  | _, _, _ => none
def popF : D → List D → Hs → Res
  | .loc l, [], h => match h[l]? with
    | some (.lst ds) => (ds[ds.length - 1]?).map fun d => (d, h.set l (.lst ds.dropLast))
    | _ => none
  | _, _, _ => none
theorem RepL.dropLast {K : PySem.W.Frag} {m : List Addr} {H : Hp} {ds : List D} {vs : List V} (r : RepL K m H ds vs) : RepL K m H ds.dropLast vs.dropLast := by
  rw [List.dropLast_eq_take, List.dropLast_eq_take, r.length]
  exact r.take _
/-- a list written -/
theorem write_lst {K : PySem.W.Frag} {m : List Addr} {H : Hp} {h : Hs} {l : Nat} {a : Addr} {xs ys : List V} {ds : List D} {Q : VK} {d : D} {v : V} (rh : RepH K m H h) (ha : m[l]? = some a) (hv : H a = some (.lst xs)) (rl : RepL K m H ds ys) (rv : RepV K m H d v)
    (o : OutV K m H Q (some (d, h.set l (.lst ds)))) : Q v (upd H a (.lst ys)) :=
  have w : Grow m H m (upd H a (.lst ys)) := .write hv (fun _ z => nomatch z) (fun _ _ z => nomatch z) (fun _ z => nomatch z)
  o v m _ w (rv.mono w) (rh.write ha hv (fun _ z => nomatch z) (fun _ _ z => nomatch z) (fun _ z => nomatch z) ⟨ys, upd_same, rl.mono w⟩)
section
variable {X : Cx}
theorem k_append : MtR X "list.append" (rMt X.K appendF) := by
  intro pns s σ H x vs v us Q I rx rv h
  obtain ⟨m, hs, d, ds, r1, rl, rh, o⟩ := h
  unfold appendF at o
  split at o
  · unfold RepV at r1
    obtain ⟨a, ha, rfl⟩ := r1
    obtain ⟨y, rfl, r2⟩ := repL1 rl
    split at o
    · rename_i xs e
      obtain ⟨ws, hw, rl2⟩ := rh.lst ha e
      split at o
      · rename_i hz
        exact mt_append pns s σ H _ _ v us Q I rx rv ⟨a, ws, y, rfl, rfl, hw, by rw [LIM_eq, rl2.length]; exact hz, write_lst rh ha hw (rl2.append (.cons r2 .nil)) (by unfold RepV; rfl) o⟩
      · exact o.elim
    · exact o.elim
  · exact o.elim
theorem k_pop : MtR X "list.pop" (rMt X.K popF) := by
  intro pns s σ H x vs v us Q I rx rv h
  obtain ⟨m, hs, d, ds, r1, rl, rh, o⟩ := h
  unfold popF at o
  split at o
  · unfold RepV at r1
    obtain ⟨a, ha, rfl⟩ := r1
    unfold RepL at rl
    subst rl
    split at o
    · rename_i xs e
      obtain ⟨ws, hw, rl2⟩ := rh.lst ha e
      cases q : xs[xs.length - 1]? with
      | none => rw [q] at o; exact o.elim
      | some d =>
        rw [q] at o
        obtain ⟨y, hy, ry⟩ := rl2.get q
        exact mt_pop pns s σ H _ _ v us Q I rx rv ⟨a, ws, y, rfl, rfl, hw, by rw [rl2.length]; exact hy, write_lst rh ha hw rl2.dropLast ry o⟩
    · exact o.elim
  · exact o.elim
end
def setIxM (F : D → D → D → Hs → Option Hs) (V O I : EM) : SM := fun ds h => lift (V ds h) ds fun v h => lift (O ds h) ds fun o h => lift (I ds h) ds fun i h => match F o i v h with
  | some h' => .nx ds h'
  | none => .bad
def setLF : D → D → D → Hs → Option Hs
  | .loc l, .int i, v, h => match h[l]? with
    | some (.lst ds) => (ixN ds.length i).map fun j => h.set l (.lst (ds.set j v))
    | _ => none
  | _, _, _, _ => none
def OutN (K : PySem.W.Frag) (m : List Addr) (H : Hp) (Q : Hp → Prop) : Option Hs → Prop
  | some h' => ∀ m' H', Grow m H m' H' → RepH K m' H' h' → Q H'
  | none => False
def rSt (K : PySem.W.Frag) (F : D → D → D → Hs → Option Hs) : TSet := fun o i v H Q => ∃ m h od id vd, RepV K m H od o ∧ RepV K m H id i ∧ RepV K m H vd v ∧ RepH K m H h ∧ OutN K m H Q (F od id vd h)
section
variable {X : Cx} {g : Cfg} {o i e : Expr} {V O I : EM} {pos tpos : Pos} {F : D → D → D → Hs → Option Hs}
theorem sm_setIx (hset : PSet X (rSt g.K F)) (he : PE X e (tM g V)) (ho : PE X o (tM g O)) (hi : PE X i (tM g I))
    (ha : ∀ v, assign (.Subscript o i tpos) X.env v = (do
      let ov ← holding [v] (eval o X.env)
      let iv ← holding [v, ov] (eval i X.env)
      standAt tpos
      holding [v, ov, iv] (setItem ov iv v)
      release [v, ov, iv] []) := by intro _; rfl)
    (hs : swapsWithSole [.Subscript o i tpos] e pos.line X.env = pure false := by rfl) (hw : swappedStores [.Subscript o i tpos] e X.env = pure none := by rfl)
    (h1 : (assignEach [.Subscript o i tpos] X.env).map (·.2) = [assign (.Subscript o i tpos) X.env] := by rfl) : PS X (.Assign [.Subscript o i tpos] e pos) (tS g (setIxM F V O I)) := by
  refine PS.weak (ps_asg he (pg_sub ho hi hset ha) hs hw h1) fun N σ H ⟨m, ds, h, hs, rh, o⟩ => ⟨m, ds, h, hs, rh, OutE.toS hs o fun d1 h1 v1 m1 H1 g1 r1 rh1 o1 => ?_⟩
  refine ⟨m1, ds, h1, hs.mono g1, rh1, OutE.toS (hs.mono g1) o1 fun d2 h2 v2 m2 H2 g2 r2 rh2 o2 => ?_⟩
  refine ⟨m2, ds, h2, (hs.mono g1).mono g2, rh2, OutE.toS ((hs.mono g1).mono g2) o2 fun d3 h3 v3 m3 H3 g3 r3 rh3 o3 => ?_⟩
  refine ⟨m3, h3, d2, d3, d1, r2.mono g3, r3, (r1.mono g2).mono g3, rh3, ?_⟩
  cases q : F d2 d3 d1 h3 with
  | none => rw [q] at o3; exact o3.elim
  | some h4 => rw [q] at o3; exact fun m4 H4 g4 rh4 => o3 σ m4 H4 g4 (((hs.mono g1).mono g2).mono (g3.trans g4)) rh4
theorem s_list : PSet X (rSt X.K setLF) := by
  intro pns s σ H o i v ov iv u Q I ro ri rv h
  obtain ⟨m, hs, od, id, vd, r1, r2, r3, rh, q⟩ := h
  unfold setLF at q
  split at q
  · unfold RepV at r1 r2
    obtain ⟨a, ha, rfl⟩ := r1
    subst r2
    split at q
    · rename_i xs e
      obtain ⟨ws, hw, rl2⟩ := rh.lst ha e
      cases c : ixN xs.length _ with
      | none => rw [c] at q; exact q.elim
      | some j =>
        rw [c] at q
        refine set_list pns s σ H _ _ _ ov iv u Q I ro ri rv ⟨a, ws, _, j, rfl, rfl, hw, by rw [rl2.length]; exact c, ?_⟩
        have w : Grow m H m (upd H a (.lst (ws.set j v))) := .write hw (fun _ z => nomatch z) (fun _ _ z => nomatch z) (fun _ z => nomatch z)
        exact q m _ w (rh.write ha hw (fun _ z => nomatch z) (fun _ _ z => nomatch z) (fun _ z => nomatch z) ⟨_, upd_same, (rl2.set j r3).mono w⟩)
    · exact q.elim
  · exact q.elim
end
def maxdR (d e : D) (h : Hs) : R D := match d, e with
  | .loc l, .int k => match h[l]? with
    | some (.lst xs) => match intsOf xs with
      | some [] => .ok (.int k) h
      | some (n :: ns) => .ok (.int (maxI n ns)) h
      | none => .bad
    | _ => .bad
  | _, _ => .bad
def maxdF (A B : EM) : EM := fun ds h => (A ds h).bind fun d h => (B ds h).bind fun e h => maxdR d e h
end DV
namespace DV
open PySem PySem.Spec PyProof.Rows L2
structure Blt (mg : Str → Option Value) : Prop where
  z_len : mg "len" = none
  z_range : mg "range" = none
  z_int : mg "int" = none
  z_str : mg "str" = none
  z_sum : mg "sum" = none
  z_max : mg "max" = none
  z_min : mg "min" = none
  z_enumerate : mg "enumerate" = none
  z_isinstance : mg "isinstance" = none
  z_tuple : mg "tuple" = none
  z_list : mg "list" = none
  z_dict : mg "dict" = none
  z_sorted : mg "sorted" = none
  z_abs : mg "abs" = none
  z_all : mg "all" = none
  z_set : mg "set" = none
  z_bool : mg "bool" = none
theorem hu1 {k : Nat} {A : Around} (hr : Room k A) : A.units + 1 < cLine := hu_of hr
theorem hu195 {k : Nat} {A : Around} (hr : Room k A) : A.units + 195 < cLine := by have := hr.un; omega
def flatD : D → Bool
  | .non => true
  | .bl _ => true
  | .int _ => true
  | .str _ => true
  | _ => false
def toV : D → V
  | .non => .non
  | .bl b => .bl b
  | .int i => .int i
  | .str s => .str s
  | _ => .non
theorem flat_toV {K : PySem.W.Frag} {m : List Addr} {H : Hp} {d : D} {v : V} (r : RepV K m H d v) (f : flatD d = true) : v = toV d ∧ flatV v = true := by
  cases d with
  | non => unfold RepV at r; subst r; exact ⟨rfl, rfl⟩
  | bl b => unfold RepV at r; subst r; exact ⟨rfl, rfl⟩
  | int b => unfold RepV at r; subst r; exact ⟨rfl, rfl⟩
  | str b => unfold RepV at r; subst r; exact ⟨rfl, rfl⟩
  | tup _ => cases f
  | loc _ => cases f
  | ro _ => cases f
  | exn _ => cases f
theorem flat_toVL {K : PySem.W.Frag} {m : List Addr} {H : Hp} : ∀ {ds : List D} {vs : List V}, RepL K m H ds vs → ds.all flatD = true → vs = ds.map toV ∧ vs.all flatV = true
  | [], vs, r, _ => by unfold RepL at r; subst r; exact ⟨rfl, rfl⟩
  | d :: ds, vs, r, f => by
    unfold RepL at r
    obtain ⟨x, xs, rfl, h1, h2⟩ := r
    rw [List.all_cons, Bool.and_eq_true] at f
    obtain ⟨e1, e2⟩ := flat_toV h1 f.1
    obtain ⟨e3, e4⟩ := flat_toVL h2 f.2
    exact ⟨by rw [e1, e3]; rfl, by rw [List.all_cons, e2, e4]; rfl⟩
def inFlat (x : D) (ds : List D) : Bool := ds.any fun d => eqV (toV d) (toV x)
theorem inV_map (x : D) (ds : List D) : inV (toV x) (ds.map toV) = inFlat x ds := by
  unfold inV inFlat
  rw [List.any_map]; rfl
/-- x in y -/
def inB : D → D → Hs → Option Bool
  | .str i, .str j, _ => match i.cps.toList with
    | [c] => some (decide (c ∈ j.cps.toList))
    | _ => none
  | x, .loc l, h => match h[l]? with
    | some (.lst ds) => if flatD x && ds.all flatD then some (inFlat x ds) else none
    | some (.dct kvs) => (keyD x).map fun k => (valD kvs k).isSome
    | some (.fdc kvs) => (keyD x).map fun k => (valD kvs k).isSome
    | _ => none
  | x, .tup ds, _ => if flatD x && ds.all flatD then some (inFlat x ds) else none
  | _, _, _ => none
def inF : VF2 := fun x y h => (inB x y h).map fun b => (.bl b, h)
def ninF : VF2 := fun x y h => (inB x y h).map fun b => (.bl (!b), h)
section
variable {X : Cx} {K : PySem.W.Frag}
theorem in_core (hu : X.A.units + 1 < cLine) {pns : List (Addr × Obj)} {s : Shared} {σ : St} {H : Hp} {x y : V} {v u : Value} {m : List Addr} {hs : Hs} {dx dy : D} {b : Bool} (I : Inv X pns σ H s) (rx : RelV x v) (ry : RelV y u) (r1 : RepV X.K m H dx x) (r2 : RepV X.K m H dy y)
    (rh : RepH X.K m H hs) (e : inB dx dy hs = some b) {Q : VK} :
    (Q (.bl b) H → wpAny (model X.prog X.w) X.A (compareOp .In v u) (EP X pns σ Q) X.xe s) ∧ (Q (.bl (!b)) H → wpAny (model X.prog X.w) X.A (compareOp .NotIn v u) (EP X pns σ Q) X.xe s) := by
  unfold inB at e
  split at e
  · rename_i i j
    unfold RepV at r1 r2
    subst r1 r2
    split at e
    · rename_i c hc
      cases e
      have hi : i = ⟨#[c]⟩ := by
        cases i with
        | mk a => congr; exact Array.toList_inj.mp (by simpa using hc)
      subst hi
      exact ⟨fun q => op_in_sign pns s σ H _ _ v u Q I rx ry ⟨c, j, rfl, rfl, q⟩, fun q => op_notIn_sign pns s σ H _ _ v u Q I rx ry ⟨c, j, rfl, rfl, q⟩⟩
    · cases e
  · rename_i l
    unfold RepV at r2
    obtain ⟨a, ha, rfl⟩ := r2
    split at e
    · rename_i ds e1
      obtain ⟨vs, hv, rl⟩ := rh.lst ha e1
      split at e
      · rename_i c
        cases e
        obtain ⟨c1, c2⟩ := Bool.and_eq_true_iff.mp c
        obtain ⟨q1, q2⟩ := flat_toV r1 c1
        obtain ⟨q3, q4⟩ := flat_toVL rl c2
        have ei : inV x vs = inFlat dx ds := by rw [q1, q3, inV_map]
        exact ⟨fun q => op_in_seq pns s σ H _ _ v u Q I rx ry ⟨a, vs, rfl, .inl (SqL.of hv), q2, q4, by rw [if_neg Bool.false_ne_true, ei]; exact q⟩, fun q => op_notIn_seq pns s σ H _ _ v u Q I rx ry ⟨a, vs, rfl, .inl (SqL.of hv), q2, q4, by rw [if_pos rfl, ei]; exact q⟩⟩
      · cases e
    · rename_i kvs e1
      obtain ⟨ks, hk, kk, rk⟩ := rh.at_ _ a _ ha e1
      cases q : keyD dx with
      | none => rw [q] at e; cases e
      | some k =>
        rw [q] at e
        cases e
        have hx := kV_keyD r1 q
        subst hx
        have es : (valV ks k).isSome = (valD kvs k).isSome := by
          rcases valD_rep k kk rk with ⟨a, b⟩ | ⟨d, v, a, b, _⟩ <;> rw [a, b] <;> rfl
        have g : DGet H a (kV k) (valV ks k) := DGet.k hk
        cases ry
        exact ⟨fun q => d_in hu I g rx fun s' I' => ⟨.bl (valV ks k).isSome, H, I', rfl, by rw [es]; exact q⟩, fun q => d_notIn hu I g rx fun s' I' => ⟨.bl (!(valV ks k).isSome), H, I', rfl, by rw [es]; exact q⟩⟩
    · rename_i kvs e1
      obtain ⟨ob, ks, hk, kk, rk⟩ := rh.at_ _ a _ ha e1
      cases q : keyD dx with
      | none => rw [q] at e; cases e
      | some k =>
        rw [q] at e
        cases e
        have hx := kV_keyD r1 q
        subst hx
        have es : (valV ks k).isSome = (valD kvs k).isSome := by
          rcases valD_rep k kk rk with ⟨a, b⟩ | ⟨d, v, a, b, _⟩ <;> rw [a, b] <;> rfl
        have g : DGet H a (kV k) (valV ks k) := .inl ⟨ks, k, .inr ⟨ob, hk⟩, rfl, rfl⟩
        cases ry
        exact ⟨fun q => d_in hu I g rx fun s' I' => ⟨.bl (valV ks k).isSome, H, I', rfl, by rw [es]; exact q⟩, fun q => d_notIn hu I g rx fun s' I' => ⟨.bl (!(valV ks k).isSome), H, I', rfl, by rw [es]; exact q⟩⟩
    · cases e
  · rename_i ds
    unfold RepV at r2
    obtain ⟨a, vs, rfl, ha, rl⟩ := r2
    split at e
    · rename_i c
      cases e
      obtain ⟨c1, c2⟩ := Bool.and_eq_true_iff.mp c
      obtain ⟨q1, q2⟩ := flat_toV r1 c1
      obtain ⟨q3, q4⟩ := flat_toVL rl c2
      have ei : inV x vs = inFlat dx ds := by rw [q1, q3, inV_map]
      exact ⟨fun q => op_in_seq pns s σ H _ _ v u Q I rx ry ⟨a, vs, rfl, .inr (SqT.of ha), q2, q4, by rw [if_neg Bool.false_ne_true, ei]; exact q⟩, fun q => op_notIn_seq pns s σ H _ _ v u Q I rx ry ⟨a, vs, rfl, .inr (SqT.of ha), q2, q4, by rw [if_pos rfl, ei]; exact q⟩⟩
    · cases e
  · cases e
theorem o_in (hu : X.A.units + 195 < cLine) : OpR X (compareOp .In) (rV X.K inF) := by
  intro pns s σ H x y v u Q I rx ry h
  obtain ⟨m, hs, dx, dy, r1, r2, rh, o⟩ := h
  unfold inF at o
  cases e : inB dx dy hs with
  | none => rw [e] at o; exact o.elim
  | some b =>
    rw [e] at o
    exact (in_core (by omega) I rx ry r1 r2 rh e).1 (o _ m H (.refl _ _) (by unfold RepV; rfl) rh)
theorem o_nin (hu : X.A.units + 195 < cLine) : OpR X (compareOp .NotIn) (rV X.K ninF) := by
  intro pns s σ H x y v u Q I rx ry h
  obtain ⟨m, hs, dx, dy, r1, r2, rh, o⟩ := h
  unfold ninF at o
  cases e : inB dx dy hs with
  | none => rw [e] at o; exact o.elim
  | some b =>
    rw [e] at o
    exact (in_core (by omega) I rx ry r1 r2 rh e).2 (o _ m H (.refl _ _) (by unfold RepV; rfl) rh)
end
end DV
namespace DV
open PySem PySem.Spec PyProof.Rows L2
/-- no exception leaves where none is let -/
theorem cx_none {P : Program} {w : World} {H : Hp} {s : Shared} {e : Value} {s' : Shared} (c : L2.CX P w [] H s (fun _ _ _ => False) e s') : False := by
  obtain ⟨_, _, _, _, _, _, _, _, _, _, _, _, z⟩ := c
  exact z
theorem spM_ro {K : PySem.W.Frag} {φ : Fm} {H : Hp} {a : Addr} {ns : List Int} {h' : Hs} (hO : Only H) (hS : SqL K H a (ns.map V.int)) (e : φ [.ro ns] [] = .ok (.bl true) h') : spM K 1 φ [.ref a] H (fun v _ => v = .bl true) (fun _ _ _ => False) := by
  have hq : SqR K H a (ns.map V.int) := by
    rcases hS with h | h
    · rcases h with h | ⟨o, h⟩
      · rcases hO a with z | ⟨o, xs, z⟩
        · rw [z] at h; cases h
        · rw [z] at h; cases h
      · exact .inl ⟨o, h⟩
    · exact .inr h
  refine ⟨rfl, [], [.ro ns], [], .cons (by unfold RepV; exact ⟨a, rfl, hq⟩) .nil, ⟨rfl, List.nodup_nil, fun i b o hi => by simp at hi⟩, ?_⟩
  rw [e]
  intro v m' H' _ rv _
  unfold RepV at rv
  exact rv
theorem law_end {l : PySem.W.OpenLaw} {k : Nat} {q : Program} {loose : List Str} {XP : (Str → Option Value) → Heap → Prop} {YP : World → Heap → Prop} {d : DefRec} {φ : Fm}
    (hn : l.most = some 63) (hdf : d.params.defaults = []) (hr : Room k callerA) (hφ : ∀ ns : List Int, ns.length ≤ 63 → ∃ h', φ [.ro ns] [] = .ok (.bl true) h')
    (G : ∀ (w : World) (mg : Str → Option Value) (fa : Addr) (h : Heap), YP w h → h.Ns mainGlobals mg → mg d.name = some (.ref fa) →
      ∃ (K : PySem.W.Frag) (fd : FuncData), K.In h ∧ (∀ (s : Shared) (u : Value), BindsTo s fd ⟨[u], []⟩ [("script", u)]) ∧
        ∀ base : Heap, K.In base → base.Ns mainGlobals mg → FnOk l.prog w K mg base (L2.CX l.prog w) k fa fd ["script"] (spM K 1 φ)) :
    PySem.W.WalkO q loose XP YP l.row.toRowW d [] (fun f vs => PySem.call f vs) := by
  refine Att.attach_call hn hdf fun w sA sB mg mb fa o pm cd doc a vs ns T Y ho hd hcd hmg hobj hints hlen hg => ?_
  obtain ⟨K, fd, KX, hb, hF⟩ := G w mg fa _ Y T.T.g hmg
  refine law_call KX T.T.g T.T.b T.T.builtins T.T.nolimit hg hobj hints (Nat.le_trans hlen (by rw [sizeLine_eq]; decide)) hr hF hb (fun H hO hS => ?_) fun H e s' => cx_none
  obtain ⟨h', e⟩ := hφ ns hlen
  exact spM_ro hO hS e
def FUEL : Nat := 100000
theorem fnAt_by {P : Program} {w : World} {K : PySem.W.Frag} {mg : Str → Option Value} {base : Heap} {x qual : Str} {params : Arguments} {body : List Stmt} {scope : Scope} {f : Addr} {fd : FuncData} {ps : List Str} {k np nN : Nat} {M : SM} (kd : Nrm) (hp : ps.length = np)
    (F : FunD K x qual params body scope [] [] f fd) (hm : mg x = some (.ref f)) (hb : Binds K fd ps []) (G : FnOk P w K mg base (L2.CX P w) (k + 1) f fd ps (spM K np (kd.f (runM np nN M)))) : FnAt P w K mg base (k + 1) x ps (kd.f (runM np nN M)) := by
  subst hp
  exact ⟨⟨f, fd, hm, F.kp, hb, G⟩, kd.ar _ _ (runM_ar _ _ _)⟩
end DV
namespace DV
open PySem PySem.Spec PyProof.Rows L2
abbrev QX := Str → Hs → Prop
def R.wp {α : Type} (r : R α) (Q : α → Hs → Prop) (X : QX) : Prop := match r with
  | .ok a h => Q a h
  | .exc c h => X c h
  | .bad => False
def RS.wp (r : RS) (N : Sl → Hs → Prop) (Q : D → Hs → Prop) (X : QX) : Prop := match r with
  | .nx ds h => N ds h
  | .rt d h => Q d h
  | .exc c _ h => X c h
  | _ => False
def xF : QX := fun _ _ => False
@[simp] theorem wp_ok {α : Type} (a : α) (h : Hs) (Q : α → Hs → Prop) (X : QX) : (R.ok a h).wp Q X = Q a h := rfl
@[simp] theorem wp_exc {α : Type} (c : Str) (h : Hs) (Q : α → Hs → Prop) (X : QX) : (R.exc c h : R α).wp Q X = X c h := rfl
@[simp] theorem wp_bad {α : Type} (Q : α → Hs → Prop) (X : QX) : (R.bad : R α).wp Q X = False := rfl
@[simp] theorem wp_bind {α β : Type} (r : R α) (k : α → Hs → R β) (Q : β → Hs → Prop) (X : QX) : (r.bind k).wp Q X = r.wp (fun a h => (k a h).wp Q X) X := by cases r <;> rfl
@[simp] theorem ws_lift {α : Type} (r : R α) (ds : Sl) (k : α → Hs → RS) (N : Sl → Hs → Prop) (Q : D → Hs → Prop) (X : QX) : (lift r ds k).wp N Q X = r.wp (fun a h => (k a h).wp N Q X) X := by cases r <;> rfl
theorem R.wp_mono {α : Type} {r : R α} {Q Q' : α → Hs → Prop} {X X' : QX} (w : r.wp Q X) (f : ∀ a h, Q a h → Q' a h) (g : ∀ c h, X c h → X' c h) : r.wp Q' X' := by
  cases r with
  | ok a h => exact f a h w
  | exc c h => exact g c h w
  | bad => exact w
theorem RS.wp_mono {r : RS} {N N' : Sl → Hs → Prop} {Q Q' : D → Hs → Prop} {X X' : QX} (w : r.wp N Q X) (e : ∀ ds h, N ds h → N' ds h) (f : ∀ a h, Q a h → Q' a h) (g : ∀ c h, X c h → X' c h) : r.wp N' Q' X' := by
  cases r with
  | nx ds h => exact e ds h w
  | rt a h => exact f a h w
  | exc c ds h => exact g c h w
  | bk _ _ => exact w
  | ct _ _ => exact w
  | bad => exact w
/-- a told end -/
theorem R.wp_eq {α : Type} {r : R α} {a : α} {h : Hs} : r.wp (fun a' h' => a' = a ∧ h' = h) xF ↔ r = .ok a h := by
  cases r with
  | ok a' h' => exact ⟨fun ⟨e1, e2⟩ => by rw [e1, e2], fun e => by cases e; exact ⟨rfl, rfl⟩⟩
  | exc c h => exact ⟨fun e => e.elim, fun e => nomatch e⟩
  | bad => exact ⟨fun e => e.elim, fun e => nomatch e⟩
theorem R.wp_ex {α : Type} {r : R α} {Q : α → Hs → Prop} (w : r.wp Q xF) : ∃ a h, r = .ok a h ∧ Q a h := by
  cases r with
  | ok a h => exact ⟨a, h, rfl, w⟩
  | exc c h => exact w.elim
  | bad => exact w.elim
section
variable {N : Sl → Hs → Prop} {Q : D → Hs → Prop} {X : QX} {ds : Sl} {h : Hs}
@[simp] theorem wp_c (d : D) : (cM d ds h).wp Q X = Q d h := rfl
theorem wp_v (i : Nat) : (vM i ds h).wp Q X = (match ds[i]? with | some (some d) => Q d h | _ => False) := by
  unfold vM
  rcases ds[i]? with _ | _ | d <;> rfl
@[simp] theorem wp_ofO (o : Res) : (R.ofO o).wp Q X = (match o with | some p => Q p.1 p.2 | none => False) := by cases o <;> rfl
@[simp] theorem wp_bin (F : VF2) (A B : EM) : (binM F A B ds h).wp Q X = (A ds h).wp (fun x h => (B ds h).wp (fun y h => (R.ofO (F x y h)).wp Q X) X) X := by simp only [binM, wp_bind]
@[simp] theorem wp_un (F : D → Hs → Res) (A : EM) : (unM F A ds h).wp Q X = (A ds h).wp (fun x h => (R.ofO (F x h)).wp Q X) X := by simp only [unM, wp_bind]
@[simp] theorem wp_nilA {P : List D → Hs → Prop} : (nilA ds h).wp P X = P [] h := rfl
@[simp] theorem wp_consA {P : List D → Hs → Prop} (A : EM) (B : AM) : (consA A B ds h).wp P X = (A ds h).wp (fun x h => (B ds h).wp (fun xs h => P (x :: xs) h) X) X := by simp only [consA, wp_bind, wp_ok]
@[simp] theorem wp_arg (F : List D → Hs → Res) (A : AM) : (argM F A ds h).wp Q X = (A ds h).wp (fun xs h => (R.ofO (F xs h)).wp Q X) X := by simp only [argM, wp_bind]
@[simp] theorem wp_call (φ : Fm) (A : AM) : (callM φ A ds h).wp Q X = (A ds h).wp (fun xs h => (φ xs h).wp Q X) X := by simp only [callM, wp_bind]
@[simp] theorem wp_mt (ck : D → Hs → Bool) (F : D → List D → Hs → Res) (O : EM) (A : AM) : (mtMc ck F O A ds h).wp Q X = (O ds h).wp (fun d h => ck d h = true ∧ (A ds h).wp (fun xs h => (R.ofO (F d xs h)).wp Q X) X) X := by
  simp only [mtMc, wp_bind]
  congr 1
  funext d h
  by_cases c : ck d h = true
  · simp [c]
  · simp [c]
@[simp] theorem wp_ifE (T : TM) (A B : EM) : (ifE T A B ds h).wp Q X = (T ds h).wp (fun b h => if b = true then (A ds h).wp Q X else (B ds h).wp Q X) X := by
  simp only [ifE, wp_bind]
  congr 1
  funext b h
  split <;> rfl
@[simp] theorem wp_sl (A : EM) (lo hi : OM) : (slM A lo hi ds h).wp Q X = (A ds h).wp (fun d h => (lo ds h).wp (fun l h => (hi ds h).wp (fun u h => (R.ofO (slF d l u h)).wp Q X) X) X) X := by simp only [slM, wp_bind]
@[simp] theorem wp_noP {P : Option Int → Hs → Prop} : (noP ds h).wp P X = P none h := rfl
@[simp] theorem wp_someP {P : Option Int → Hs → Prop} (A : EM) : (someP A ds h).wp P X = (A ds h).wp (fun d h => match d with | .int i => P (some i) h | _ => False) X := by
  simp only [someP, wp_bind]
  congr 1
  funext d h
  cases d <;> rfl
def isBl (d : D) (P : Bool → Prop) : Prop := match d with
  | .bl b => P b
  | _ => False
@[simp] theorem isBl_bl (b : Bool) (P : Bool → Prop) : isBl (.bl b) P = P b := rfl
@[simp] theorem wp_tb {P : Bool → Hs → Prop} (A : EM) : (tbM A ds h).wp P X = (A ds h).wp (fun d h => isBl d fun b => P b h) X := by
  simp only [tbM, wp_bind]
  congr 1
  funext d h
  cases d <;> rfl
@[simp] theorem wp_tru {P : Bool → Hs → Prop} (A : EM) : (truM A ds h).wp P X = (A ds h).wp (fun d h => match truD d h with | some b => P b h | none => False) X := by
  simp only [truM, wp_bind]
  congr 1
  funext d h
  cases truD d h <;> rfl
@[simp] theorem wp_yes {P : Bool → Hs → Prop} : (yesM ds h).wp P X = P true h := rfl
@[simp] theorem wp_and {P : Bool → Hs → Prop} (A B : TM) : (andM A B ds h).wp P X = (A ds h).wp (fun b h => if b = true then (B ds h).wp P X else P false h) X := by
  simp only [andM, wp_bind]
  congr 1
  funext b h
  split <;> rfl
@[simp] theorem wp_or {P : Bool → Hs → Prop} (A B : TM) : (orM A B ds h).wp P X = (A ds h).wp (fun b h => if b = true then P true h else (B ds h).wp P X) X := by
  simp only [orM, wp_bind]
  congr 1
  funext b h
  split <;> rfl
@[simp] theorem wp_not {P : Bool → Hs → Prop} (A : TM) : (notM A ds h).wp P X = (A ds h).wp (fun b h => P (!b) h) X := by simp only [notM, wp_bind, wp_ok]
@[simp] theorem wp_andV (A B : EM) : (andV A B ds h).wp Q X = (A ds h).wp (fun d h => isBl d fun b => if b = true then (B ds h).wp Q X else Q (.bl false) h) X := by
  simp only [andV, wp_bind]
  congr 1
  funext d h
  cases d with
  | bl b => simp only [isBl]; split <;> rfl
  | _ => rfl
@[simp] theorem wp_orV (A B : EM) : (orV A B ds h).wp Q X = (A ds h).wp (fun d h => isBl d fun b => if b = true then Q (.bl true) h else (B ds h).wp Q X) X := by
  simp only [orV, wp_bind]
  congr 1
  funext d h
  cases d with
  | bl b => simp only [isBl]; split <;> rfl
  | _ => rfl
@[simp] theorem wp_notV (A : EM) : (notV A ds h).wp Q X = (A ds h).wp (fun d h => isBl d fun b => Q (.bl (!b)) h) X := by
  simp only [notV, wp_bind]
  congr 1
  funext d h
  cases d <;> rfl
@[simp] theorem wp_chain (F G : VF2) (A B C : EM) : (chainM F G A B C ds h).wp Q X = (A ds h).wp (fun x h => (B ds h).wp (fun y h => (R.ofO (F x y h)).wp (fun z h => isBl z fun b => if b = true then (C ds h).wp (fun w h => (R.ofO (G y w h)).wp Q X) X else Q (.bl false) h) X) X) X := by
  simp only [chainM, wp_bind]
  congr 1
  funext x h
  congr 1
  funext y h
  congr 1
  funext z h
  cases z with
  | bl b => simp only [isBl]; split <;> simp only [wp_bind, wp_ok]
  | _ => rfl
@[simp] theorem ws_pass : (passM ds h).wp N Q X = N ds h := rfl
@[simp] theorem ws_seq (A B : SM) : (seqM A B ds h).wp N Q X = (A ds h).wp (fun ds h => (B ds h).wp N Q X) Q X := by
  unfold seqM
  cases e : A ds h <;> rfl
@[simp] theorem ws_set (i : Nat) (A : EM) : (setM i A ds h).wp N Q X = (A ds h).wp (fun d h => N (ds.set i (some d)) h) X := by simp only [setM, ws_lift]; rfl
@[simp] theorem ws_expr (A : EM) : (exprM A ds h).wp N Q X = (A ds h).wp (fun _ h => N ds h) X := by simp only [exprM, ws_lift]; rfl
@[simp] theorem ws_ret (A : EM) : (retM A ds h).wp N Q X = (A ds h).wp Q X := by simp only [retM, ws_lift]; rfl
@[simp] theorem ws_retN : (retN ds h).wp N Q X = Q .non h := rfl
@[simp] theorem ws_raise (c : Str) : (raiseM c ds h).wp N Q X = X c h := rfl
@[simp] theorem ws_if (T : TM) (A B : SM) : (ifM T A B ds h).wp N Q X = (T ds h).wp (fun b h => if b = true then (A ds h).wp N Q X else (B ds h).wp N Q X) X := by
  simp only [ifM, ws_lift]
  congr 1
  funext b h
  split <;> rfl
@[simp] theorem ws_asg (A : EM) (T : GM) : (asgM A (okG T) ds h).wp N Q X = (A ds h).wp (fun d h => (T d ds h).wp N (fun _ _ => False) xF) X := by
  simp only [asgM, ws_lift]
  congr 1
  funext d h
  unfold okG
  cases T d ds h <;> rfl
@[simp] theorem ws_nameG (i : Nat) (d : D) {Qr : D → Hs → Prop} : (nameG i d ds h).wp N Qr X = N (ds.set i (some d)) h := rfl
@[simp] theorem ws_nilG {Qr : D → Hs → Prop} : (nilG [] ds h).wp N Qr X = N ds h := rfl
@[simp] theorem ws_consG (T : GM) (U : List D → Sl → Hs → RS) (d : D) (xs : List D) : (consG T U (d :: xs) ds h).wp N (fun _ _ => False) xF = (T d ds h).wp (fun ds h => (U xs ds h).wp N (fun _ _ => False) xF) (fun _ _ => False) xF := by
  show (match T d ds h with | .nx ds h => U xs ds h | _ => .bad).wp N (fun _ _ => False) xF = _
  cases T d ds h <;> rfl
@[simp] theorem ws_tupG (n : Nat) (U : List D → Sl → Hs → RS) (xs : List D) {Qr : D → Hs → Prop} : (tupG n U (.tup xs) ds h).wp N Qr X = (xs.length = n ∧ (U xs ds h).wp N Qr X) := by
  unfold tupG
  simp only
  split
  · rename_i c; simp [c]
  · rename_i c; simp only [c, false_and]; rfl
@[simp] theorem ws_setIx (F : D → D → D → Hs → Option Hs) (V O I : EM) : (setIxM F V O I ds h).wp N Q X = (V ds h).wp (fun v h => (O ds h).wp (fun o h => (I ds h).wp (fun i h => match F o i v h with | some h' => N ds h' | none => False) X) X) X := by
  simp only [setIxM, ws_lift]
  congr 1; funext v h
  congr 1; funext o h
  congr 1; funext i h
  cases F o i v h <;> rfl
/-- a loop with what holds ahead of each turn -/
theorem ws_loop {gd : Hs → Prop} {T : GM} {B : SM} (its : List D) (J : Nat → Sl → Hs → Prop) (start : J 0 ds h) (guard : ∀ i ds h, J i ds h → gd h)
    (turn : ∀ i d ds h, its[i]? = some d → J i ds h → (T d ds h).wp (fun ds h => (B ds h).wp (J (i + 1)) Q X) (fun _ _ => False) xF) (done : ∀ ds h, J its.length ds h → N ds h) : (loopM gd T B its ds h).wp N Q X := by
  have gen : ∀ (r : List D) (k : Nat) (ds : Sl) (h : Hs), its.drop k = r → k ≤ its.length → J k ds h → (loopM gd T B r ds h).wp N Q X := by
    intro r
    induction r with
    | nil =>
      intro k ds h e hk j
      have : k = its.length := by have := congrArg List.length e; simp at this; omega
      subst this
      unfold loopM
      rw [if_pos (guard _ _ _ j)]
      exact done ds h j
    | cons d r ih =>
      intro k ds h e hk j
      have hlt : k < its.length := by
        by_cases c : k < its.length
        · exact c
        · rw [List.drop_eq_nil_of_le (by omega)] at e; cases e
      rw [List.drop_eq_getElem_cons hlt] at e
      injection e with e1 e2
      have t := turn k d ds h (by rw [List.getElem?_eq_getElem hlt, e1]) j
      unfold loopM
      rw [if_pos (guard _ _ _ j)]
      cases q : T d ds h with
      | nx ds1 h1 =>
        rw [q] at t
        have t : (B ds1 h1).wp (J (k + 1)) Q X := t
        simp only
        cases q2 : B ds1 h1 with
        | nx ds2 h2 => rw [q2] at t; exact ih (k + 1) ds2 h2 e2 hlt t
        | rt d h2 => rw [q2] at t; exact t
        | exc c ds2 h2 => rw [q2] at t; exact t
        | bk _ _ => rw [q2] at t; exact t.elim
        | ct _ _ => rw [q2] at t; exact t.elim
        | bad => rw [q2] at t; exact t.elim
      | _ => rw [q] at t; exact (show False from t).elim
  exact gen its 0 ds h rfl (Nat.zero_le _) start
@[simp] theorem ws_for (I : IM) (T : GM) (B : SM) : (forM I T B ds h).wp N Q X = (I ds h).wp (fun p h => (loopM p.2 T B p.1 ds h).wp N Q X) X := by simp only [forM, ws_lift]
@[simp] theorem wp_valI {P : List D × (Hs → Prop) → Hs → Prop} (A : EM) : (valI A ds h).wp P X = (A ds h).wp (fun d h => match itsF d h with | some p => P p h | none => False) X := by
  simp only [valI, wp_bind]
  congr 1; funext d h
  cases itsF d h <;> rfl
@[simp] theorem wp_rngI {P : List D × (Hs → Prop) → Hs → Prop} (F : List D → Option (List D)) (A : AM) : (rngI F A ds h).wp P X = (A ds h).wp (fun xs h => match F xs with | some its => P (its, fun _ => True) h | none => False) X := by
  simp only [rngI, wp_bind]
  congr 1; funext d h
  cases F d <;> rfl
/-- a while with what holds and what falls -/
theorem ws_while {T : TM} {B : SM} (J : Nat → Sl → Hs → Prop) (n k : Nat) (hk : k < n) (start : J k ds h)
    (turn : ∀ k ds h, J k ds h → (T ds h).wp (fun b h => if b = true then (B ds h).wp (fun ds h => ∃ j, j < k ∧ J j ds h) Q X else N ds h) X) : (whileM T B n ds h).wp N Q X := by
  induction n generalizing k ds h with
  | zero => omega
  | succ n ih =>
    have t := turn k ds h start
    unfold whileM
    rw [ws_lift]
    refine R.wp_mono t (fun b h1 w => ?_) (fun _ _ x => x)
    cases b with
    | true =>
      rw [if_pos rfl] at w ⊢
      cases q : B ds h1 with
      | nx ds2 h2 => rw [q] at w; obtain ⟨j, hj, w⟩ := w; exact ih j (by omega) w
      | rt d h2 => rw [q] at w; exact w
      | exc c ds2 h2 => rw [q] at w; exact w
      | bk _ _ => rw [q] at w; exact w.elim
      | ct _ _ => rw [q] at w; exact w.elim
      | bad => rw [q] at w; exact w.elim
    | false => rw [if_neg Bool.false_ne_true] at w ⊢; exact w
theorem wp_run (np nN : Nat) (M : SM) (xs : List D) : (runM np nN M xs h).wp Q X = (xs.length = np ∧ (M (startD nN xs) h).wp (fun _ h => Q .non h) Q X) := by
  unfold runM
  by_cases c : xs.length = np
  · rw [if_pos c]
    simp only [c, true_and]
    cases M (startD nN xs) h <;> rfl
  · rw [if_neg c]; simp [c]
theorem wp_pure (φ : Fm) (xs : List D) : (kPure.f φ xs h).wp Q X = (φ xs h).wp (fun d h' => (noloc d = true ∧ h'.take h.length = h) ∧ Q d h) (fun c h' => h'.take h.length = h ∧ X c h) := by
  show (nPure φ xs h).wp Q X = _
  unfold nPure
  cases φ xs h with
  | ok d h' =>
    simp only [wp_ok]
    split
    · rename_i c; simp [c]
    · rename_i c; simp [c]
  | exc c h' =>
    simp only [wp_exc]
    split
    · rename_i c; simp [c]
    · rename_i c; simp [c]
  | bad => rfl
end
end DV
namespace DV
open PySem PySem.Spec PyProof.Rows L2
section
variable {h : Hs} {i j : Int} {a b : Str} {xs ys : List D}
@[simp] theorem add_int : addF (.int i) (.int j) h = some (.int (i + j), h) := rfl
@[simp] theorem add_strs : addF (.str a) (.str b) h = if a.length + b.length ≤ LIM then some (.str (a ++ b), h) else none := rfl
@[simp] theorem add_tup : addF (.tup xs) (.tup ys) h = if xs.length + ys.length ≤ LIM then some (.tup (xs ++ ys), h) else none := rfl
@[simp] theorem sub_int : subF (.int i) (.int j) h = some (.int (i - j), h) := rfl
@[simp] theorem mul_int' : mulF (.int i) (.int j) h = if cMul i j = true then some (.int (i * j), h) else none := rfl
@[simp] theorem mul_strn : mulF (.str a) (.int j) h = if cB (-1000000 ≤ j ∧ j ≤ 1000000 ∧ a.length ≤ 1000000 ∧ a.length * j.toNat ≤ LIM) = true then some (.str (repS a j.toNat), h) else none := rfl
theorem ipF_int {C : Int → Int → Bool} {g : Int → Int → Int} : ipF C g (.int i) (.int j) h = if C i j = true then some (.int (g i j), h) else none := by
  unfold ipF intF
  simp only
  split <;> rfl
@[simp] theorem mod_int' : modF (.int i) (.int j) h = if cMod i j = true then some (.int (i % j), h) else none := ipF_int
@[simp] theorem fdiv_int : fdivF (.int i) (.int j) h = if cDiv i j = true then some (.int (i / j), h) else none := ipF_int
@[simp] theorem pow_int : powF (.int i) (.int j) h = if cPow i j = true then some (.int (i ^ j.toNat), h) else none := ipF_int
theorem cMul_l (h1 : -18446744073709551616 < i) (h2 : i < 18446744073709551616) : cMul i j = true := cB_of (.inl ⟨h1, h2⟩)
theorem cMul_r (h1 : -18446744073709551616 < j) (h2 : j < 18446744073709551616) : cMul i j = true := cB_of (.inr ⟨h1, h2⟩)
theorem cMod_of (h1 : 0 < j) : cMod i j = true := cB_of h1
theorem cDiv_of (h1 : 0 < j) (h2 : j < 1073741824) : cDiv i j = true := cB_of ⟨h1, h2⟩
theorem cPow_of (h1 : 0 ≤ j) (h2 : j ≤ 1000000) (h3 : i.natAbs < 18446744073709551616) : cPow i j = true := cB_of ⟨h1, h2, h3⟩
@[simp] theorem lt_int : ltF (.int i) (.int j) h = some (.bl (decide (i < j)), h) := rfl
@[simp] theorem gt_int : gtF (.int i) (.int j) h = some (.bl (decide (j < i)), h) := rfl
@[simp] theorem ge_int : geF (.int i) (.int j) h = some (.bl (decide (j ≤ i)), h) := rfl
@[simp] theorem neg_int : negF (.int i) h = some (.int (-i), h) := rfl
@[simp] theorem tup_F : tupF xs h = if xs.length ≤ LIM then some (.tup xs, h) else none := rfl
@[simp] theorem lst_F : lstF xs h = if xs.length ≤ LIM then some (.loc h.length, h ++ [.lst xs]) else none := rfl
@[simp] theorem le_LIM {n : Nat} : (n ≤ LIM) = (n ≤ 16777216) := rfl
@[simp] theorem lt_LIM {n : Nat} : (n < LIM) = (n < 16777216) := rfl
theorem eq_of {d e : D} (a : pyOk d = true) (b : pyOk e = true) (z : depD d ≤ 190) [Decidable (d = e)] : eqF d e h = some (.bl (decide (d = e)), h) := by
  unfold eqF; rw [eqB_of a b z, Option.map_some]; congr
theorem ne_of' {d e : D} (a : pyOk d = true) (b : pyOk e = true) (z : depD d ≤ 190) [Decidable (d = e)] : neF d e h = some (.bl (!decide (d = e)), h) := by
  unfold neF; rw [eqB_of a b z, Option.map_some]; congr
open Classical in
@[simp] theorem eq_int : eqF (.int i) (.int j) h = some (.bl (decide (i = j)), h) := by rw [eq_of rfl rfl (Nat.zero_le _)]; simp
open Classical in
@[simp] theorem ne_int' : neF (.int i) (.int j) h = some (.bl (!decide (i = j)), h) := by rw [ne_of' rfl rfl (Nat.zero_le _)]; simp
@[simp] theorem eq_bool' {c d : Bool} : eqF (.bl c) (.bl d) h = some (.bl (c == d), h) := by simp [eqF, eqB, lenNe, pyH, pyW, PyData.canLay0, PyData.depth, PyData.eqv]
@[simp] theorem ne_bool' {c d : Bool} : neF (.bl c) (.bl d) h = some (.bl (!(c == d)), h) := by simp [neF, eqB, lenNe, pyH, pyW, PyData.canLay0, PyData.depth, PyData.eqv]
open Classical in
theorem eq_strs (ha : PyData.strOk a = true) (hb : PyData.strOk b = true) : eqF (.str a) (.str b) h = some (.bl (decide (a = b)), h) := by rw [eq_of (by unfold pyOk; exact ha) (by unfold pyOk; exact hb) (Nat.zero_le _)]; simp
open Classical in
theorem ne_strs (ha : PyData.strOk a = true) (hb : PyData.strOk b = true) : neF (.str a) (.str b) h = some (.bl (!decide (a = b)), h) := by rw [ne_of' (by unfold pyOk; exact ha) (by unfold pyOk; exact hb) (Nat.zero_le _)]; simp
@[simp] theorem ix_tup' : ixF (.tup xs) (.int i) h = (atI xs i).map fun d => (d, h) := rfl
@[simp] theorem ix_str' : ixF (.str a) (.int i) h = if a.length ≤ LIM then (atI a.cps.toList i).map (fun c => (.str ⟨#[c]⟩, h)) else none := rfl
@[simp] theorem len_tup : lenF [.tup xs] h = some (.int xs.length, h) := rfl
@[simp] theorem len_ro {ns : List Int} : lenF [.ro ns] h = some (.int ns.length, h) := rfl
@[simp] theorem len_str' : lenF [.str a] h = if a.length ≤ LIM then some (.int a.length, h) else none := rfl
@[simp] theorem int_int : intT [.int i] h = some (.int i, h) := rfl
@[simp] theorem int_bool {c : Bool} : intT [.bl c] h = some (.int (if c then 1 else 0), h) := rfl
@[simp] theorem max2_int : max2F [.int i, .int j] h = some (.int (if j > i then j else i), h) := rfl
@[simp] theorem min2_int : min2F [.int i, .int j] h = some (.int (if j < i then j else i), h) := rfl
theorem ix_lst {l : Nat} (e : h[l]? = some (.lst xs)) : ixF (.loc l) (.int i) h = (atI xs i).map fun d => (d, h) := by simp [ixF, e]
theorem len_lst {l : Nat} (e : h[l]? = some (.lst xs)) : lenF [.loc l] h = some (.int xs.length, h) := by simp [lenF, e]
theorem its_lst {l : Nat} (e : h[l]? = some (.lst xs)) : itsF (.loc l) h = some (xs, fun h => h[l]? = some (.lst xs)) := by simp [itsF, e]
@[simp] theorem its_tup : itsF (.tup xs) h = some (xs, fun _ => True) := rfl
@[simp] theorem its_str : itsF (.str a) h = some (a.cps.toList.map fun c => .str ⟨#[c]⟩, fun _ => True) := rfl
@[simp] theorem its_ro {ns : List Int} : itsF (.ro ns) h = some (ns.map D.int, fun _ => True) := rfl
@[simp] theorem in_sign {c : Nat} : inF (.str ⟨#[c]⟩) (.str b) h = some (.bl (decide (c ∈ b.cps.toList)), h) := rfl
@[simp] theorem nin_sign {c : Nat} : ninF (.str ⟨#[c]⟩) (.str b) h = some (.bl (!decide (c ∈ b.cps.toList)), h) := rfl
theorem atI_nat {α : Type} {zs : List α} {k : Nat} (hk : k < zs.length) : atI zs (k : Int) = zs[k]? := by
  unfold atI ixN
  simp [hk]
theorem atI_of {α : Type} {zs : List α} {i : Int} (h0 : 0 ≤ i) (h1 : i < zs.length) : ∃ z, atI zs i = some z ∧ zs[i.toNat]? = some z := by
  obtain ⟨k, rfl⟩ := Int.eq_ofNat_of_zero_le h0
  have hk : k < zs.length := by omega
  refine ⟨zs[k], ?_, by simp⟩
  rw [atI_nat hk]
  simp
theorem pw62 : (2 : Int) ^ 62 = 4611686018427387904 := by decide +kernel
theorem inR_of (h1 : -1000000000000 ≤ j) (h2 : j ≤ 1000000000000) : inR j = true := by
  unfold inR
  rw [pw62]
  exact cB_of ⟨by omega, by omega⟩
@[simp] theorem rng1_int : rng1 [.int j] = if inR j = true then some ((List.range j.toNat).map fun (i : Nat) => .int (i : Int)) else none := rfl
@[simp] theorem rng2_int : rng2 [.int i, .int j] = if inR i = true ∧ inR j = true then some ((List.range (j - i).toNat).map fun (k : Nat) => .int (i + (k : Int))) else none := rfl
end
section
variable {h r : Hs} {o : AO} {l k : Nat}
theorem get_app (e : h[l]? = some o) : (h ++ r)[l]? = some o := by
  obtain ⟨q, _⟩ := List.getElem?_eq_some_iff.mp e
  rw [List.getElem?_append_left q]; exact e
@[simp] theorem get_new : (h ++ r)[h.length + k]? = r[k]? := by rw [List.getElem?_append_right (by omega)]; congr 1; omega
@[simp] theorem get_new0 : (h ++ r)[h.length]? = r[0]? := by rw [List.getElem?_append_right (by omega)]; congr 1; omega
@[simp] theorem set_new : (h ++ r).set (h.length + k) o = h ++ r.set k o := (List.set_append_right _ _ (by omega)).trans (by rw [Nat.add_sub_cancel_left])
@[simp] theorem set_new0 : (h ++ r).set h.length o = h ++ r.set 0 o := (List.set_append_right _ _ (Nat.le_refl _)).trans (by rw [Nat.sub_self])
theorem set_app (q : l < h.length) : (h ++ r).set l o = h.set l o ++ r := List.set_append_left _ _ q
end
end DV
namespace DV
open PySem PySem.Spec PyProof.Rows L2
structure ExcF (K : PySem.W.Frag) (mg : Str → Option Value) (c : Str) : Prop where
  q : PySem.W.excIn K (He.ga K c) He.veBase "ValueError.__new__" = true
  g : mg c = some (.ref (He.ga K c))
  k : PySem.W.keepIn K (.ref (He.ga K c)) = true
  b : PySem.W.subIn K (.ref (He.ga K c)) (.type "BaseException") = some true
  t : PySem.W.typeIn K (.ref (He.ga K c)) = some (.type "type")
section
variable {X : Cx} {g : Cfg} {c m : Str} {j : Option Str} {p p2 pos pos' : Pos}
theorem sm_raise {jj} (E : ExcF X.K X.mg c) (hK : X.K = g.K) (hc : X.calm = true) (tk : Takes X g.W) (hg : Gl X c) (hdb : (c == ("__debug__" : Str)) = false := by decide) : PS X (.Raise (some (.Call (.Name c p) [.Constant (.str m) jj p2] [] pos)) none pos') (tS g (raiseM c)) := by
  refine PS.weak (ps_raise hc tk (pmk_own PySem.F.excBase_ValueError E.q E.g E.k (raises_own E.b E.t) hg hdb)) fun N σ H ⟨m, ds, h, hs, rh, o⟩ => ?_
  rw [hK]
  exact o σ m H (.refl _ _) hs rh
end
end DV
namespace DV
open PySem PySem.Spec PyProof.Rows L2
def numD (xs : List D) : List D := xs.zipIdx.map fun p => .tup [.int (p.2 : Nat), p.1]
def enumF (d : D) (h : Hs) : Option (List D × (Hs → Prop)) := match d with
  | .tup ds => some (numD ds, fun _ => True)
  | .loc l => match h[l]? with
    | some (.lst ds) => some (numD ds, fun h => h[l]? = some (.lst ds))
    | _ => none
  | _ => none
def enumI (A : EM) : IM := fun ds h => (A ds h).bind fun d h => match enumF d h with
  | some p => .ok p h
  | none => .bad
@[simp] theorem wp_enumI {ds : Sl} {h : Hs} {X : QX} {P : List D × (Hs → Prop) → Hs → Prop} (A : EM) : (enumI A ds h).wp P X = (A ds h).wp (fun d h => match enumF d h with | some p => P p h | none => False) X := by
  simp only [enumI, wp_bind]
  congr 1; funext d h
  cases enumF d h <;> rfl
end DV
namespace DV
open PySem PySem.Spec PyProof.Rows L2
section
variable {X : QX} {ds : Sl} {h h0 : Hs} {Q : D → Hs → Prop} {own : List Nat} {I : IM} {T : GM} {C : TM} {A : EM} {gd : Hs → Prop}
@[simp] theorem wp_lc : (lcM own I T C A ds h).wp Q X = (I ds h).wp (fun p h => (lcLoop p.2 h.length T C A (wipeD ds own) p.1 (h ++ [.lst []])).wp Q X) X := by simp only [lcM, wp_bind]
@[simp] theorem wipe_nil : wipeD ds [] = ds := rfl
@[simp] theorem wipe_cons {v : Nat} {vs : List Nat} : wipeD ds (v :: vs) = (wipeD ds vs).set v none := rfl
/-- one turn: what it gives (none: left out), the heap as it is -/
def LcTurn (T : GM) (C : TM) (A : EM) (ds : Sl) (d : D) (o : Option D) (h : Hs) : Prop :=
  (T d ds h).wp (fun ds1 h1 => h1 = h ∧ (C ds1 h).wp (fun b h2 => h2 = h ∧ match o with
    | some y => b = true ∧ (A ds1 h).wp (fun y' h3 => y' = y ∧ h3 = h) xF
    | none => b = false) xF) (fun _ _ => False) xF
theorem lc_loop (its : List D) (fs : List (Option D)) (hl : its.length = fs.length) (acc : List D) (hz : acc.length + its.length ≤ 16777216)
    (g : ∀ acc : List D, gd (h0 ++ [.lst acc])) (turn : ∀ (i : Nat) (d : D) (o : Option D) (acc : List D), its[i]? = some d → fs[i]? = some o → LcTurn T C A ds d o (h0 ++ [.lst acc])) :
    lcLoop gd h0.length T C A ds its (h0 ++ [.lst acc]) = .ok (.loc h0.length) (h0 ++ [.lst (acc ++ fs.filterMap id)]) := by
  induction its generalizing fs acc with
  | nil =>
    have : fs = [] := List.eq_nil_of_length_eq_zero hl.symm
    subst this
    unfold lcLoop
    rw [if_pos (g acc)]
    simp
  | cons d its ih =>
    cases fs with
    | nil => cases hl
    | cons o fs =>
      simp only [List.length_cons] at hl hz
      have t := turn 0 d o acc rfl rfl
      have rest := fun acc' (hz' : acc'.length + its.length ≤ 16777216) => ih fs (by omega) acc' hz' fun i d' o' a e1 e2 => turn (i + 1) d' o' a e1 e2
      unfold lcLoop
      rw [if_pos (g acc)]
      unfold LcTurn at t
      cases q : T d ds (h0 ++ [.lst acc]) with
      | nx ds1 h1 =>
        rw [q] at t
        obtain ⟨rfl, t⟩ := t
        simp only
        cases q2 : C ds1 (h0 ++ [.lst acc]) with
        | ok b h2 =>
          rw [q2] at t
          obtain ⟨rfl, t⟩ := t
          rw [R.noX_ok, R.bind_ok]
          cases o with
          | none =>
            have t : b = false := t
            subst t
            rw [if_neg Bool.false_ne_true, rest acc (by omega)]
            rfl
          | some y =>
            obtain ⟨rfl, t⟩ := t
            rw [if_pos rfl]
            obtain ⟨y', h3, e, rfl, rfl⟩ := R.wp_ex t
            rw [e, R.noX_ok, R.bind_ok]
            have e1 : (h0 ++ [AO.lst acc])[h0.length]? = some (.lst acc) := by simp
            have e2 : (h0 ++ [AO.lst acc]).set h0.length (.lst (acc ++ [y'])) = h0 ++ [.lst (acc ++ [y'])] := by simp
            rw [e1]
            simp only
            rw [if_pos (by show acc.length < 16777216; omega), e2, rest (acc ++ [y']) (by rw [List.length_append]; simp; omega)]
            simp
        | exc c h2 => rw [q2] at t; exact t.elim
        | bad => rw [q2] at t; exact t.elim
      | _ => rw [q] at t; exact (show False from t).elim
end
@[simp] theorem wp_maxd {ds : Sl} {h : Hs} {Q : D → Hs → Prop} {X : QX} (A B : EM) : (maxdF A B ds h).wp Q X = (A ds h).wp (fun d h => (B ds h).wp (fun e h => (maxdR d e h).wp Q X) X) X := by simp only [maxdF, wp_bind]
theorem wp_new {φ : Fm} {xs : List D} {h : Hs} {Q : D → Hs → Prop} {X : QX} (w : (φ xs h).wp (fun d h' => ∃ l o, d = .loc l ∧ h'[l]? = some o ∧ h.length ≤ l ∧ h'.take h.length = h ∧ nolocO o = true ∧ Q (.loc h.length) (h ++ [o])) (fun c h' => h'.take h.length = h ∧ X c h)) : (kNew.f φ xs h).wp Q X := by
  show (nNew φ xs h).wp Q X
  unfold nNew
  cases e : φ xs h with
  | ok d h' =>
    rw [e] at w
    obtain ⟨l, o, rfl, e1, c1, c2, c3, q⟩ := w
    simp only [e1]
    rw [if_pos ⟨c1, c2, c3⟩]
    exact q
  | exc c h' =>
    rw [e] at w
    simp only
    rw [if_pos w.1]
    exact w.2
  | bad => rw [e] at w; exact w
theorem append_lst {h : Hs} {l : Nat} {xs : List D} {v : D} (e : h[l]? = some (.lst xs)) (hz : xs.length < 16777216) : appendF (.loc l) [v] h = some (.non, h.set l (.lst (xs ++ [v]))) := by
  simp [appendF, e, hz]
theorem pop_lst {h : Hs} {l : Nat} {xs : List D} {v : D} (e : h[l]? = some (.lst (xs ++ [v]))) : popF (.loc l) [] h = some (v, h.set l (.lst xs)) := by
  simp [popF, e]
theorem ck_lst {h : Hs} {l : Nat} {xs : List D} (e : h[l]? = some (.lst xs)) : ckList (.loc l) h = true := by simp [ckList, e]
theorem at_last {α : Type} {xs : List α} {a : α} : atI (xs ++ [a]) (-1) = some a := by
  have e : ixN (xs ++ [a]).length (-1) = some xs.length := by
    unfold ixN
    have e1 : ((-1 : Int) + ((xs ++ [a]).length : Int)).toNat = xs.length := by rw [List.length_append, List.length_singleton]; omega
    rw [if_neg (by decide), if_pos (by rw [List.length_append, List.length_singleton]; omega), e1]
  unfold atI
  rw [e]
  simp
section
variable {N : Sl → Hs → Prop} {Q : D → Hs → Prop} {X : QX} {ds : Sl} {h h1 : Hs} {d : D}
theorem st_set {i : Nat} {A : EM} {B : SM} (d : D) (h1 : Hs) (e : (A ds h).wp (fun a' h' => a' = d ∧ h' = h1) xF) (w : (B (ds.set i (some d)) h1).wp N Q X) : (seqM (setM i A) B ds h).wp N Q X := by
  rw [ws_seq, ws_set, R.wp_eq.mp e]
  exact w
theorem RS.wp_eq {r : RS} {ds : Sl} {h : Hs} (w : r.wp (fun a b => a = ds ∧ b = h) (fun _ _ => False) xF) : r = .nx ds h := by
  cases r with
  | nx a b => obtain ⟨rfl, rfl⟩ := w; rfl
  | rt _ _ => exact w.elim
  | exc _ _ _ => exact w.elim
  | bk _ _ => exact w.elim
  | ct _ _ => exact w.elim
  | bad => exact w.elim
theorem st_seq {A B : SM} (ds1 : Sl) (h1 : Hs) (e : (A ds h).wp (fun a b => a = ds1 ∧ b = h1) (fun _ _ => False) xF) (w : (B ds1 h1).wp N Q X) : (seqM A B ds h).wp N Q X := by
  rw [ws_seq, RS.wp_eq e]
  exact w
theorem st_if {T : TM} {A B : SM} (b : Bool) (h1 : Hs) (e : (T ds h).wp (fun a' h' => a' = b ∧ h' = h1) xF) (w : if b = true then (A ds h1).wp N Q X else (B ds h1).wp N Q X) : (ifM T A B ds h).wp N Q X := by
  rw [ws_if, R.wp_eq.mp e]
  exact w
end
theorem st_guard {N : Sl → Hs → Prop} {Q : D → Hs → Prop} {X : QX} {ds : Sl} {h : Hs} {T : TM} {A C : SM} (h1 : Hs) (e : (T ds h).wp (fun a' h' => a' = false ∧ h' = h1) xF) (w : (C ds h1).wp N Q X) : (seqM (ifM T A passM) C ds h).wp N Q X := by
  rw [ws_seq, ws_if, R.wp_eq.mp e]
  exact w
theorem filterMap_if {α : Type} {p : α → Bool} {f : α → D} : ∀ l : List α, (l.map fun q => if p q then some (f q) else none).filterMap id = (l.filter p).map f
  | [] => rfl
  | q :: l => by
    rw [List.map_cons, List.filterMap_cons, List.filter_cons, filterMap_if l]
    cases p q <;> rfl
end DV
namespace DV
open PySem PySem.Spec PyProof.Rows L2
def dK : Key → D
  | .inl i => .int i
  | .inr s => .str s
def newDM : EM := fun _ h => .ok (.loc h.length) (h ++ [.dct []])
def newTM : EM := fun _ h => .ok (.loc h.length) (h ++ [.dcT []])
/-- a list, a dict written -/
def setAF : D → D → D → Hs → Option Hs
  | .loc l, i, v, h => match h[l]? with
    | some (.lst ds) => (match i with
      | .int i => (ixN ds.length i).map fun j => h.set l (.lst (ds.set j v))
      | _ => none)
    | some (.dct kvs) => if kvs.length < LIM then (keyD i).map fun k => h.set l (.dct (putD kvs k v)) else none
    | some (.dcT kvs) => (match i with
      | .tup ks => if kvs.length < LIM then (keysD ks).map fun k => h.set l (.dcT (putD kvs k v)) else none
      | _ => none)
    | _ => none
  | _, _, _, _ => none
section
variable {K : PySem.W.Frag} {m : List Addr} {H : Hp} {h : Hs} {l : Nat} {a : Addr}
theorem put_dct {kvs kvs0 : List (Key × D)} {ks ks0 : List (Key × V)} (rh : RepH K m H h) (ha : m[l]? = some a) (hv : H a = some (.dK ks0)) (kk : kvs.map (·.1) = ks.map (·.1)) (rk : RepL K m H (kvs.map (·.2)) (ks.map (·.2))) :
    Grow m H m (upd H a (.dK ks)) ∧ RepH K m (upd H a (.dK ks)) (h.set l (.dct kvs)) := by
  have w : Grow m H m (upd H a (.dK ks)) := .write hv (fun _ z => nomatch z) (fun _ _ z => nomatch z) (fun _ z => nomatch z)
  exact ⟨w, rh.write ha hv (fun _ z => nomatch z) (fun _ _ z => nomatch z) (fun _ z => nomatch z) ⟨ks, upd_same, kk, rk.mono w⟩⟩
end
section
variable {X : Cx} {g : Cfg} {pos : Pos}
theorem s_any (hu : X.A.units + 1 < cLine) : PSet X (rSt X.K setAF) := by
  intro pns s σ H o i v ov iv u Q I ro ri rv h
  obtain ⟨m, hs, od, id, vd, r1, r2, r3, rh, q⟩ := h
  unfold setAF at q
  split at q
  · rename_i l
    unfold RepV at r1
    obtain ⟨a, ha, rfl⟩ := r1
    split at q
    · rename_i xs e
      split at q
      · refine s_list pns s σ H _ _ _ ov iv u Q I ro ri rv ⟨m, hs, .loc l, .int _, vd, by unfold RepV; exact ⟨a, ha, rfl⟩, r2, r3, rh, ?_⟩
        unfold setLF
        simp only [e]
        exact q
      · exact q.elim
    · rename_i kvs e
      obtain ⟨ks, hk, kk, rk⟩ := rh.at_ _ a _ ha e
      split at q
      · rename_i hz
        cases c : keyD id with
        | none => rw [c] at q; exact q.elim
        | some k =>
          rw [c] at q
          have := kV_keyD r2 c
          subst this
          obtain ⟨kk2, rk2⟩ := put_rep k r3 kk rk
          obtain ⟨w, rh2⟩ := put_dct (kvs0 := kvs) rh ha hk kk2 rk2
          cases ro
          have hl : ks.length < sizeLine := by rw [LIM_eq]; have := congrArg List.length kk; simp at this; omega
          exact d_setItem hu I (DPut.k hk hl) ri rv fun s' I' => ⟨_, I', q m _ w rh2⟩
      · exact q.elim
    · rename_i kvs e
      obtain ⟨ks, hk, kk, rk⟩ := rh.at_ _ a _ ha e
      split at q
      · rename_i kd
        split at q
        · rename_i hz
          cases c : keysD kd with
          | none => rw [c] at q; exact q.elim
          | some k =>
            rw [c] at q
            unfold RepV at r2
            obtain ⟨b, xs, rfl, hb, rl⟩ := r2
            have := kV_keysD rl c
            subst this
            obtain ⟨kk2, rk2⟩ := put_rep k r3 kk rk
            have w : Grow m H m (upd H a (.dT (putK ks k v))) := .write hk (fun _ z => nomatch z) (fun _ _ z => nomatch z) (fun _ z => nomatch z)
            have rh2 : RepH X.K m (upd H a (.dT (putK ks k v))) (hs.set l (.dcT (putD kvs k vd))) := rh.write ha hk (fun _ z => nomatch z) (fun _ _ z => nomatch z) (fun _ z => nomatch z) ⟨_, upd_same, kk2, rk2.mono w⟩
            cases ro
            have hl : ks.length < sizeLine := by rw [LIM_eq]; have := congrArg List.length kk; simp at this; omega
            exact d_setItem hu I (DPut.t hk hb hl) ri rv fun s' I' => ⟨_, I', q m _ w rh2⟩
        · exact q.elim
      · exact q.elim
    · exact q.elim
  · exact q.elim
end
end DV
namespace DV
open PySem PySem.Spec PyProof.Rows L2
end DV
namespace DV
open PySem PySem.Spec PyProof.Rows L2
theorem tuple_mul1 (l : Addr) (items : Array Value) (n : Nat) (dd : Option Addr) (sl : Array (Option Value)) (x : Int) (u : Tok) (c0 : (decide (x < -(2 ^ 63)) || decide (x ≥ 2 ^ 63)) = false) (c1 : (items.isEmpty || x == 1) = true) :
    Meets (Builtin.«tuple.__mul__» ⟨[.ref l, .int x u], []⟩) (fun _ R s => s.heap.get? l = some { cls := .type "tuple", dict := dd, data := .seq items n, slots := sl } ∧ R (.ok (.ret (Value.ref l))) s) :=
  .of_wp fun prog w A R s h => by
    obtain ⟨hp, g, d, tk, os⟩ := s
    obtain ⟨hl, h⟩ := h
    have f1 := AutoSeq1.idx_int
    wp_walk using wpAny_loadPart' hl
    repeat (first
      | (refine wpAny_ite_false (decide_eq_false (by rw [c0]; exact Bool.false_ne_true)) ?_; wp_walk using wpAny_loadPart' hl)
      | (refine wpAny_ite_true (decide_eq_true c1) ?_; wp_walk using wpAny_loadPart' hl))
    exact ⟨_, rfl, h⟩
theorem tuple_mul0 (l : Addr) (items : Array Value) (n : Nat) (dd : Option Addr) (sl : Array (Option Value)) (x : Int) (u : Tok) (c0 : (decide (x < -(2 ^ 63)) || decide (x ≥ 2 ^ 63)) = false) (c1 : (items.isEmpty || x == 1) = false) (c2 : (decide (x ≤ 0) || items.isEmpty) = true) :
    Meets (Builtin.«tuple.__mul__» ⟨[.ref l, .int x u], []⟩) (fun _ R s => s.heap.get? l = some { cls := .type "tuple", dict := dd, data := .seq items n, slots := sl } ∧
      R (.ok (.ret (Value.ref s.heap.objs.size))) { s with heap := s.heap.push { cls := Value.type "tuple", data := Data.seq #[] }, toks := s.toks }) :=
  .of_wp fun prog w A R s h => by
    obtain ⟨hp, g, d, tk, os⟩ := s
    obtain ⟨hl, h⟩ := h
    have f1 := AutoSeq1.idx_int
    have hsz : (#[] : Array Value).size ≤ sizeLine := by rw [sizeLine_eq]; decide
    wp_walk using wpAny_loadPart' hl
    repeat (first
      | (refine wpAny_ite_false (decide_eq_false (by rw [c0]; exact Bool.false_ne_true)) ?_; wp_walk using wpAny_loadPart' hl)
      | (refine wpAny_ite_false (decide_eq_false (by rw [c1]; exact Bool.false_ne_true)) ?_; wp_walk using wpAny_loadPart' hl)
      | (refine wpAny_ite_true (decide_eq_true c2) ?_; wp_walk using wpAny_loadPart' hl))
    exact ⟨_, rfl, h⟩
def rRepX (K : PySem.W.Frag) : R2 := fun x y H Q => ∃ l k xs, x = .ref l ∧ y = .int k ∧ SqT K H l xs ∧ -1000 ≤ k ∧ k ≤ 1000 ∧ xs.length ≤ 1000 ∧ ((xs = [] ∨ k = 1) → Q (.ref l) H) ∧ ∀ p, H p = none → Q (.ref p) (upd H p (.tup (List.replicate k.toNat xs).flatten))
section
variable {X : Cx}
theorem op_repX : OpR X (binaryOp .Mult) (rRepX X.K) := by
  intro pns s σ H x y v u Q I rx ry h
  obtain ⟨l, k, xs, rfl, rfl, hT, h1, h2, hz, q1, q⟩ := h
  by_cases big : xs ≠ [] ∧ 2 ≤ k
  · exact op_repT pns s σ H _ _ v u Q I rx ry ⟨l, k, xs, rfl, rfl, hT, big.1, big.2, h2, hz, q⟩
  cases rx
  obtain ⟨t, rfl⟩ := ry
  obtain ⟨jts, r, ⟨⟨cls, dd, data, sl⟩, ho, hc, n, hd⟩, hs⟩ := I.tuple hT
  simp only at hc hd
  subst hc hd
  have hle : jts.length = xs.length := r.length.symm
  have c0 : (decide (k < -(2 ^ 63)) || decide (k ≥ 2 ^ 63)) = false := by
    rw [decide_eq_false (by omega), decide_eq_false (by omega)] <;> rfl
  refine wpAny_binaryOp_repeat_ref (T := "tuple") (U := "int") (by decide) ⟨_, ho, rfl⟩ (fun s' => typeIs_int s' k t) noFill_tuple_mul F.fills_int_mul F.slot_int_rmul repeat_tuple F.slot_int_index.lookup
    (call_meets F.slot_int_rmul (typeIs_int s k t) F.entry_int_rmul (F.args_int_rmul_2 _ _) (int_rmul_tuple k t l jts.toArray n dd sl) ⟨ho, rfl, ⟨_, ho, rfl⟩, ?_⟩)
  by_cases z : xs = [] ∨ k = 1
  · have c1 : (jts.toArray.isEmpty || k == 1) = true := by
      rcases z with z | z
      · have : jts = [] := List.eq_nil_of_length_eq_zero (by rw [hle, z]; rfl)
        subst this; rfl
      · subst z; simp
    exact call_meets F.slot_tuple_mul ⟨_, ho, rfl⟩ F.entry_tuple_mul (F.args_tuple_mul_2 _ _) (tuple_mul1 l jts.toArray n dd sl k t c0 c1) ⟨ho, ⟨.ref l, H, I, rfl, q1 z⟩⟩
  · have hn : jts ≠ [] := fun e => z (.inl (List.eq_nil_of_length_eq_zero (by rw [← hle, e]; rfl)))
    have hx : xs ≠ [] := fun e => z (.inl e)
    have hi : jts.toArray.isEmpty = false := by
      cases jts with
      | nil => exact absurd rfl hn
      | cons a b => rfl
    have hk : k ≤ 0 := by
      have : ¬ 2 ≤ k := fun c => big ⟨hx, c⟩
      have : k ≠ 1 := fun c => z (.inr c)
      omega
    have c1 : (jts.toArray.isEmpty || k == 1) = false := by
      rw [hi, Bool.false_or]; exact beq_eq_false_iff_ne.mpr (by omega)
    have c2 : (decide (k ≤ 0) || jts.toArray.isEmpty) = true := by rw [decide_eq_true hk]; rfl
    have e0 : (List.replicate k.toNat xs).flatten = [] := by
      have : k.toNat = 0 := by omega
      rw [this]; rfl
    have q2 := q s.heap.objs.size (I.hok.fresh (Nat.le_refl _))
    rw [e0] at q2
    refine call_meets F.slot_tuple_mul ⟨_, ho, rfl⟩ F.entry_tuple_mul (F.args_tuple_mul_2 _ _) (tuple_mul0 l jts.toArray n dd sl k t c0 c1 c2) ⟨ho, ?_⟩
    refine ⟨.ref s.heap.objs.size, _, I.laid (t' := s.toks) (o := .tup []) (fun b ob q => Heap.get?_push_of_some _ q) (Nat.le_refl _) ?_, rfl, q2⟩
    exact ⟨by rw [sizeLine_eq]; decide, [], .nil, IsTup.new _ _⟩
end
theorem RepL.rep {K : PySem.W.Frag} {m : List Addr} {H : Hp} {ds : List D} {vs : List V} (r : RepL K m H ds vs) : ∀ k : Nat, RepL K m H (List.replicate k ds).flatten (List.replicate k vs).flatten
  | 0 => .nil
  | k + 1 => by
    rw [List.replicate_succ, List.replicate_succ, List.flatten_cons, List.flatten_cons]
    exact r.append (RepL.rep r k)
noncomputable def mulXF : VF2
  | .tup xs, .int k, h => if -1000 ≤ k ∧ k ≤ 1000 ∧ xs.length ≤ 1000 then some (.tup (List.replicate k.toNat xs).flatten, h) else none
  | d, e, h => mulF d e h
theorem o_mulX {X : Cx} : OpR X (binaryOp .Mult) (rV X.K mulXF) := by
  intro pns s σ H x y v u Q I rx ry h
  obtain ⟨m, hs, dx, dy, r1, r2, rh, o⟩ := h
  unfold mulXF at o
  split at o
  · rename_i xs k
    split at o
    · rename_i c
      have r1' := r1
      unfold RepV at r1 r2
      obtain ⟨a, vs, rfl, ha, rl⟩ := r1
      subst r2
      have ne : vs = [] ↔ xs = [] := rl.nil_iff
      refine op_repX pns s σ H _ _ v u Q I rx ry ⟨a, k, vs, rfl, rfl, SqT.of ha, c.1, c.2.1, by rw [rl.length]; exact c.2.2, fun z => ?_, fun p hp => ?_⟩
      · have e : (List.replicate k.toNat xs).flatten = xs := by
          rcases z with z | z
          · rw [ne.mp z]; simp
          · subst z; simp
        rw [e] at o
        exact OutV.keep o r1' rh
      · exact o (.ref p) m _ (.put hp) (by unfold RepV; exact ⟨p, _, rfl, upd_same, (rl.rep _).mono (.put hp)⟩) (rh.put hp)
    · exact o.elim
  · exact o_mul pns s σ H x y v u Q I rx ry ⟨m, hs, dx, dy, r1, r2, rh, o⟩
/-- which items -/
def stepIx (n : Nat) (lo st : Option Int) : List Nat := sliceRange (sliceBounds lo none st n).1 (sliceBounds lo none st n).2.1 (sliceBounds lo none st n).2.2
def pickL {α : Type} (xs : List α) (lo st : Option Int) : List α := (stepIx xs.length lo st).filterMap fun i => xs[i]?
/-- with a step k, 2 to 9 -/
def stepF (d : D) (lo : Option Int) (k : Int) (h : Hs) : Res := match d with
  | .loc l => match h[l]? with
    | some (.lst ds) => if (pickL ds lo (some k)).length ≤ LIM then some (.loc h.length, h ++ [.lst (pickL ds lo (some k))]) else none
    | _ => none
  | .ro ns => if (pickL ns lo (some k)).length ≤ LIM then some (.loc h.length, h ++ [.lst ((pickL ns lo (some k)).map D.int)]) else none
  | _ => none
def stepM (A : EM) (lo : OM) (k : Int) : EM := fun ds h => (A ds h).bind fun d h => (lo ds h).bind fun l h => .ofO (stepF d l k h)
end DV
namespace DV
open PySem PySem.Spec PyProof.Rows L2
def findF : D → List D → Hs → Res
  | .str a, [.str b], h => some (.int (Txt.find a b), h)
  | _, _, _ => none
def strsOf : List D → Option (List Str)
  | [] => some []
  | .str s :: r => (strsOf r).map fun ss => s :: ss
  | _ => none
@[simp] theorem strsOf_map (ns : List Str) : strsOf (ns.map D.str) = some ns := by
  induction ns with
  | nil => rfl
  | cons n ns ih => rw [List.map_cons]; unfold strsOf; rw [ih]; rfl
section
variable {X : Cx}
theorem k_find : MtR X "str.find" (rMt X.K findF) := by
  intro pns s σ H x vs v us Q I rx rv h
  obtain ⟨m, hs, d, ds, r1, rl, rh, o⟩ := h
  unfold findF at o
  split at o
  · unfold RepV at r1
    subst r1
    obtain ⟨y, rfl, r2⟩ := repL1 rl
    unfold RepV at r2
    subst r2
    exact mt_find pns s σ H _ _ v us Q I rx rv ⟨_, _, rfl, rfl, OutV.keep o (by unfold RepV; rfl) rh⟩
  · exact o.elim
end
def disp1M (A B : EM) : EM := fun ds h => (A ds (h ++ [.dct []])).bind fun k h1 => (B ds h1).bind fun v h2 => match keyD k, h2[h.length]? with
  | some k, some (.dct []) => .ok (.loc h.length) (h2.set h.length (.dct [(k, v)]))
  | _, _ => .bad
section
variable {N : Sl → Hs → Prop} {Q : D → Hs → Prop} {X : QX} {ds : Sl} {h : Hs}
@[simp] theorem wp_newD : (newDM ds h).wp Q X = Q (.loc h.length) (h ++ [.dct []]) := rfl
@[simp] theorem wp_newT : (newTM ds h).wp Q X = Q (.loc h.length) (h ++ [.dcT []]) := rfl
@[simp] theorem wp_step (A : EM) (lo : OM) (k : Int) : (stepM A lo k ds h).wp Q X = (A ds h).wp (fun d h => (lo ds h).wp (fun l h => (R.ofO (stepF d l k h)).wp Q X) X) X := by simp only [stepM, wp_bind]
@[simp] theorem wp_disp1 (A B : EM) : (disp1M A B ds h).wp Q X = (A ds (h ++ [.dct []])).wp (fun k h1 => (B ds h1).wp (fun v h2 => match keyD k, h2[h.length]? with
  | some k, some (.dct []) => Q (.loc h.length) (h2.set h.length (.dct [(k, v)]))
  | _, _ => False) X) X := by
  simp only [disp1M, wp_bind]
  congr 1; funext k h1
  congr 1; funext v h2
  split <;> rfl
end
end DV
namespace DV
open PySem PySem.Spec PyProof.Rows L2
def kxB (K : PySem.W.Frag) (C : Addr) : Bool :=
  (PySem.W.clsIn K C).isSome && (decide (PySem.W.findIn K (.ref C) "__getattribute__" = some (some (.builtin "BaseException.__getattribute__"))) && ((PySem.W.findIn K (.ref C) "__getattr__").isSome &&
  (decide (PySem.W.subIn K (.ref C) (.type "BaseException") = some true) && (decide (PySem.W.findIn K (.ref C) "__class__" = some (some (.builtin "object.__class__"))) &&
  (decide (PySem.W.specialIn K (.builtin "object.__class__") "__get__" = some (some (.builtin "getset_descriptor.__get__"))) && (decide (PySem.W.takesIn K (.builtin "object.__class__") = some true) && decide (PySem.W.mroIn K C (.type "object") = some true)))))))
inductive Fx where
  | he (f : He.Fa)
  | kx (x : Str)
  | ix (x y : Str) (b : Bool)
  | ib (x : Str) (T : String) (b : Bool)
def Fx.ok (K : PySem.W.Frag) : Fx → Bool
  | .he f => f.ok K
  | .kx x => kxB K (He.ga K x)
  | .ix x y b => decide (PySem.W.kitOne K (.ref (He.ga K x)) (.ref (He.ga K y)) = some b)
  | .ib x T b => decide (PySem.W.kitOne K (.ref (He.ga K x)) (.type T) = some b)
def obsX (fa : List Fx) (fn : List He.DefD) (K : PySem.W.Frag) : He.AlD := ((fa.all fun f => f.ok K) && fn.all fun d => d.ok K, fn.map fun d => He.fnW K d.at_)
def SaysX (fa : List Fx) (fn : List He.DefD) (K : PySem.W.Frag) : Prop := obsX fa fn K = He.valD fn
def obsXG (n : Nat) (fa : List Fx) (fn : List He.DefD) (g : Addr → Option Obj) : He.AlD := obsX fa fn (He.frG g (He.asD g n))
def hookX (n : Nat) (fa : List Fx) (fn : List He.DefD) : PySem.W.Hook where
  α := He.AlD
  obs := fun s => obsXG n fa fn s.heap.get?
  val := fun _ => He.valD fn
  says := fun _ h => ∃ K : PySem.W.Frag, K.In h ∧ SaysX fa fn K
  of := fun _ _ e => ⟨_, He.frG_in, e⟩
  keeps := fun _ _ _ ⟨K, hK, c⟩ k => ⟨K, PySem.W.Frag.In.keeps hK k, c⟩
theorem obsXG_eq {n : Nat} {fa : List Fx} {fn : List He.DefD} {g : Addr → Option Obj} {s : Shared} (h : ∀ a, g a = s.heap.get? a) : obsXG n fa fn g = (hookX n fa fn).obs s := by
  have e : g = s.heap.get? := funext h
  rw [e] <;> rfl
section
variable {fa : List Fx} {fn : List He.DefD} {K : PySem.W.Frag}
theorem SaysX.fact0 (c : SaysX fa fn K) (i : Nat) {f : Fx} (h : fa[i]? = some f := by rfl) : f.ok K = true := by
  have c1 := (He.ba (show ((fa.all fun f => f.ok K) && fn.all fun d => d.ok K) = true from congrArg (fun z : He.AlD => z.1) c)).1
  exact List.all_eq_true.mp c1 f (List.mem_of_getElem? h)
theorem SaysX.fact (c : SaysX fa fn K) (i : Nat) {f : He.Fa} (h : fa[i]? = some (.he f) := by rfl) : f.ok K = true := c.fact0 i h
theorem SaysX.def_ (c : SaysX fa fn K) (i : Nat) {d : He.DefD} (h : fn[i]? = some d := by rfl) : ∃ fd, FunD K d.name d.qual d.params d.body d.scope (d.dvs K) (d.kws K) (He.fAd K d.at_) fd := by
  have c2 := (He.ba (show ((fa.all fun f => f.ok K) && fn.all fun d => d.ok K) = true from congrArg (fun z : He.AlD => z.1) c)).2
  have e : fn.map (fun d => He.fnW K d.at_) = fn.map He.DefD.val := congrArg (fun z : He.AlD => z.2) c
  have e2 : (fn.map fun d => He.fnW K d.at_)[i]? = (fn.map He.DefD.val)[i]? := by rw [e]
  rw [List.getElem?_map, List.getElem?_map, h] at e2
  exact He.DefD.funD (Option.some.inj e2) (List.all_eq_true.mp c2 d (List.mem_of_getElem? h))
end
def tabF (tb : List (Str × Bool)) (c : Str) : Option Bool := (tb.find? fun p => decide (p.1 = c)).map (·.2)
def isXF (tb : List (Str × Bool)) (d : D) (h : Hs) : Res := match d with
  | .exn c => (tabF tb c).map fun b => (.bl b, h)
  | _ => none
theorem tabF_mem {tb : List (Str × Bool)} {c : Str} {b : Bool} (e : tabF tb c = some b) : (c, b) ∈ tb := by
  unfold tabF at e
  cases q : tb.find? fun p => decide (p.1 = c) with
  | none => rw [q] at e; cases e
  | some p =>
    rw [q] at e
    have m := List.mem_of_find?_eq_some q
    have k := List.find?_some q
    simp only [decide_eq_true_eq] at k
    obtain ⟨p1, p2⟩ := p
    simp only [Option.map_some, Option.some.injEq] at e
    simp only at k
    subst k e
    exact m
section
variable {X : Cx}
theorem kx_inv {K : PySem.W.Frag} {C x : Addr} {h : Heap} {oe : Obj} {vs : Array Value} (c : kxB K C = true) (e : h.get? x = some oe) (ec : oe.cls = .ref C) (ed : oe.dict = none) (ef : oe.data = .fields vs) :
    PySem.W.KitX K (.ref x) (.ref C) (fun h => PySem.W.InstAt h x oe C none) ∧ PySem.W.InstAt h x oe C none := by
  unfold kxB at c
  simp only [Bool.and_eq_true, decide_eq_true_eq] at c
  obtain ⟨c1, c2, c3, c4, c5, c6, c7, c8⟩ := c
  obtain ⟨gt, c3⟩ := Option.isSome_iff_exists.mp c3
  refine ⟨PySem.W.kitx_exc c1 c2 c3 c4 c5 c6 c7 c8, ⟨e, ec, ?_, ?_⟩⟩
  · unfold PySem.W.notCls; rw [ef]
  · rw [ed]; exact True.intro
def rIsx (K : PySem.W.Frag) : List V → Hp → VK → Prop := fun xs H Q => ∃ (a : Addr) (c : V) (x : Str) (u : Value) (b : Bool), xs = [.ref a, c] ∧ ClsV c u ∧ H a = some (exO K x a) ∧ kxB K (He.ga K x) = true ∧ PySem.W.kitOne K (.ref (He.ga K x)) u = some b ∧ Q (.bl b) H
theorem call_isx : CallR X (.builtin "isinstance") (rIsx X.K) := by
  intro pns s σ H xs us Q I r h
  obtain ⟨a, c, x, u, b, rfl, k, ha, kx, e, q⟩ := h
  obtain ⟨u1, u2, rfl, r1, r2⟩ := vals2 r
  have e2 := k.eq r2
  subst e2
  cases r1
  obtain ⟨⟨oe, vs, h1, h2, h3, h4⟩, _, _⟩ := (show ObjOk X.prog X.w H s.heap a (exO X.K x a) from I.hok a _ ha)
  obtain ⟨Z, p⟩ := kx_inv kx h1 h2 h3 h4
  exact PySem.W.kia_one Z I.kIn p e (fun z => nomatch z) fun tk => ⟨.bl b, H, I.tok tk, rfl, q⟩
/-- the classes of the table are as it says -/
def TabOk (K : PySem.W.Frag) (u : Value) (tb : List (Str × Bool)) : Prop := ∀ c b, (c, b) ∈ tb → kxB K (He.ga K c) = true ∧ PySem.W.kitOne K (.ref (He.ga K c)) u = some b
theorem isx_read {g : Cfg} {tb : List (Str × Bool)} {A : EM} {σ : St} {H : Hp} {Q : VK} {c : V} {u : Value} {e : Expr} {te : TE} (hK : X.K = g.K) (cv : ClsV c u) (T : TabOk X.K u tb) (q : tM g (unM (isXF tb) A) σ H Q) :
    tM g A σ H fun v H1 => rIsx X.K [v, c] H1 Q := by
  obtain ⟨m, ds, h, hs, rh, o⟩ := q
  refine ⟨m, ds, h, hs, rh, OutE.toE o fun d h1 v m1 H1 g1 r1 rh1 o1 => ?_⟩
  unfold isXF at o1
  split at o1
  · rename_i x
    cases q : tabF tb x with
    | none => rw [q] at o1; exact o1.elim
    | some b =>
      rw [q] at o1
      obtain ⟨t1, t2⟩ := T x b (tabF_mem q)
      unfold RepV at r1
      obtain ⟨a, rfl, ha⟩ := r1
      exact ⟨a, c, x, u, b, rfl, cv, by rw [hK]; exact ha, t1, t2, o1 _ m1 H1 (.refl _ _) (by unfold RepV; rfl) rh1⟩
  · exact o1.elim
theorem em_isx {g : Cfg} {e : Expr} {A : EM} {C : Str} {p p2 pos : Pos} {tb : List (Str × Bool)} (hK : X.K = g.K) (hg : Gl X "isinstance") (hm : X.mg "isinstance" = none) (hgT : Gl X C) (hmT : X.mg C = some (.ref (He.ga X.K C))) (T : TabOk X.K (.ref (He.ga X.K C)) tb)
    (ha : PE X e (tM g A)) (hd : (C == ("__debug__" : Str)) = false := by decide)
    (he : starEach [e, .Name C p2] X.env = (false, eval e X.env) :: starEach [.Name C p2] X.env := by rfl) (hpl : (backTo pos (starEach [.Name C p2] X.env)).any (·.1) = false := by rfl) : PE X (.Call (.Name "isinstance" p) [e, .Name C p2] [] pos) (tM g (unM (isXF tb) A)) := by
  refine PE.weak (pe_callB call_isx hg hm (by decide +kernel) (pa_cons ha (pa_cons (pe_glob (v := .ref (He.ga X.K C)) hgT hmT rfl hd) pa_nil) he) (by decide) (by decide) he hpl) fun σ H Q q => ?_
  exact isx_read (e := e) (te := tM g A) hK (.own _) T q
theorem em_isxB {g : Cfg} {e : Expr} {A : EM} {T : String} {Tn : Str} {p p2 pos : Pos} {tb : List (Str × Bool)} (hK : X.K = g.K) (hg : Gl X "isinstance") (hm : X.mg "isinstance" = none) (hgT : Gl X Tn) (hmT : X.mg Tn = none) (hv : bootBuiltins Tn = some (.type T)) (TT : TabOk X.K (.type T) tb)
    (ha : PE X e (tM g A)) (hn : Tn ≠ "__name__" := by decide) (hd : (Tn == ("__debug__" : Str)) = false := by decide)
    (he : starEach [e, .Name Tn p2] X.env = (false, eval e X.env) :: starEach [.Name Tn p2] X.env := by rfl) (hpl : (backTo pos (starEach [.Name Tn p2] X.env)).any (·.1) = false := by rfl) : PE X (.Call (.Name "isinstance" p) [e, .Name Tn p2] [] pos) (tM g (unM (isXF tb) A)) := by
  refine PE.weak (pe_callB call_isx hg hm (by decide +kernel) (pa_cons ha (pa_cons (pe_bltn (v := .ty T) hgT hmT hv rfl hn hd) pa_nil) he) (by decide) (by decide) he hpl) fun σ H Q q => ?_
  exact isx_read (e := e) (te := tM g A) hK (.ty T) TT q
end
end DV
namespace DV
open PySem PySem.Spec PyProof.Rows L2
/-- an except suite's context, the exception's object kept as a thing of the heap -/
abbrev suiteX (X : Cx) (a : Addr) (pn : List (Addr × Obj)) : Cx := { X with A := X.A.mark (some (.ref a)), calm := false, pn := pn, xe := fun _ _ => False }
section
variable {X : Cx} {pns : List (Addr × Obj)} {σ : St} {H : Hp} {s : Shared}
/-- a thing that came into the heap is taken up -/
theorem Un.took {fs ex : List Addr} {H0 H1 : Hp} {h0 h1 : Heap} {a : Addr} {o : HO} (u : Un fs ex H0 H1 h0 h1) (n0 : h0.get? a = none) (n1 : H1 a = none) : Un fs ex H0 (upd H1 a o) h0 h1 := by
  have ne : ∀ b v, H1 b = some v → b ≠ a := fun b v e z => by rw [z, n1] at e; cases e
  refine ⟨u.keep, u.slot, fun b v e n hx => ?_, u.there, fun b xs e => ?_, fun b v w e => ?_, fun b ps e => ?_⟩
  · rw [upd_ne fun z => by rw [z, n0] at e; cases e]; exact u.free b v e n hx
  · have := u.tups b xs e; rw [upd_ne (ne _ _ this)]; exact this
  · have := u.frzs b v w e; rw [upd_ne (ne _ _ this)]; exact this
  · obtain ⟨mo, q⟩ := u.tbls b ps e; exact ⟨mo, by rw [upd_ne (ne _ _ q)]; exact q⟩
theorem exO_ok {P : Program} {w : World} {H : Hp} {h : Heap} {K : PySem.W.Frag} {c : Str} {a : Addr} {oe : Obj} {vs : Array Value} (e : h.get? a = some oe) (ec : oe.cls = .ref (He.ga K c)) (ed : oe.dict = none) (ef : oe.data = .fields vs) : ObjOk P w H h a (exO K c a) :=
  ⟨⟨oe, vs, e, ec, ed, ef⟩, ⟨oe, e⟩, fun _ _ ⟨o1, v1, p1, p2⟩ k => ⟨o1, v1, k _ p1, p2⟩⟩
/-- into the suite -/
theorem Inv.caught {a : Addr} {c : Str} {oe : Obj} {vs : Array Value} (I : Inv X pns σ H s) (e : s.heap.get? a = some oe) (ec : oe.cls = .ref (He.ga X.K c)) (ed : oe.dict = none) (ef : oe.data = .fields vs) (na : H a = none) (nL : a ≠ X.env.locals)
    (n0 : X.s_0.heap.get? a = none) (np : ∀ p ∈ X.pn ++ pns, p.1 ≠ a) : Inv (suiteX X a (X.pn ++ pns)) [] σ (upd H a (exO X.K c a)) s := by
  have ncell : ∀ x k, X.env.cells.lookup x = some k → k ≠ a := fun x k q z => by
    obtain ⟨v, hv⟩ := I.cell x k q
    obtain ⟨o, ho, hd⟩ := hv
    rw [z, e] at ho
    cases ho
    rw [ef] at hd
    cases hd
  have neH : ∀ b v, H b = some v → b ≠ a := fun b v q z => by rw [z, na] at q; cases q
  refine ⟨?_, I.os, I.bare, Un.took I.base n0 na, I.loc, I.cell, ?_, fun x k q => ?_, fun p hp => ?_, fun b v q => ?_, I.len⟩
  · have ok := I.ok
    exact ⟨ok.mod, ok.kind, ok.glob, ok.blt, ok.above, ok.inj, ok.has, ok.cab, (fun z => absurd (show false = true from z) Bool.false_ne_true), ok.frames, ok.stk, ok.exf, ok.bs, ok.bsz, ok.noex, ok.exfs, ok.funs, ok.frf⟩
  · show upd H a _ X.env.locals = none
    rw [upd_ne (Ne.symm nL)]; exact I.free
  · show upd H a _ k = none
    rw [upd_ne (ncell x k q)]; exact I.freeC x k q
  · have hp' : p ∈ X.pn ++ pns := by simpa using hp
    obtain ⟨p1, p2, p3⟩ := I.pin p hp'
    exact ⟨p1, by rw [upd_ne (np p hp')]; exact p2, p3⟩
  · by_cases z : b = a
    · subst z
      rw [upd_same] at q
      cases q
      exact exO_ok e ec ed ef
    · rw [upd_ne z] at q
      exact (I.hok b v q).stay (fun _ _ _ r => r) (fun d r => by rw [upd_ne (neH d _ r)]; exact r) fun d xs r => by rw [upd_ne (neH d _ r)]; exact r
/-- out of it -/
theorem Inv.leftX {a : Addr} {pn : List (Addr × Obj)} {H' : Hp} (I : Inv (suiteX X a (X.pn ++ pns)) pn σ H' s) (ok : X.Ok) : Inv X pns σ H' s :=
  ⟨ok, I.os, I.bare, I.base, I.loc, I.cell, I.free, I.freeC, fun p hp => I.pin p (List.mem_append_left _ hp), I.hok, I.len⟩
end
/-- the slot of the clause's name, forgotten -/
def dropE (oi : Option Nat) (N : Ends) : Ends := match oi with
  | some i => { nx := fun σ H => N.nx (σ.set i none) H, rt := N.rt, bk := fun σ H => N.bk (σ.set i none) H, ct := fun σ H => N.ct (σ.set i none) H }
  | none => N
def putE (oi : Option Nat) (σ : St) (a : Addr) : St := match oi with
  | some i => σ.set i (some (.ref a))
  | none => σ
/-- what is wished of an exception of the body -/
def wExc (K : PySem.W.Frag) (C : Value) (oi : Option Nat) (ts : TS) (Wout : WX) (N : Ends) : WX := fun cls d σ H =>
  d = none ∧ ∃ c b, cls = .ref (He.ga K c) ∧ PySem.W.exmOne K cls C = some b ∧ (b = true → ∀ a, H a = none → ts (dropE oi N) (putE oi σ a) (upd H a (exO K c a))) ∧ (b = false → Wout cls d σ H)
section
variable {X : Cx} {C : Value} {cn : Str} {tb : WX → TS} {ts : TS} {Wout : WX} {body suite : List Stmt} {b₀ : Stmt} {np pos pos' : Pos}
/-- what a clause's derivation gives for the exception in the air: the test, the suite or the way on -/
theorem catch_ok {oi : Option Nat} {on : Option Str} (hs : X.stack = X.env :: X.outer) (hf : X.env.frame = some X.env.locals) (hex : X.ex = []) (hN : X.N.Nodup) (hon : match oi, on with
      | some i, some n => X.N[i]? = some n ∧ X.env.kindOf n = some .local
      | none, none => True
      | _, _ => False) (hc : Names X cn C) (tk : Takes X Wout)
    (hsu : ∀ (a : Addr) (pn : List (Addr × Obj)), PSs (suiteX X a pn) (b₀ :: suite) ts) {pns : List (Addr × Obj)} {N : Ends} (ok : X.Ok) {u : Value} {s' : Shared} {xe : Value → Shared → Prop} (xx : XE (X.tr (X.pn ++ pns) xe) (wExc X.K C oi ts Wout N) u s') :
    wpAny (model X.prog X.w) X.A (noteFrame u X.env) (fun _ s₂ => wpAny (model X.prog X.w) X.A (setFlight u none) (fun _ s₃ =>
      wpAny (model X.prog X.w) X.A (handleBy u X.env [.ExceptHandler (some (.Name cn np)) on (b₀ :: suite) pos']) (SP X pns N) X.xe s₃) X.xe s₂) X.xe s' := by
  obtain ⟨a, B, sI, pz, τ, G, cls, d, rfl, J0, nb, up, sky, na, os, ag, dn, c, b, rfl, hb1, hyes, hno⟩ := xx
  have J : Inv X pns τ G sI := Inv.ofTry J0 ok
  have frE : X.A.frames = some (X.env :: X.outer) := by rw [ok.frames, hs]
  have sk : Sky B (X.env :: X.outer) a (Zc (.ref (He.ga X.K c)) d) X.env.locals s'.heap := by rw [← hs]; exact sky
  refine Sky.land Zc.steady frE hf sk fun h3 fl3 up3 => ?_
  have J3 : Inv X pns τ G { s' with heap := h3 } := J.landed nb fl3.1 (up.trans up3) os ag
  obtain ⟨o3, v3, e3, z3, d3⟩ := fl3.there
  have far : a ∉ frs (X.env :: X.outer) := fun hm => by
    obtain ⟨_, o4, e4, no⟩ := fl3.2.2.1.mem hm
    rw [e3] at e4; cases e4
    exact no _ d3
  have nL : a ≠ X.env.locals := fun z => far (List.mem_filterMap.mpr ⟨X.env, by simp, by rw [hf, z]⟩)
  have nF : a ∉ X.fs := fun hm => by
    obtain ⟨v, hv, q⟩ := List.mem_filterMap.mp hm
    exact far (List.mem_filterMap.mpr ⟨v, by simp [hv], q⟩)
  have nI : sI.heap.get? a = none := by
    cases q : sI.heap.get? a with
    | none => rfl
    | some o =>
      have r1 := nb a o q (by rw [hs]; exact far)
      rw [fl3.2.1] at r1; cases r1
  have n0 : X.s_0.heap.get? a = none := by
    cases q : X.s_0.heap.get? a with
    | none => rfl
    | some o =>
      obtain ⟨o', r1⟩ := J.base.there a o q (by rw [hex]; simp)
      rw [nI] at r1; cases r1
  have np' : ∀ p ∈ X.pn ++ pns, p.1 ≠ a := fun p hp z => by
    have := (J.pin p hp).1
    rw [z, nI] at this; cases this
  have S3 := Inv.suite J3 e3 d3 na nL nF
  refine wpAny_handleBy_cons (codeAny_handlers_test ?_) (by intro q; cases q)
  have LT : PySem.W.Looks (model X.prog X.w) h3 (typeOf (.ref a)) (.ref (He.ga X.K c)) := fun _ _ _ _ k q => wpAny_typeOf_ref (k _ _ e3) (by rw [z3.1]; exact q)
  have LM := PySem.W.exm_one (M := model X.prog X.w) J3.kIn LT hb1
  have named : ∀ {Q : Value → Shared → Prop} {E : Value → Shared → Prop}, Q C { s' with heap := h3 } → wpAny (model X.prog X.w) (X.A.mark (some (.ref a))) (eval (.Name cn np) X.env) Q E { s' with heap := h3 } := fun {Q E} q => by
    obtain ⟨g1, g2, g3 | ⟨g3, g4, g5⟩⟩ := hc
    · exact ld_glob (X := X.suite a ((a, o3) :: (X.pn ++ pns))) S3 g1 g3 q g2
    · exact ld_blt (X := X.suite a ((a, o3) :: (X.pn ++ pns))) S3 g1 g3 g4 q g5 g2
  refine named (LM.here ?_)
  cases b with
  | true =>
    have land : ∀ {h4 : Heap}, HandSPX.FlyingZ B (X.env :: X.outer) a (Zc (.ref (He.ga X.K c)) d) h4 → sI.heap.UpToSlots h4 → Inv (suiteX X a (X.pn ++ pns)) [] τ (upd G a (exO X.K c a)) { s' with heap := h4 } := fun {h4} fl4 up4 => by
      have J4 : Inv X pns τ G { s' with heap := h4 } := J.landed nb fl4.1 up4 os ag
      obtain ⟨o4, v4, e4, z4, d4⟩ := fl4.there
      exact Inv.caught J4 e4 z4.1 (by rw [z4.2, dn]) d4 na nL n0 np'
    have wish := hyes rfl a na
    match oi, on, hon with
    | some i, some n, hon =>
      refine codeAny_handlers_suite_as ?_
      refine HandSPX.lands_againZ fl3 fun h4 fl4 up4 => ?_
      refine store_ok (X := suiteX X a (X.pn ++ pns)) (v := .ref a) (land fl4 ((up.trans up3).trans up4)) hN hon.1 (.inl hon.2) rfl (fun s5 S5 => ?_) (.inr hon.2)
      refine wpAny_mono ((hsu a (X.pn ++ pns)).run [] s5 _ _ _ S5 wish) (fun f s6 sp => ?_) (fun _ _ z => z.elim)
      have gone : ∀ {τ6 : St} {G6 : Hp} {Q : Shared → Prop}, Inv (suiteX X a (X.pn ++ pns)) [] τ6 G6 s6 → (∀ s7, Inv X pns (τ6.set i none) G6 s7 → Q s7) →
          wpAny (model X.prog X.w) X.A (do bindName X.env n .none; unbindBehindTheSuite X.env n pos') (fun _ s7 => Q s7) X.xe s6 := fun {τ6 G6 Q} S6 hq => gone_ok (Inv.leftX S6 ok) hN hon.1 hon.2 hq
      cases f with
      | next => obtain ⟨τ6, G6, S6, q6⟩ := sp; exact gone S6 fun s7 J7 => ⟨_, _, J7, q6⟩
      | brk => obtain ⟨τ6, G6, S6, q6⟩ := sp; exact gone S6 fun s7 J7 => ⟨_, _, J7, q6⟩
      | cont => obtain ⟨τ6, G6, S6, q6⟩ := sp; exact gone S6 fun s7 J7 => ⟨_, _, J7, q6⟩
      | ret u => obtain ⟨v6, τ6, G6, S6, r6, q6⟩ := sp; exact gone S6 fun s7 J7 => ⟨_, _, _, J7, r6, q6⟩
    | none, none, _ =>
      refine codeAny_handlers_suite ?_
      refine HandSPX.lands_againZ fl3 fun h4 fl4 up4 => ?_
      refine wpAny_mono ((hsu a (X.pn ++ pns)).run [] _ _ _ _ (land fl4 ((up.trans up3).trans up4)) wish) (fun f s6 sp => ?_) (fun _ _ z => z.elim)
      cases f with
      | next => obtain ⟨τ6, G6, S6, q6⟩ := sp; exact ⟨_, _, Inv.leftX S6 ok, q6⟩
      | brk => obtain ⟨τ6, G6, S6, q6⟩ := sp; exact ⟨_, _, Inv.leftX S6 ok, q6⟩
      | cont => obtain ⟨τ6, G6, S6, q6⟩ := sp; exact ⟨_, _, Inv.leftX S6 ok, q6⟩
      | ret u => obtain ⟨v6, τ6, G6, S6, r6, q6⟩ := sp; exact ⟨_, _, _, Inv.leftX S6 ok, r6, q6⟩
  | false =>
    show wpAny _ X.A (handleBy (.ref a) X.env []) _ _ _
    refine wpAny_handleBy_nil ?_
    obtain ⟨_, _, _, oe, vs, T, _, _, he, _, hd, h1, _⟩ := id fl3
    unfold PySem.passOn
    refine wpAny_bind (wpAny_field he hd h1 ?_)
    rw [if_neg (show ¬ ((Value.ref T == Value.none) = true) from by simp)]
    have on_ : wpAny (model X.prog X.w) X.A (setFlight (.ref a) X.env.frame) (fun _ s4 => wpAny (model X.prog X.w) X.A (throw (.ref a) : Sem Flow) (SP X pns N) X.xe s4) X.xe { s' with heap := h3 } := by
      rw [hf]
      exact HandSPX.setFlight_upZ fl3 fun h4 hh4 up4 => wpAny_throw (tk _ _ ⟨a, B, sI, pns, τ, G, _, d, rfl, J, nb, (up.trans up3).trans up4, .inr (.inr (by rw [hs]; exact hh4)), na, os, ag, hno rfl⟩)
    first
      | exact wpAny_bind (wpAny_pure (wpAny_bind on_))
      | exact wpAny_bind on_
/-- try: body / except C [as n]: suite -/
theorem ps_tryX {oi : Option Nat} {on : Option Str} (hs : X.stack = X.env :: X.outer) (hf : X.env.frame = some X.env.locals) (hex : X.ex = []) (hN : X.N.Nodup) (hon : match oi, on with
      | some i, some n => X.N[i]? = some n ∧ X.env.kindOf n = some .local
      | none, none => True
      | _, _ => False) (hc : Names X cn C) (tk : Takes X Wout)
    (hb : ∀ (W : WX) (pn : List (Addr × Obj)) (xe : Value → Shared → Prop), Takes (X.tr pn xe) W → PassesOwn (model X.prog X.w) X.A X.env xe → PSs (X.tr pn xe) body (tb W))
    (hsu : ∀ (a : Addr) (pn : List (Addr × Obj)), PSs (suiteX X a pn) (b₀ :: suite) ts) :
    PS X (.Try body [.ExceptHandler (some (.Name cn np)) on (b₀ :: suite) pos'] [] [] pos) (fun D σ H => tb (wExc X.K C oi ts Wout D) D σ H) := by
  constructor
  intro pns s σ H D I wish
  have ok := I.ok
  refine wpAny_Try_except ?_
  have bodyOk := hb (wExc X.K C oi ts Wout D) (X.pn ++ pns) (fun e s₁ => wpAny (model X.prog X.w) X.A (noteFrame e X.env) (fun _ s₂ => wpAny (model X.prog X.w) X.A (setFlight e none) (fun _ s₃ =>
    wpAny (model X.prog X.w) X.A (handleBy e X.env [.ExceptHandler (some (.Name cn np)) on (b₀ :: suite) pos']) (SP X pns D) X.xe s₃) X.xe s₂) X.xe s₁) (fun u s' xx => catch_ok hs hf hex hN hon hc tk hsu ok xx) PassesOwn.looking
  refine wpAny_mono (bodyOk.run [] s σ H D (Inv.toTry I _) wish) (fun f s1 r => ?_) (fun e s1 r => r)
  cases f with
  | next => obtain ⟨τ, G, J, q⟩ := r; exact wpAny_execs_nil ⟨τ, G, Inv.ofTry J ok, q⟩
  | brk => obtain ⟨τ, G, J, q⟩ := r; exact ⟨τ, G, Inv.ofTry J ok, q⟩
  | cont => obtain ⟨τ, G, J, q⟩ := r; exact ⟨τ, G, Inv.ofTry J ok, q⟩
  | ret u => obtain ⟨v, τ, G, J, r, q⟩ := r; exact ⟨v, τ, G, Inv.ofTry J ok, r, q⟩
end
def dropS (oi : Option Nat) (ds : Sl) : Sl := match oi with
  | some i => ds.set i none
  | none => ds
/-- the clause's suite: its name goes, no exception leaves it -/
def suiteM (oi : Option Nat) (Hd : SM) : SM := fun ds h => match Hd ds h with
  | .nx ds h => .nx (dropS oi ds) h
  | .rt d h => .rt d h
  | .bk ds h => .bk (dropS oi ds) h
  | .ct ds h => .ct (dropS oi ds) h
  | _ => .bad
def nameM (oi : Option Nat) (c : Str) (ds : Sl) : Sl := match oi with
  | some i => ds.set i (some (.exn c))
  | none => ds
def tryM (oi : Option Nat) (tb : List (Str × Bool)) (B Hd : SM) : SM := fun ds h => match B ds h with
  | .exc c ds h => (match tabF tb c with
    | some true => suiteM oi Hd (nameM oi c ds) h
    | some false => .exc c ds h
    | none => .bad)
  | r => r
/-- the clause's class takes these -/
def ExmOk (K : PySem.W.Frag) (C : Value) (tb : List (Str × Bool)) : Prop := ∀ c b, (c, b) ∈ tb → PySem.W.exmOne K (.ref (He.ga K c)) C = some b
theorem sm_try {X : Cx} {g : Cfg} {C : Value} {cn : Str} {body suite : List Stmt} {b₀ : Stmt} {np pos pos' : Pos} {oi : Option Nat} {on : Option Str} {tbl : List (Str × Bool)} {B Hd : SM} (hs : X.stack = X.env :: X.outer) (hf : X.env.frame = some X.env.locals) (hex : X.ex = []) (hN : X.N.Nodup)
    (hon : match oi, on with
      | some i, some n => X.N[i]? = some n ∧ X.env.kindOf n = some .local
      | none, none => True
      | _, _ => False) (hc : Names X cn C) (tk : Takes X g.W) (hK : X.K = g.K) (T : ExmOk X.K C tbl)
    (hb : ∀ (W : WX) (pn : List (Addr × Obj)) (xe : Value → Shared → Prop), Takes (X.tr pn xe) W → PassesOwn (model X.prog X.w) X.A X.env xe → PSs (X.tr pn xe) body (tS ⟨g.K, W⟩ B))
    (hsu : ∀ (a : Addr) (pn : List (Addr × Obj)), PSs (suiteX X a pn) (b₀ :: suite) (tS ⟨g.K, fun _ _ _ _ => False⟩ Hd)) :
    PS X (.Try body [.ExceptHandler (some (.Name cn np)) on (b₀ :: suite) pos'] [] [] pos) (tS g (tryM oi tbl B Hd)) := by
  refine PS.weak (ps_tryX (tb := fun W => tS ⟨g.K, W⟩ B) (oi := oi) hs hf hex hN hon hc tk hb hsu) fun N σ H ⟨m, ds, h, hs', rh, o⟩ => ⟨m, ds, h, hs', rh, ?_⟩
  unfold tryM at o
  cases q : B ds h with
  | nx ds1 h1 => rw [q] at o; exact o
  | rt d h1 => rw [q] at o; exact o
  | bk ds1 h1 => rw [q] at o; exact o
  | ct ds1 h1 => rw [q] at o; exact o
  | bad => rw [q] at o; exact o
  | exc c ds1 h1 =>
    rw [q] at o
    simp only at o
    intro σ' m' H' gg ss rr
    cases q2 : tabF tbl c with
    | none => rw [q2] at o; exact o.elim
    | some b =>
      rw [q2] at o
      refine ⟨rfl, c, b, by rw [hK], by rw [← hK]; exact T c b (tabF_mem q2), fun eb a na => ?_, fun eb => ?_⟩
      · subst eb
        simp only at o
        have w1 : Grow m' H' m' (upd H' a (exO X.K c a)) := .put na
        refine ⟨m', nameM oi c ds1, h1, ?_, rr.put na, ?_⟩
        · cases oi with
          | none => exact ss.mono w1
          | some i => exact (ss.mono w1).put i (by unfold RepV; exact ⟨a, rfl, by rw [upd_same, hK]⟩)
        · have o' := OutS.mono o (gg.trans w1)
          unfold suiteM at o'
          cases q3 : Hd (nameM oi c ds1) h1 with
          | nx ds2 h2 =>
            rw [q3] at o'
            intro σ2 m2 H2 g2 s2 r2
            cases oi with
            | none => exact o' σ2 m2 H2 g2 s2 r2
            | some i => exact o' _ m2 H2 g2 (s2.forget i none) r2
          | bk ds2 h2 =>
            rw [q3] at o'
            intro σ2 m2 H2 g2 s2 r2
            cases oi with
            | none => exact o' σ2 m2 H2 g2 s2 r2
            | some i => exact o' _ m2 H2 g2 (s2.forget i none) r2
          | ct ds2 h2 =>
            rw [q3] at o'
            intro σ2 m2 H2 g2 s2 r2
            cases oi with
            | none => exact o' σ2 m2 H2 g2 s2 r2
            | some i => exact o' _ m2 H2 g2 (s2.forget i none) r2
          | rt d h2 =>
            rw [q3] at o'
            intro v m2 H2 g2 s2 r2
            cases oi with
            | none => exact o' v m2 H2 g2 s2 r2
            | some i => exact o' v m2 H2 g2 s2 r2
          | exc _ _ _ => rw [q3] at o'; exact o'.elim
          | bad => rw [q3] at o'; exact o'.elim
      · subst eb
        exact o σ' m' H' gg ss rr
end DV
namespace DV
open PySem PySem.Spec PyProof.Rows L2
def putFD (f : Str) (v : D) : List (Str × D) → List (Str × D)
  | [] => [(f, v)]
  | (g, x) :: r => if g = f then (g, v) :: r else (g, x) :: putFD f v r
def fldF (C f : Str) (d : D) (h : Hs) : Res := match d with
  | .loc l => match h[l]? with
    | some (.ins C' fs) => if C' = C then (fs.lookup f).map fun v => (v, h) else none
    | _ => none
  | _ => none
def fldM (C f : Str) (O : EM) : EM := unM (fldF C f) O
def setFldF (C f : Str) (d v : D) (h : Hs) : Option Hs := match d with
  | .loc l => match h[l]? with
    | some (.ins C' fs) => if C' = C ∧ fs.length < 1000 then some (h.set l (.ins C (putFD f v fs))) else none
    | _ => none
  | _ => none
def setFldM (C f : Str) (V O : EM) : SM := fun ds h => lift (V ds h) ds fun v h => lift (O ds h) ds fun o h => match setFldF C f o v h with
  | some h => .nx ds h
  | none => .bad
def methM (C m : Str) (φ : Fm) (O : EM) (As : AM) : EM := fun ds h => (O ds h).bind fun d h => match d with
  | .loc l => (match h[l]? with
    | some (.ins C' fs) => if C' = C ∧ fs.lookup m = none then (As ds h).bind fun xs h => φ (d :: xs) h else .bad
    | _ => .bad)
  | _ => .bad
def newM (C : Str) (φ : Fm) (As : AM) : EM := fun ds h => (As ds h).bind fun xs h => match φ (.loc h.length :: xs) (h ++ [.ins C []]) with
  | .ok .non h' => .ok (.loc h.length) h'
  | _ => .bad
structure InsF (K : PySem.W.Frag) (C : Str) (nos : List Str) : Prop where
  cls : Cls K (He.ga K C)
  no : ∀ f ∈ nos, NoAttr K (He.ga K C) f
/-- a method of the top's class, as its callers see it -/
structure MtAt (P : Program) (w : World) (K : PySem.W.Frag) (mg : Str → Option Value) (base : Heap) (k : Nat) (C m : Str) (ps : List Str) (φ : Fm) : Prop where
  ex : ∃ f fd, Cls K (He.ga K C) ∧ Meth K (He.ga K C) m f ∧ Binds K fd ps [] ∧ FnOk P w K mg base (L2.CX P w) k f fd ps (spM K ps.length φ)
  ar : ∀ xs h, xs.length ≠ ps.length → φ xs h = .bad
/-- .. a class that is made by its __init__ -/
structure MkAt (P : Program) (w : World) (K : PySem.W.Frag) (mg : Str → Option Value) (base : Heap) (k : Nat) (C : Str) (ps : List Str) (φ : Fm) : Prop where
  ex : ∃ f fd, Mk K (He.ga K C) f ∧ mg C = some (.ref (He.ga K C)) ∧ Binds K fd ps [] ∧ FnOk P w K mg base (L2.CX P w) k f fd ps (spM K ps.length φ)
  ar : ∀ xs h, xs.length ≠ ps.length → φ xs h = .bad
section
variable {K : PySem.W.Frag} {m : List Addr} {H : Hp}
theorem lookup_rep {f : Str} : ∀ {fs : List (Str × D)} {xs : List (Str × V)}, fs.map (·.1) = xs.map (·.1) → RepL K m H (fs.map (·.2)) (xs.map (·.2)) →
    (fs.lookup f = none ∧ xs.lookup f = none) ∨ ∃ d v, fs.lookup f = some d ∧ xs.lookup f = some v ∧ RepV K m H d v
  | [], [], _, _ => .inl ⟨rfl, rfl⟩
  | [], _ :: _, e, _ => by cases e
  | _ :: _, [], e, _ => by cases e
  | (g, d) :: fs, (g', v) :: xs, e, r => by
    simp only [List.map_cons, List.cons.injEq] at e
    obtain ⟨e1, e2⟩ := e
    subst e1
    rw [List.map_cons, List.map_cons] at r
    unfold RepL at r
    obtain ⟨x, rest, er, r1, r2⟩ := r
    cases er
    rw [List.lookup_cons, List.lookup_cons]
    cases q : f == g with
    | true => exact .inr ⟨d, v, rfl, rfl, r1⟩
    | false => exact lookup_rep e2 r2
theorem putFD_rep {f : Str} {d : D} {v : V} (rv : RepV K m H d v) : ∀ {fs : List (Str × D)} {xs : List (Str × V)}, fs.map (·.1) = xs.map (·.1) → RepL K m H (fs.map (·.2)) (xs.map (·.2)) →
    (putFD f d fs).map (·.1) = (putF f v xs).map (·.1) ∧ RepL K m H ((putFD f d fs).map (·.2)) ((putF f v xs).map (·.2))
  | [], [], _, _ => ⟨rfl, .cons rv .nil⟩
  | [], _ :: _, e, _ => by cases e
  | _ :: _, [], e, _ => by cases e
  | (g, x) :: fs, (g', y) :: xs, e, r => by
    simp only [List.map_cons, List.cons.injEq] at e
    obtain ⟨e1, e2⟩ := e
    subst e1
    rw [List.map_cons, List.map_cons] at r
    unfold RepL at r
    obtain ⟨x1, rest, er, r1, r2⟩ := r
    cases er
    unfold putFD putF
    by_cases c : g = f
    · rw [if_pos c, if_pos c]
      exact ⟨by simp [e2], .cons rv r2⟩
    · rw [if_neg c, if_neg c]
      obtain ⟨q1, q2⟩ := putFD_rep (f := f) rv e2 r2
      exact ⟨by rw [List.map_cons, List.map_cons, q1], .cons r1 q2⟩
end
section
variable {X : Cx} {g : Cfg} {o e value : Expr} {es : List Expr} {O VV : EM} {As : AM} {C f x : Str} {nos : List Str} {pos pos' p apos : Pos} {k : Nat} {ps : List Str} {φ : Fm}
theorem em_fld (hK : X.K = g.K) (I : InsF X.K C nos) (hf : f ∈ nos) (ho : PE X o (tM g O)) (hb : attributeBase o f X.env (eval o X.env) = eval o X.env := by rfl) : PE X (.Attribute o f pos) (tM g (fldM C f O)) := by
  refine PE.weak (pe_fld ho hb) fun σ H Q ⟨m, ds, h, hs, rh, ou⟩ => ⟨m, ds, h, hs, rh, OutE.toE ou fun d h1 v m1 H1 g1 r1 rh1 o1 => ?_⟩
  unfold fldF at o1
  split at o1
  · rename_i l
    unfold RepV at r1
    obtain ⟨a, ha, rfl⟩ := r1
    split at o1
    · rename_i C' fs e1
      split at o1
      · rename_i c
        subst c
        obtain ⟨dx, xs, hx, kk, rk⟩ := rh1.at_ l a _ ha e1
        rcases lookup_rep (f := f) kk rk with ⟨q, _⟩ | ⟨d, v, q, q2, rv⟩
        · rw [q] at o1; exact o1.elim
        · rw [q] at o1
          exact ⟨a, _, dx, xs, v, rfl, by rw [hK]; exact hx, by have := I.cls; exact this, I.no f hf, q2, o1 v m1 H1 (.refl _ _) rv rh1⟩
      · exact o1.elim
    · exact o1.elim
  · exact o1.elim
theorem sm_fld (hK : X.K = g.K) (I : InsF X.K C nos) (hf : f ∈ nos) (ho : PE X o (tM g O)) (hv : PE X value (tM g VV)) (hsw : swapsWith value (some (.Attribute o f pos')) pos.line X.env = pure false := by rfl) :
    PS X (.Assign [.Attribute o f pos'] value pos) (tS g (setFldM C f VV O)) := by
  refine PS.weak (ps_fld ho hv hsw) fun N σ H ⟨m, ds, h, hs, rh, ou⟩ => ⟨m, ds, h, hs, rh, OutE.toS hs ou fun d1 h1 v1 m1 H1 g1 r1 rh1 o1 => ?_⟩
  refine ⟨m1, ds, h1, hs.mono g1, rh1, OutE.toS (hs.mono g1) o1 fun d2 h2 v2 m2 H2 g2 r2 rh2 o2 => ?_⟩
  unfold setFldF at o2
  split at o2
  · rename_i h3 e2
    split at e2
    · rename_i l
      unfold RepV at r2
      obtain ⟨a, ha, rfl⟩ := r2
      split at e2
      · rename_i C' fs e1
        split at e2
        · rename_i c
          obtain ⟨c1, c2⟩ := c
          subst c1
          cases e2
          obtain ⟨dx, xs, hx, kk, rk⟩ := rh2.at_ l a _ ha e1
          obtain ⟨kk2, rk2⟩ := putFD_rep (f := f) (r1.mono g2) kk rk
          have w : Grow m2 H2 m2 (upd H2 a (.ins (He.ga g.K C') dx (putF f v1 xs))) := .write hx (fun _ z => nomatch z) (fun _ _ z => nomatch z) (fun _ z => nomatch z)
          refine ⟨a, _, dx, xs, rfl, by rw [hK]; exact hx, by have := I.cls; exact this, I.no f hf, ?_, ?_⟩
          · have : fs.length = xs.length := map_len (δ := Unit) kk
            omega
          · rw [hK]
            exact o2 σ m2 _ w (((hs.mono g1).mono g2).mono w) (rh2.write ha hx (fun _ z => nomatch z) (fun _ _ z => nomatch z) (fun _ z => nomatch z) ⟨dx, _, upd_same, kk2, rk2.mono w⟩)
        · cases e2
      · cases e2
    · cases e2
  · exact o2.elim
/-- the receiver -/
theorem meth_read {H : Hp} {σ : St} {Q : VK} {t : List L2.V → Hp → Prop} {m : Str} (q : tM g (methM C m φ O As) σ H Q) :
    tM g O σ H fun x H1 => ∃ a dx fs m1 ds h1 l, x = .ref a ∧ H1 a = some (.ins (He.ga g.K C) dx fs) ∧ fs.lookup m = none ∧ RepS g.K m1 H1 ds σ ∧ RepH g.K m1 H1 h1 ∧ RepV g.K m1 H1 (.loc l) (.ref a) ∧ OutE g m1 H1 σ Q ((As ds h1).bind fun xs h => φ (.loc l :: xs) h) := by
  obtain ⟨mm, ds, h, hs, rh, o⟩ := q
  refine ⟨mm, ds, h, hs, rh, OutE.toE o fun d h1 v m1 H1 g1 r1 rh1 o1 => ?_⟩
  split at o1
  · rename_i l
    have r1' := r1
    unfold RepV at r1
    obtain ⟨a, ha, rfl⟩ := r1
    split at o1
    · rename_i C' fs e1
      split at o1
      · rename_i c
        obtain ⟨c1, c2⟩ := c
        subst c1
        obtain ⟨dx, xs, hx, kk, rk⟩ := rh1.at_ l a _ ha e1
        refine ⟨a, dx, xs, m1, ds, h1, l, rfl, hx, ?_, hs.mono g1, rh1, r1', o1⟩
        rcases lookup_rep (f := m) kk rk with ⟨_, q⟩ | ⟨d, v, q, _, _⟩
        · exact q
        · rw [c2] at q; cases q
      · exact o1.elim
    · exact o1.elim
  · exact o1.elim
theorem fm_call {n : Nat} {m : List Addr} {H : Hp} {h : Hs} {σ : St} {Q : VK} {xs : List D} {vs : List V} (ar : ∀ xs h, xs.length ≠ n → φ xs h = .bad) (rl : RepL g.K m H xs vs) (rh : RepH g.K m H h) (o : OutE g m H σ Q (φ xs h)) : spM g.K n φ vs H Q (WE g.W σ) := by
  by_cases hl : xs.length = n
  · refine ⟨by rw [rl.length]; exact hl, m, xs, h, rl, rh, ?_⟩
    cases e : φ xs h with
    | ok d h2 => rw [e] at o; exact o
    | exc c h2 => rw [e] at o; exact o
    | bad => rw [e] at o; exact o
  · rw [ar _ _ hl] at o; exact o.elim
theorem em_meth {m : Str} {pl : Sem Bool} (F : MtAt X.prog X.w X.K X.mg X.base k C m ps φ) (hK : X.K = g.K) (hr : Room k X.A) (tk : Takes X g.W) (ho : PE X o (tM g O)) (ha : PA X (e :: es) (tA g As))
    (hst : starEach (e :: es) X.env = (false, eval e X.env) :: starEach es X.env := by rfl) (hpl : (backTo pos (starEach es X.env)).any (·.1) = false := by rfl)
    (ht : eval (.Call (.Attribute o m apos) (e :: es) [] pos) X.env = (do
      let ov ← eval o X.env
      standAt apos.atName
      let (f, first) ← holding [ov] (getMethod ov m pl)
      callWith pos f first (backTo pos (starEach (e :: es) X.env)) (backToKw pos (keywordEach [] X.env))) := by rfl) :
    PE X (.Call (.Attribute o m apos) (e :: es) [] pos) (tM g (methM C m φ O As)) := by
  obtain ⟨f, fd, c, hm, hb, G⟩ := F.ex
  refine ⟨fun pns s σ H Q I q => ?_⟩
  refine PySem.W.methodCall_KW (pl := pl) (thn (ho.run pns s σ H _ I (meth_read (t := fun _ _ => True) q)) fun u s1 ⟨x, H1, I1, rx, a, dx, fs, m1, ds, h1, l, ex, ea, lk, hs1, rh1, rv, o1⟩ => ?_) ht
  subst ex
  cases rx
  refine getmeth_ok I1 (by rw [hK]; exact ea) c hm lk ?_
  refine PySem.W.callWith_K (first := [.ref a]) (h₀ := X.base) I.ok.mod.kin hm.kp (thn (ha.run pos pns s1 σ H1 (fun vs H2 => spM g.K ps.length φ (.ref a :: vs) H2 Q (WE g.W σ)) I1 ⟨m1, ds, h1, hs1, rh1, OutA.toE o1 fun xs h2 vs m2 H2 g2 rl rh2 o2 => ?_⟩) fun us s2 ⟨vs, H2, I2, r, q2⟩ => ⟨I2.kIn, ?_⟩) hst hpl
  · exact fm_call F.ar (.cons (rv.mono g2) rl) rh2 o2
  · exact run_fnS (E := WE g.W) (us := .ref a :: us) (vs := .ref a :: vs) G hr hb (passAt tk σ) I2 (.cons rfl r) (by rw [hK]; exact q2)
theorem em_meth0 {m : Str} {pl : Sem Bool} (F : MtAt X.prog X.w X.K X.mg X.base k C m ps φ) (hK : X.K = g.K) (hr : Room k X.A) (tk : Takes X g.W) (ho : PE X o (tM g O))
    (ht : eval (.Call (.Attribute o m apos) [] [] pos) X.env = (do
      let ov ← eval o X.env
      standAt apos.atName
      let (f, first) ← holding [ov] (getMethod ov m pl)
      callWith pos f first (backTo pos (starEach [] X.env)) (backToKw pos (keywordEach [] X.env))) := by rfl) :
    PE X (.Call (.Attribute o m apos) [] [] pos) (tM g (methM C m φ O nilA)) := by
  obtain ⟨f, fd, c, hm, hb, G⟩ := F.ex
  refine ⟨fun pns s σ H Q I q => ?_⟩
  refine PySem.W.methodCall_KW (pl := pl) (thn (ho.run pns s σ H _ I (meth_read (t := fun _ _ => True) q)) fun u s1 ⟨x, H1, I1, rx, a, dx, fs, m1, ds, h1, l, ex, ea, lk, hs1, rh1, rv, o1⟩ => ?_) ht
  subst ex
  cases rx
  refine getmeth_ok I1 (by rw [hK]; exact ea) c hm lk ?_
  have o2 : OutE g m1 H1 σ Q (φ [.loc l] h1) := o1
  exact PySem.W.callWith_K0 (first := [.ref a]) I1.kIn hm.kp (run_fnS (E := WE g.W) (us := [.ref a]) (vs := [.ref a]) G hr hb (passAt tk σ) I1 (.cons rfl .nil) (by rw [hK]; exact fm_call F.ar (.cons rv .nil) rh1 o2))
/-- a new instance -/
theorem new_read {H1 : Hp} {m1 : List Addr} {h1 : Hs} {n : Nat} {xs : List D} {vs : List V} {σ : St} {Q : VK} (ar : ∀ xs h, xs.length ≠ n → φ xs h = .bad) (rl : RepL g.K m1 H1 xs vs) (rh : RepH g.K m1 H1 h1)
    (o : OutE g m1 H1 σ Q (match φ (.loc h1.length :: xs) (h1 ++ [.ins C []]) with | .ok .non h' => .ok (.loc h1.length) h' | _ => .bad)) {x dx : Addr} (hx : H1 x = none) (hdx : H1 dx = none) (ne : dx ≠ x) :
    spM g.K n φ (.ref x :: vs) (upd (upd H1 dx (.own x)) x (.ins (He.ga g.K C) dx [])) (fun v H2 => v = .non ∧ Q (.ref x) H2) E0 := by
  have w1 : Grow m1 H1 m1 (upd H1 dx (.own x)) := .put hdx
  have hx' : upd H1 dx (.own x) x = none := by rw [upd_ne (Ne.symm ne)]; exact hx
  have w2 : Grow m1 (upd H1 dx (.own x)) (m1 ++ [x]) (upd (upd H1 dx (.own x)) x (.ins (He.ga g.K C) dx [])) := .app hx'
  have rh2 : RepH g.K (m1 ++ [x]) (upd (upd H1 dx (.own x)) x (.ins (He.ga g.K C) dx [])) (h1 ++ [.ins C []]) := (rh.put hdx).new hx' ⟨dx, [], upd_same, rfl, by show RepL g.K _ _ [] []; exact .nil⟩
  have rx : RepV g.K (m1 ++ [x]) (upd (upd H1 dx (.own x)) x (.ins (He.ga g.K C) dx [])) (.loc h1.length) (.ref x) := by unfold RepV; exact ⟨x, by rw [← rh.len]; simp, rfl⟩
  by_cases hl : (D.loc h1.length :: xs).length = n
  · have rl2 := RepL.cons rx ((rl.mono w1).mono w2)
    refine ⟨by rw [rl2.length]; exact hl, _, _, _, rl2, rh2, ?_⟩
    cases e : φ (.loc h1.length :: xs) (h1 ++ [.ins C []]) with
    | ok d h2 =>
      rw [e] at o
      cases d with
      | non =>
        intro v m' H' g' rv rh'
        unfold RepV at rv
        exact ⟨rv, o (.ref x) m' H' ((w1.trans w2).trans g') (rx.mono g') rh'⟩
      | _ => exact (show False from o).elim
    | exc c h2 => rw [e] at o; exact o.elim
    | bad => rw [e] at o; exact o.elim
  · rw [ar _ _ hl] at o; exact o.elim
theorem em_new (F : MkAt X.prog X.w X.K X.mg X.base k C ps φ) (hK : X.K = g.K) (hr : Room (k + 1) X.A) (hg : Gl X C) (ha : PA X (e :: es) (tA g As)) (hdb : (C == ("__debug__" : Str)) = false := by decide)
    (he : starEach (e :: es) X.env = (false, eval e X.env) :: starEach es X.env := by rfl) (hpl : (backTo pos (starEach es X.env)).any (·.1) = false := by rfl) : PE X (.Call (.Name C p) (e :: es) [] pos) (tM g (newM C φ As)) := by
  obtain ⟨f, fd, hM, hm, hb, G⟩ := F.ex
  refine PE.weak (pe_make (dvs := []) (E := E0) hM G hr hg hm hb .nil passL ha hdb he hpl) fun σ H Q ⟨m, ds, h, hs, rh, o⟩ => ⟨m, ds, h, hs, rh, OutA.toE o fun xs h1 vs m1 H1 g1 rl rh1 o1 => fun x dx hx hdx ne => ?_⟩
  rw [List.append_nil]
  have := new_read (g := g) (C := C) (φ := φ) F.ar rl rh1 o1 hx hdx ne
  rw [hK]
  exact this
end
end DV
namespace DV
open PySem PySem.Spec PyProof.Rows L2
section
variable {P : Program} {w : World} {K : PySem.W.Frag} {mg : Str → Option Value} {base : Heap} {x qual C m : Str} {params : Arguments} {body : List Stmt} {scope : Scope} {f : Addr} {fd : FuncData} {ps : List Str} {k np nN : Nat} {M : SM}
theorem bad_ok (F : FunD K x qual params body scope [] [] f fd) : FnOk P w K mg base (L2.CX P w) 0 f fd ps (spM K ps.length fun _ _ => .bad) :=
  ⟨fun vs H Q E h => h.1, fun A outer s H args us vs Q E _ _ _ _ h => by obtain ⟨_, m, ds, hs, _, _, o⟩ := h; exact o.elim⟩
theorem mtAt_zero (F : FunD K x qual params body scope [] [] f fd) (c : Cls K (He.ga K C)) (hm : Meth K (He.ga K C) m f) (hb : Binds K fd ps []) : MtAt P w K mg base 0 C m ps fun _ _ => .bad :=
  ⟨⟨f, fd, c, hm, hb, bad_ok F⟩, fun _ _ _ => rfl⟩
theorem mtAt_by (kd : Nrm) (hp : ps.length = np) (c : Cls K (He.ga K C)) (hm : Meth K (He.ga K C) m f) (hb : Binds K fd ps []) (G : FnOk P w K mg base (L2.CX P w) (k + 1) f fd ps (spM K np (kd.f (runM np nN M)))) : MtAt P w K mg base (k + 1) C m ps (kd.f (runM np nN M)) := by
  subst hp
  exact ⟨⟨f, fd, c, hm, hb, G⟩, kd.ar _ _ (runM_ar _ _ _)⟩
theorem mkAt_zero (F : FunD K x qual params body scope [] [] f fd) (c : Mk K (He.ga K C) f) (hm : mg C = some (.ref (He.ga K C))) (hb : Binds K fd ps []) : MkAt P w K mg base 0 C ps fun _ _ => .bad :=
  ⟨⟨f, fd, c, hm, hb, bad_ok F⟩, fun _ _ _ => rfl⟩
theorem mkAt_by (kd : Nrm) (hp : ps.length = np) (c : Mk K (He.ga K C) f) (hm : mg C = some (.ref (He.ga K C))) (hb : Binds K fd ps []) (G : FnOk P w K mg base (L2.CX P w) (k + 1) f fd ps (spM K np (kd.f (runM np nN M)))) : MkAt P w K mg base (k + 1) C ps (kd.f (runM np nN M)) := by
  subst hp
  exact ⟨⟨f, fd, c, hm, hb, G⟩, kd.ar _ _ (runM_ar _ _ _)⟩
/-- a class made at one level less, or not at all -/
def MkN (P : Program) (w : World) (K : PySem.W.Frag) (mg : Str → Option Value) (base : Heap) (n : Nat) (C : Str) (ps : List Str) (φ : Fm) : Prop := (∃ k, n = k + 1 ∧ MkAt P w K mg base k C ps φ) ∨ ∀ xs h, φ xs h = .bad
end
section
variable {X : Cx} {g : Cfg} {e : Expr} {es : List Expr} {As : AM} {C : Str} {pos p : Pos} {n : Nat} {ps : List Str} {φ : Fm}
theorem pe_bad (M : EM) (b : ∀ ds h, M ds h = .bad) : PE X e (tM g M) := ⟨fun pns s σ H Q I ⟨m, ds, h, hs, rh, o⟩ => by rw [b] at o; exact o.elim⟩
theorem em_newN (F : MkN X.prog X.w X.K X.mg X.base n C ps φ) (hK : X.K = g.K) (hr : Room n X.A) (hg : Gl X C) (ha : PA X (e :: es) (tA g As)) (hne : ∀ ds h c h', As ds h ≠ .exc c h') (hdb : (C == ("__debug__" : Str)) = false := by decide)
    (he : starEach (e :: es) X.env = (false, eval e X.env) :: starEach es X.env := by rfl) (hpl : (backTo pos (starEach es X.env)).any (·.1) = false := by rfl) : PE X (.Call (.Name C p) (e :: es) [] pos) (tM g (newM C φ As)) := by
  rcases F with ⟨k, rfl, F⟩ | F
  · exact em_new F hK hr hg ha hdb he hpl
  · refine pe_bad _ fun ds h => ?_
    unfold newM
    cases q : As ds h with
    | ok xs h' => rw [R.bind_ok, F]
    | exc c h' => exact absurd q (hne ds h c h')
    | bad => rfl
end
theorem ne_exc_v (i : Nat) : ∀ ds h c h', consA (vM i) nilA ds h ≠ .exc c h' := fun ds h c h' z => by
  unfold consA vM nilA at z
  rcases q : ds[i]? with _ | _ | d <;> (rw [q] at z; cases z)
section
variable {N : Sl → Hs → Prop} {Q : D → Hs → Prop} {X : QX} {ds : Sl} {h : Hs}
@[simp] theorem wp_fld (C f : Str) (O : EM) : (fldM C f O ds h).wp Q X = (O ds h).wp (fun d h => match fldF C f d h with | some p => Q p.1 p.2 | none => False) X := by
  unfold fldM
  rw [wp_un]
  congr 1; funext d h
  cases fldF C f d h <;> rfl
@[simp] theorem ws_setFld (C f : Str) (V O : EM) : (setFldM C f V O ds h).wp N Q X = (V ds h).wp (fun v h => (O ds h).wp (fun o h => match setFldF C f o v h with | some h => N ds h | none => False) X) X := by
  simp only [setFldM, ws_lift]
  congr 1; funext v h
  congr 1; funext o h
  cases setFldF C f o v h <;> rfl
@[simp] theorem wp_meth (C m : Str) (φ : Fm) (O : EM) (As : AM) : (methM C m φ O As ds h).wp Q X = (O ds h).wp (fun d h => match d with
    | .loc l => (match h[l]? with
      | some (.ins C' fs) => (C' = C ∧ fs.lookup m = none) ∧ (As ds h).wp (fun xs h => (φ (d :: xs) h).wp Q X) X
      | _ => False)
    | _ => False) X := by
  simp only [methM, wp_bind]
  congr 1; funext d h
  cases d with
  | loc l =>
    simp only
    cases h[l]? with
    | none => rfl
    | some o =>
      cases o with
      | ins C' fs =>
        simp only
        by_cases c : C' = C ∧ fs.lookup m = none
        · rw [if_pos c]; simp [c]
        · rw [if_neg c]; simp only [c, false_and]; rfl
      | _ => rfl
  | _ => rfl
@[simp] theorem wp_new_ (C : Str) (φ : Fm) (As : AM) : (newM C φ As ds h).wp Q X = (As ds h).wp (fun xs h => match φ (.loc h.length :: xs) (h ++ [.ins C []]) with
    | .ok .non h' => Q (.loc h.length) h'
    | _ => False) X := by
  simp only [newM, wp_bind]
  congr 1; funext xs h
  cases φ (.loc h.length :: xs) (h ++ [.ins C []]) with
  | ok d h' => cases d <;> rfl
  | exc _ _ => rfl
  | bad => rfl
theorem ws_try (oi : Option Nat) (tb : List (Str × Bool)) (B Hd : SM) : (tryM oi tb B Hd ds h).wp N Q X = (match B ds h with
    | .exc c ds h => (match tabF tb c with
      | some true => (suiteM oi Hd (nameM oi c ds) h).wp N Q X
      | some false => X c h
      | none => False)
    | r => r.wp N Q X) := by
  unfold tryM
  cases B ds h with
  | exc c ds h => simp only; cases tabF tb c with
    | none => rfl
    | some b => cases b <;> rfl
  | _ => rfl
theorem ws_suite (oi : Option Nat) (Hd : SM) (w : (Hd ds h).wp (fun ds h => N (dropS oi ds) h) Q xF) : (suiteM oi Hd ds h).wp N Q X := by
  unfold suiteM
  cases q : Hd ds h with
  | nx a b => rw [q] at w; exact w
  | rt a b => rw [q] at w; exact w
  | exc _ _ _ => rw [q] at w; exact w.elim
  | bk _ _ => rw [q] at w; exact w.elim
  | ct _ _ => rw [q] at w; exact w.elim
  | bad => rw [q] at w; exact w.elim
end
theorem wp_eff {Q : D → Hs → Prop} {X : QX} {φ : Fm} {xs : List D} {h : Hs} (w : (φ xs h).wp (fun d h' => (noloc d = true ∧ ∀ (i : Nat) (o : AO), i < h.length → h'[i]? = some o → h[i]? = some o ∨ nolocO o = true) ∧ Q d (h'.take h.length))
    (fun c h' => (∀ (i : Nat) (o : AO), i < h.length → h'[i]? = some o → h[i]? = some o ∨ nolocO o = true) ∧ X c (h'.take h.length))) : (kEff.f φ xs h).wp Q X := by
  show (nEff φ xs h).wp Q X
  unfold nEff
  cases e : φ xs h with
  | ok d h' =>
    rw [e] at w
    simp only
    rw [if_pos w.1]
    exact w.2
  | exc c h' =>
    rw [e] at w
    simp only
    rw [if_pos w.1]
    exact w.2
  | bad => rw [e] at w; exact w
end DV
namespace DV
open PySem PySem.Spec PyProof.Rows L2
section
variable {h : Hs} {i j : Int} {a b : Str} {xs ys : List D} {l : Nat} {v x : D}
@[simp] theorem mulX_int : mulXF (.int i) (.int j) h = if cMul i j = true then some (.int (i * j), h) else none := rfl
@[simp] theorem mulX_str : mulXF (.str a) (.int j) h = if cB (-1000000 ≤ j ∧ j ≤ 1000000 ∧ a.length ≤ 1000000 ∧ a.length * j.toNat ≤ LIM) = true then some (.str (repS a j.toNat), h) else none := rfl
@[simp] theorem mulX_tup : mulXF (.tup xs) (.int i) h = if -1000 ≤ i ∧ i ≤ 1000 ∧ xs.length ≤ 1000 then some (.tup (List.replicate i.toNat xs).flatten, h) else none := rfl
theorem set_lst {k : Nat} (e : h[l]? = some (.lst xs)) (hk : k < xs.length) : setAF (.loc l) (.int (k : Int)) v h = some (h.set l (.lst (xs.set k v))) := by
  simp [setAF, e, ixN, hk]
@[simp] theorem key_int : keyD (.int i) = some (.inl i) := rfl
@[simp] theorem key_str : keyD (.str a) = some (.inr a) := rfl
end
end DV
namespace DV
open PySem PySem.Spec PyProof.Rows L2
def min2I (i j : Int) : Int := if j < i then j else i
def min3F : List D → Hs → Res
  | [.int i, .int j, .int k], h => some (.int (min2I (min2I i j) k), h)
  | _, _ => none
def blsOf : List D → Option (List Bool)
  | [] => some []
  | .bl s :: r => (blsOf r).map fun ss => s :: ss
  | _ => none
@[simp] theorem blsOf_map (ns : List Bool) : blsOf (ns.map D.bl) = some ns := by
  induction ns with
  | nil => rfl
  | cons n ns ih => rw [List.map_cons]; unfold blsOf; rw [ih]; rfl
def isTF : VF2
  | .bl a, .bl b, h => some (.bl (a == b), h)
  | _, _, _ => none
def isnTF : VF2
  | .bl a, .bl b, h => some (.bl (a != b), h)
  | _, _, _ => none
@[simp] theorem min3_int {h : Hs} {i j k : Int} : min3F [.int i, .int j, .int k] h = some (.int (min2I (min2I i j) k), h) := rfl
@[simp] theorem isT_bl {h : Hs} {a b : Bool} : isTF (.bl a) (.bl b) h = some (.bl (a == b), h) := rfl
@[simp] theorem isnT_bl {h : Hs} {a b : Bool} : isnTF (.bl a) (.bl b) h = some (.bl (a != b), h) := rfl
end DV
namespace DV
open PySem PySem.Spec PyProof.Rows L2
end DV
namespace DV
open PySem PySem.Spec PyProof.Rows L2
noncomputable def m__law_draw : SM :=
  seqM (setM 3 (binM modF (binM mulXF (binM addF (vM 0) (cM (.int 1))) (binM addF (cM (.int 48271)) (binM mulXF (binM mulXF (cM (.int 7919)) (vM 1)) (vM 1)))) (cM (.int 2147483647)))) (retM (binM modF (binM fdivF (binM modF (binM mulXF (vM 3) (vM 3)) (cM (.int 2147483629))) (cM (.int 7))) (vM 2)))
noncomputable def F__law_draw : Nat → Fm
  | 0 => fun _ _ => .bad
  | n + 1 => kPure.f (runM 3 4 (m__law_draw))
noncomputable def m__law_cell_at : SM :=
  seqM (ifM (tbM (binM ltF (vM 1) (argM lenF (consA (vM 0) nilA)))) (retM (binM ixF (vM 0) (vM 1))) (passM)) (retM (cM (.int 0)))
noncomputable def F__law_cell_at : Nat → Fm
  | 0 => fun _ _ => .bad
  | n + 1 => kPure.f (runM 2 2 (m__law_cell_at))
theorem S__law_cell_at (n : Nat) : F__law_cell_at (n + 1) = kPure.f (runM 2 2 (m__law_cell_at)) := rfl
noncomputable def m__law_names (f__law_draw : Fm) : SM :=
  seqM (setM 1 (cM (.str "abcdefghijklmnopqrstuvwxyz0123456789"))) (seqM (setM 2 (binM addF (cM (.int 1)) (callM f__law_draw (consA (vM 0) (consA (cM (.int 57)) (consA (cM (.int 12)) nilA)))))) (seqM (setM 3 (callM f__law_draw (consA (vM 0) (consA (cM (.int 58)) (consA (vM 2) nilA))))) (seqM (setM 4 (argM lstF (consA (cM (.str "")) (consA (cM (.str "")) (consA (cM (.str "")) (consA (cM (.str "")) nilA)))))) (seqM (forM (rngI rng1 (consA (vM 2) nilA)) (nameG 5) (seqM (setM 6 (binM addF (cM (.int 26)) (binM mulXF (cM (.int 10)) (argM intT (consA (binM gtF (vM 5) (cM (.int 0))) nilA))))) (seqM (setM 7 (callM f__law_draw (consA (vM 0) (consA (binM addF (cM (.int 60)) (vM 5)) (consA (vM 6) nilA))))) (seqM (setM 8 (argM intT (consA (binM eqF (vM 5) (vM 3)) nilA))) (forM (rngI rng1 (consA (cM (.int 4)) nilA)) (nameG 9) (seqM (setM 10 (binM ixF (vM 1) (binM modF (binM addF (vM 7) (binM mulXF (vM 9) (vM 8))) (vM 6)))) (setIxM setAF (binM addF (binM ixF (vM 4) (vM 9)) (vM 10)) (vM 4) (vM 9)))))))) (retM (vM 4))))))
noncomputable def F__law_names : Nat → Fm
  | 0 => fun _ _ => .bad
  | n + 1 => kNew.f (runM 1 11 (m__law_names (F__law_draw n)))
theorem S__law_names (n : Nat) : F__law_names (n + 1) = kNew.f (runM 1 11 (m__law_names (F__law_draw n))) := rfl
noncomputable def m__law_leaf (f__law_draw : Fm) : SM :=
  seqM (ifM (tbM (binM ltF (callM f__law_draw (consA (vM 0) (consA (cM (.int 3)) (consA (cM (.int 4)) nilA)))) (vM 3))) (seqM (setM 4 (argM lstF (consA (cM (.int 1)) (consA (cM (.int 2)) (consA (cM (.int 7)) (consA (binM powF (cM (.int 10)) (cM (.int 9))) (consA (binM addF (cM (.int 1)) (binM modF (vM 1) (binM powF (cM (.int 10)) (cM (.int 9))))) nilA))))))) (retM (argM tupF (consA (cM (.str "blank")) (consA (binM ixF (vM 4) (callM f__law_draw (consA (vM 0) (consA (cM (.int 4)) (consA (cM (.int 5)) nilA))))) nilA))))) (passM)) (retM (argM tupF (consA (cM (.str "block")) (consA (binM ixF (vM 2) (callM f__law_draw (consA (vM 0) (consA (cM (.int 2)) (consA (cM (.int 4)) nilA))))) (consA (argM tupF (nilA)) nilA)))))
noncomputable def F__law_leaf : Nat → Fm
  | 0 => fun _ _ => .bad
  | n + 1 => kPure.f (runM 4 5 (m__law_leaf (F__law_draw n)))
theorem S__law_leaf (n : Nat) : F__law_leaf (n + 1) = kPure.f (runM 4 5 (m__law_leaf (F__law_draw n))) := rfl
noncomputable def m__law_tree (f__law_draw f__law_leaf f__law_names : Fm) : SM :=
  seqM (setM 3 (callM f__law_names (consA (vM 1) nilA))) (seqM (setM 4 (argM lstF (consA (argM tupF (consA (binM ixF (vM 3) (cM (.int 0))) (consA (argM lstF (nilA)) nilA))) nilA))) (seqM (forM (valI (slM (vM 0) (noP) (someP (cM (.int 62))))) (nameG 5) (seqM (setM 6 (callM f__law_draw (consA (vM 5) (consA (cM (.int 1)) (consA (cM (.int 8)) nilA))))) (ifM (orM (tbM (binM eqF (argM lenF (consA (binM ixF (binM ixF (vM 4) (unM negF (cM (.int 1)))) (cM (.int 1))) nilA)) (cM (.int 9)))) (andM (tbM (binM eqF (vM 6) (cM (.int 0)))) (tbM (binM gtF (argM lenF (consA (vM 4) nilA)) (cM (.int 1)))))) (seqM (asgM (mtMc ckList popF (vM 4) nilA) (okG (tupG 2 (consG (nameG 7) (consG (nameG 8) (nilG)))))) (seqM (setM 9 (argM tupF (consA (cM (.str "block")) (consA (vM 7) (consA (argM tupT (consA (vM 8) nilA)) nilA))))) (ifM (tbM (binM eqF (vM 4) (argM lstF (nilA)))) (exprM (mtMc ckList appendF (vM 4) (consA (argM tupF (consA (binM ixF (vM 3) (callM f__law_draw (consA (vM 5) (consA (cM (.int 2)) (consA (cM (.int 4)) nilA))))) (consA (argM lstF (consA (vM 9) nilA)) nilA))) nilA))) (exprM (mtMc ckList appendF (binM ixF (binM ixF (vM 4) (unM negF (cM (.int 1)))) (cM (.int 1))) (consA (vM 9) nilA)))))) (ifM (andM (tbM (binM ltF (vM 6) (cM (.int 4)))) (tbM (binM ltF (argM lenF (consA (vM 4) nilA)) (cM (.int 10))))) (exprM (mtMc ckList appendF (vM 4) (consA (argM tupF (consA (binM ixF (vM 3) (callM f__law_draw (consA (vM 5) (consA (cM (.int 2)) (consA (cM (.int 4)) nilA))))) (consA (argM lstF (nilA)) nilA))) nilA))) (forM (rngI rng1 (consA (argM min2F (consA (binM addF (cM (.int 1)) (callM f__law_draw (consA (vM 5) (consA (cM (.int 5)) (consA (cM (.int 3)) nilA))))) (consA (binM subF (cM (.int 9)) (argM lenF (consA (binM ixF (binM ixF (vM 4) (unM negF (cM (.int 1)))) (cM (.int 1))) nilA))) nilA))) nilA)) (nameG 10) (exprM (mtMc ckList appendF (binM ixF (binM ixF (vM 4) (unM negF (cM (.int 1)))) (cM (.int 1))) (consA (callM f__law_leaf (consA (binM addF (vM 5) (vM 10)) (consA (vM 1) (consA (vM 3) (consA (vM 2) nilA))))) nilA)))))))) (seqM (whileM (tbM (binM gtF (argM lenF (consA (vM 4) nilA)) (cM (.int 1)))) (seqM (asgM (mtMc ckList popF (vM 4) nilA) (okG (tupG 2 (consG (nameG 7) (consG (nameG 8) (nilG)))))) (exprM (mtMc ckList appendF (binM ixF (binM ixF (vM 4) (unM negF (cM (.int 1)))) (cM (.int 1))) (consA (argM tupF (consA (cM (.str "block")) (consA (vM 7) (consA (argM tupT (consA (vM 8) nilA)) nilA)))) nilA)))) FUEL) (retM (argM tupF (consA (cM (.str "block")) (consA (binM ixF (binM ixF (vM 4) (cM (.int 0))) (cM (.int 0))) (consA (argM tupT (consA (binM ixF (binM ixF (vM 4) (cM (.int 0))) (cM (.int 1))) nilA)) nilA))))))))
noncomputable def F__law_tree : Nat → Fm
  | 0 => fun _ _ => .bad
  | n + 1 => kPure.f (runM 3 11 (m__law_tree (F__law_draw n) (F__law_leaf n) (F__law_names n)))
theorem S__law_tree (n : Nat) : F__law_tree (n + 1) = kPure.f (runM 3 11 (m__law_tree (F__law_draw n) (F__law_leaf n) (F__law_names n))) := rfl
noncomputable def m_TreeReader___init__ : SM :=
  seqM (setFldM "TreeReader" "text" (vM 1) (vM 0)) (seqM (setFldM "TreeReader" "at" (cM (.int 0)) (vM 0)) (setFldM "TreeReader" "begun" (cM (.int 0)) (vM 0)))
noncomputable def F_TreeReader___init__ : Nat → Fm
  | 0 => fun _ _ => .bad
  | n + 1 => kEff.f (runM 2 2 (m_TreeReader___init__))
theorem S_TreeReader___init__ (n : Nat) : F_TreeReader___init__ (n + 1) = kEff.f (runM 2 2 (m_TreeReader___init__)) := rfl
noncomputable def m_TreeReader_sign : SM :=
  seqM (ifM (tbM (binM ltF (fldM "TreeReader" "at" (vM 0)) (argM lenF (consA (fldM "TreeReader" "text" (vM 0)) nilA)))) (retM (binM ixF (fldM "TreeReader" "text" (vM 0)) (fldM "TreeReader" "at" (vM 0)))) (passM)) (retM (cM (.str "\n")))
noncomputable def F_TreeReader_sign : Nat → Fm
  | 0 => fun _ _ => .bad
  | n + 1 => kPure.f (runM 1 1 (m_TreeReader_sign))
theorem S_TreeReader_sign (n : Nat) : F_TreeReader_sign (n + 1) = kPure.f (runM 1 1 (m_TreeReader_sign)) := rfl
noncomputable def m_TreeReader_read_name (f_TreeReader_sign : Fm) : SM :=
  seqM (setM 1 (fldM "TreeReader" "at" (vM 0))) (seqM (whileM (orM (tbM (binM inF (methM "TreeReader" "sign" f_TreeReader_sign (vM 0) nilA) (cM (.str "abcdefghijklmnopqrstuvwxyz")))) (tbM (binM inF (methM "TreeReader" "sign" f_TreeReader_sign (vM 0) nilA) (cM (.str "0123456789"))))) (seqM (setFldM "TreeReader" "at" (binM addF (fldM "TreeReader" "at" (vM 0)) (cM (.int 1))) (vM 0)) (ifM (tbM (binM gtF (binM subF (fldM "TreeReader" "at" (vM 0)) (vM 1)) (cM (.int 12)))) (raiseM "BadText") (passM))) FUEL) (retM (slM (fldM "TreeReader" "text" (vM 0)) (someP (vM 1)) (someP (fldM "TreeReader" "at" (vM 0))))))
noncomputable def F_TreeReader_read_name : Nat → Fm
  | 0 => fun _ _ => .bad
  | n + 1 => kEff.f (runM 1 2 (m_TreeReader_read_name (F_TreeReader_sign n)))
theorem S_TreeReader_read_name (n : Nat) : F_TreeReader_read_name (n + 1) = kEff.f (runM 1 2 (m_TreeReader_read_name (F_TreeReader_sign n))) := rfl
noncomputable def m_TreeReader_read_number (f_TreeReader_sign : Fm) : SM :=
  seqM (setM 1 (cM (.int 0))) (seqM (whileM (tbM (binM inF (methM "TreeReader" "sign" f_TreeReader_sign (vM 0) nilA) (cM (.str "0123456789")))) (seqM (setM 1 (binM addF (binM mulXF (vM 1) (cM (.int 10))) (mtMc ckStr findF (cM (.str "0123456789")) (consA (methM "TreeReader" "sign" f_TreeReader_sign (vM 0) nilA) nilA)))) (seqM (ifM (orM (tbM (binM eqF (vM 1) (cM (.int 0)))) (tbM (binM gtF (vM 1) (cM (.int 1000000000))))) (raiseM "BadText") (passM)) (setFldM "TreeReader" "at" (binM addF (fldM "TreeReader" "at" (vM 0)) (cM (.int 1))) (vM 0)))) FUEL) (seqM (ifM (tbM (binM eqF (vM 1) (cM (.int 0)))) (raiseM "BadText") (passM)) (retM (vM 1))))
noncomputable def F_TreeReader_read_number : Nat → Fm
  | 0 => fun _ _ => .bad
  | n + 1 => kEff.f (runM 1 2 (m_TreeReader_read_number (F_TreeReader_sign n)))
theorem S_TreeReader_read_number (n : Nat) : F_TreeReader_read_number (n + 1) = kEff.f (runM 1 2 (m_TreeReader_read_number (F_TreeReader_sign n))) := rfl
noncomputable def m_TreeReader_read_parts (f_TreeReader_sign f_TreeReader_read_tree : Fm) : SM :=
  seqM (setFldM "TreeReader" "at" (binM addF (fldM "TreeReader" "at" (vM 0)) (cM (.int 1))) (vM 0)) (seqM (setM 2 (argM lstF (consA (methM "TreeReader" "read_tree" f_TreeReader_read_tree (vM 0) (consA (vM 1) nilA)) nilA))) (seqM (whileM (tbM (binM eqF (methM "TreeReader" "sign" f_TreeReader_sign (vM 0) nilA) (cM (.str ",")))) (seqM (ifM (tbM (binM eqF (argM lenF (consA (vM 2) nilA)) (cM (.int 9)))) (raiseM "BadText") (passM)) (seqM (setFldM "TreeReader" "at" (binM addF (fldM "TreeReader" "at" (vM 0)) (cM (.int 1))) (vM 0)) (exprM (mtMc ckList appendF (vM 2) (consA (methM "TreeReader" "read_tree" f_TreeReader_read_tree (vM 0) (consA (vM 1) nilA)) nilA))))) FUEL) (seqM (ifM (tbM (binM neF (methM "TreeReader" "sign" f_TreeReader_sign (vM 0) nilA) (cM (.str ")")))) (raiseM "BadText") (passM)) (seqM (setFldM "TreeReader" "at" (binM addF (fldM "TreeReader" "at" (vM 0)) (cM (.int 1))) (vM 0)) (retM (argM tupT (consA (vM 2) nilA)))))))
noncomputable def m_TreeReader_read_tree (f_TreeReader_sign f_TreeReader_read_parts f_TreeReader_read_name f_TreeReader_read_number : Fm) : SM :=
  seqM (setM 2 (methM "TreeReader" "sign" f_TreeReader_sign (vM 0) nilA)) (seqM (ifM (andM (tbM (binM neF (vM 2) (cM (.str "?")))) (tbM (binM ninF (vM 2) (cM (.str "abcdefghijklmnopqrstuvwxyz"))))) (raiseM "BadText") (passM)) (seqM (ifM (orM (tbM (binM eqF (fldM "TreeReader" "begun" (vM 0)) (cM (.int 200)))) (tbM (binM gtF (vM 1) (cM (.int 30))))) (raiseM "TooLong") (passM)) (seqM (setFldM "TreeReader" "begun" (binM addF (fldM "TreeReader" "begun" (vM 0)) (cM (.int 1))) (vM 0)) (seqM (ifM (tbM (binM eqF (vM 2) (cM (.str "?")))) (seqM (setFldM "TreeReader" "at" (binM addF (fldM "TreeReader" "at" (vM 0)) (cM (.int 1))) (vM 0)) (retM (argM tupF (consA (cM (.str "blank")) (consA (methM "TreeReader" "read_number" f_TreeReader_read_number (vM 0) nilA) nilA))))) (passM)) (seqM (setM 3 (methM "TreeReader" "read_name" f_TreeReader_read_name (vM 0) nilA)) (seqM (ifM (tbM (binM eqF (methM "TreeReader" "sign" f_TreeReader_sign (vM 0) nilA) (cM (.str "(")))) (retM (argM tupF (consA (cM (.str "block")) (consA (vM 3) (consA (methM "TreeReader" "read_parts" f_TreeReader_read_parts (vM 0) (consA (binM addF (vM 1) (cM (.int 1))) nilA)) nilA))))) (passM)) (retM (argM tupF (consA (cM (.str "block")) (consA (vM 3) (consA (argM tupF (nilA)) nilA)))))))))))
mutual
noncomputable def F_TreeReader_read_parts : Nat → Fm
  | 0 => fun _ _ => .bad
  | n + 1 => kEff.f (runM 2 3 (m_TreeReader_read_parts (F_TreeReader_sign n) (F_TreeReader_read_tree n)))
noncomputable def F_TreeReader_read_tree : Nat → Fm
  | 0 => fun _ _ => .bad
  | n + 1 => kEff.f (runM 2 4 (m_TreeReader_read_tree (F_TreeReader_sign n) (F_TreeReader_read_parts n) (F_TreeReader_read_name n) (F_TreeReader_read_number n)))
end
theorem S_TreeReader_read_parts (n : Nat) : F_TreeReader_read_parts (n + 1) = kEff.f (runM 2 3 (m_TreeReader_read_parts (F_TreeReader_sign n) (F_TreeReader_read_tree n))) := rfl
noncomputable def m_read (f_TreeReader_read_tree f_TreeReader___init__ : Fm) : SM :=
  seqM (setM 1 (newM "TreeReader" f_TreeReader___init__ (consA (vM 0) nilA))) (seqM (setM 2 (methM "TreeReader" "read_tree" f_TreeReader_read_tree (vM 1) (consA (cM (.int 1)) nilA))) (seqM (ifM (tbM (binM ltF (fldM "TreeReader" "at" (vM 1)) (argM lenF (consA (vM 0) nilA)))) (raiseM "BadText") (passM)) (retM (vM 2))))
noncomputable def F_read : Nat → Fm
  | 0 => fun _ _ => .bad
  | n + 1 => kPure.f (runM 1 3 (m_read (F_TreeReader_read_tree n) (F_TreeReader___init__ (n - 1))))
theorem S_read (n : Nat) : F_read (n + 1) = kPure.f (runM 1 3 (m_read (F_TreeReader_read_tree n) (F_TreeReader___init__ (n - 1)))) := rfl
noncomputable def m__law_great (f__law_draw : Fm) : SM :=
  seqM (setM 4 (argM tupF (consA (cM (.str "block")) (consA (binM ixF (vM 1) (cM (.int 0))) (consA (argM tupF (nilA)) nilA))))) (seqM (setM 5 (binM subF (vM 3) (vM 2))) (seqM (forM (rngI rng1 (consA (binM subF (vM 2) (cM (.int 1))) nilA)) (nameG 6) (seqM (setM 7 (argM lstF (nilA))) (seqM (forM (rngI rng1 (consA (argM max2F (consA (cM (.int 0)) (consA (argM min2F (consA (cM (.int 8)) (consA (vM 5) nilA))) nilA))) nilA)) (nameG 8) (exprM (mtMc ckList appendF (vM 7) (consA (argM tupF (consA (cM (.str "blank")) (consA (binM subF (binM powF (cM (.int 10)) (cM (.int 9))) (binM mulXF (vM 8) (callM f__law_draw (consA (vM 0) (consA (cM (.int 49)) (consA (binM powF (cM (.int 10)) (cM (.int 8))) nilA)))))) nilA))) nilA)))) (seqM (setM 5 (binM subF (vM 5) (cM (.int 8)))) (seqM (ifM (tbM (binM eqF (callM f__law_draw (consA (vM 0) (consA (binM addF (cM (.int 20)) (vM 6)) (consA (cM (.int 2)) nilA)))) (cM (.int 1)))) (setM 7 (binM addF (vM 7) (argM lstF (consA (vM 4) nilA)))) (setM 7 (binM addF (argM lstF (consA (vM 4) nilA)) (vM 7)))) (setM 4 (argM tupF (consA (cM (.str "block")) (consA (binM ixF (vM 1) (binM modF (vM 6) (cM (.int 4)))) (consA (argM tupT (consA (vM 7) nilA)) nilA)))))))))) (retM (vM 4))))
noncomputable def F__law_great : Nat → Fm
  | 0 => fun _ _ => .bad
  | n + 1 => kPure.f (runM 4 9 (m__law_great (F__law_draw n)))
theorem S__law_great (n : Nat) : F__law_great (n + 1) = kPure.f (runM 4 9 (m__law_great (F__law_draw n))) := rfl
noncomputable def m__law_text (f__law_text : Fm) : SM :=
  seqM (ifM (tbM (binM eqF (binM ixF (vM 0) (cM (.int 0))) (cM (.str "blank")))) (retM (binM addF (cM (.str "?")) (argM strT (consA (binM ixF (vM 0) (cM (.int 1))) nilA)))) (passM)) (seqM (setM 1 (binM ixF (vM 0) (cM (.int 1)))) (seqM (forM (rngI rng1 (consA (argM lenF (consA (binM ixF (vM 0) (cM (.int 2))) nilA)) nilA)) (nameG 2) (setM 1 (binM addF (binM addF (vM 1) (binM ixF (cM (.str "(,")) (argM intT (consA (binM gtF (vM 2) (cM (.int 0))) nilA)))) (callM f__law_text (consA (binM ixF (binM ixF (vM 0) (cM (.int 2))) (vM 2)) nilA))))) (seqM (ifM (tbM (binM gtF (argM lenF (consA (binM ixF (vM 0) (cM (.int 2))) nilA)) (cM (.int 0)))) (retM (binM addF (vM 1) (cM (.str ")")))) (passM)) (retM (vM 1)))))
noncomputable def F__law_text : Nat → Fm
  | 0 => fun _ _ => .bad
  | n + 1 => kPure.f (runM 1 3 (m__law_text (F__law_text n)))
theorem S__law_text (n : Nat) : F__law_text (n + 1) = kPure.f (runM 1 3 (m__law_text (F__law_text n))) := rfl
noncomputable def m__law_begun : SM :=
  seqM (ifM (tbM (binM ninF (vM 0) (cM (.str "abcdefghijklmnopqrstuvwxyz?")))) (retM (cM (.str "BadText"))) (passM)) (seqM (ifM (orM (tbM (binM eqF (vM 1) (cM (.int 200)))) (tbM (binM geF (argM lenF (consA (vM 2) nilA)) (cM (.int 30))))) (retM (cM (.str "TooLong"))) (passM)) (retM (cM (.str ""))))
noncomputable def F__law_begun : Nat → Fm
  | 0 => fun _ _ => .bad
  | n + 1 => kPure.f (runM 3 3 (m__law_begun))
theorem S__law_begun (n : Nat) : F__law_begun (n + 1) = kPure.f (runM 3 3 (m__law_begun)) := rfl
noncomputable def m__law_behind : SM :=
  seqM (ifM (orM (tbM (binM eqF (vM 1) (argM lstF (nilA)))) (orM (tbM (binM ninF (vM 0) (cM (.str ",)")))) (andM (tbM (binM eqF (vM 0) (cM (.str ",")))) (tbM (binM eqF (binM ixF (vM 1) (unM negF (cM (.int 1)))) (cM (.int 9))))))) (retM (cM (.str "BadText"))) (passM)) (retM (cM (.str "")))
noncomputable def F__law_behind : Nat → Fm
  | 0 => fun _ _ => .bad
  | n + 1 => kPure.f (runM 2 2 (m__law_behind))
theorem S__law_behind (n : Nat) : F__law_behind (n + 1) = kPure.f (runM 2 2 (m__law_behind)) := rfl
noncomputable def m__law_scan (f__law_begun f__law_behind : Fm) : SM :=
  seqM (setM 1 (argM lstF (nilA))) (seqM (setM 2 (cM (.str "begin"))) (seqM (setM 3 (cM (.int 0))) (seqM (setM 4 (cM (.int 0))) (seqM (forM (valI (vM 0)) (nameG 5) (seqM (setM 6 (cM (.str ""))) (seqM (ifM (andM (tbM (binM eqF (vM 2) (cM (.str "name")))) (tbM (binM inF (vM 5) (cM (.str "abcdefghijklmnopqrstuvwxyz0123456789"))))) (seqM (setM 3 (binM addF (vM 3) (cM (.int 1)))) (ifM (tbM (binM gtF (vM 3) (cM (.int 12)))) (retM (cM (.str "BadText"))) (passM))) (ifM (andM (tbM (binM eqF (vM 2) (cM (.str "number")))) (tbM (binM inF (vM 5) (cM (.str "0123456789"))))) (seqM (setM 3 (binM addF (binM mulXF (vM 3) (cM (.int 10))) (mtMc ckStr findF (cM (.str "0123456789")) (consA (vM 5) nilA)))) (ifM (orM (tbM (binM eqF (vM 3) (cM (.int 0)))) (tbM (binM gtF (vM 3) (binM powF (cM (.int 10)) (cM (.int 9)))))) (retM (cM (.str "BadText"))) (passM))) (ifM (tbM (binM eqF (vM 2) (cM (.str "begin")))) (seqM (setM 6 (callM f__law_begun (consA (vM 5) (consA (vM 4) (consA (vM 1) nilA))))) (seqM (setM 4 (binM addF (vM 4) (cM (.int 1)))) (seqM (setM 2 (binM ixF (argM lstF (consA (cM (.str "name")) (consA (cM (.str "number")) nilA))) (argM intT (consA (binM eqF (vM 5) (cM (.str "?"))) nilA)))) (setM 3 (argM intT (consA (binM neF (vM 5) (cM (.str "?"))) nilA)))))) (ifM (andM (tbM (binM eqF (vM 2) (cM (.str "name")))) (tbM (binM eqF (vM 5) (cM (.str "("))))) (seqM (exprM (mtMc ckList appendF (vM 1) (consA (cM (.int 1)) nilA))) (setM 2 (cM (.str "begin")))) (seqM (setM 6 (callM f__law_behind (consA (vM 5) (consA (vM 1) nilA)))) (ifM (andM (tbM (binM eqF (vM 6) (cM (.str "")))) (andM (tbM (binM gtF (vM 3) (cM (.int 0)))) (tbM (binM eqF (vM 5) (cM (.str ",")))))) (seqM (setIxM setAF (binM addF (binM ixF (vM 1) (unM negF (cM (.int 1)))) (cM (.int 1))) (vM 1) (unM negF (cM (.int 1)))) (setM 2 (cM (.str "begin")))) (ifM (andM (tbM (binM eqF (vM 6) (cM (.str "")))) (tbM (binM gtF (vM 3) (cM (.int 0))))) (seqM (exprM (mtMc ckList popF (vM 1) nilA)) (setM 2 (cM (.str "end")))) (passM)))))))) (ifM (orM (tbM (binM neF (vM 6) (cM (.str "")))) (andM (tbM (binM eqF (vM 2) (cM (.str "number")))) (andM (tbM (binM eqF (vM 3) (cM (.int 0)))) (tbM (binM neF (vM 5) (cM (.str "?"))))))) (retM (binM ixF (argM lstF (consA (vM 6) (consA (cM (.str "BadText")) nilA))) (argM intT (consA (binM eqF (vM 6) (cM (.str ""))) nilA)))) (passM))))) (retM (binM ixF (argM lstF (consA (cM (.str "")) (consA (cM (.str "BadText")) nilA))) (argM intT (consA (orV (binM neF (vM 1) (argM lstF (nilA))) (orV (binM eqF (vM 2) (cM (.str "begin"))) (binM eqF (vM 3) (cM (.int 0))))) nilA))))))))
noncomputable def F__law_scan : Nat → Fm
  | 0 => fun _ _ => .bad
  | n + 1 => kPure.f (runM 1 7 (m__law_scan (F__law_begun n) (F__law_behind n)))
theorem S__law_scan (n : Nat) : F__law_scan (n + 1) = kPure.f (runM 1 7 (m__law_scan (F__law_begun n) (F__law_behind n))) := rfl
noncomputable def m__law_spoiled (f__law_draw : Fm) : SM :=
  seqM (setM 3 (callM f__law_draw (consA (vM 2) (consA (cM (.int 54)) (consA (cM (.int 4)) nilA))))) (seqM (forM (valI (slM (vM 1) (noP) (someP (vM 3)))) (nameG 4) (seqM (setM 5 (cM (.str "abz?0123456789(),(),,)) !\"#$&'*+-./:;<=>@AZ[\\]^_`{|}~"))) (seqM (setM 6 (binM ixF (vM 5) (callM f__law_draw (consA (vM 4) (consA (cM (.int 40)) (consA (argM lenF (consA (vM 5) nilA)) nilA)))))) (seqM (setM 7 (callM f__law_draw (consA (vM 4) (consA (cM (.int 41)) (consA (binM addF (argM lenF (consA (vM 0) nilA)) (cM (.int 1))) nilA))))) (seqM (setM 8 (callM f__law_draw (consA (vM 4) (consA (cM (.int 42)) (consA (cM (.int 3)) nilA))))) (ifM (tbM (binM eqF (vM 8) (cM (.int 0)))) (setM 0 (binM addF (binM addF (slM (vM 0) (noP) (someP (vM 7))) (vM 6)) (slM (vM 0) (someP (vM 7)) (noP)))) (ifM (tbM (binM eqF (vM 8) (cM (.int 1)))) (setM 0 (binM addF (slM (vM 0) (noP) (someP (vM 7))) (slM (vM 0) (someP (binM addF (vM 7) (cM (.int 1)))) (noP)))) (setM 0 (binM addF (binM addF (slM (vM 0) (noP) (someP (vM 7))) (vM 6)) (slM (vM 0) (someP (binM addF (vM 7) (cM (.int 1)))) (noP))))))))))) (retM (vM 0)))
noncomputable def F__law_spoiled : Nat → Fm
  | 0 => fun _ _ => .bad
  | n + 1 => kPure.f (runM 3 9 (m__law_spoiled (F__law_draw n)))
theorem S__law_spoiled (n : Nat) : F__law_spoiled (n + 1) = kPure.f (runM 3 9 (m__law_spoiled (F__law_draw n))) := rfl
noncomputable def m__law_odd_leaf (f__law_draw : Fm) : SM :=
  seqM (setM 2 (callM f__law_draw (consA (vM 1) (consA (cM (.int 43)) (consA (binM powF (cM (.int 10)) (cM (.int 6))) nilA))))) (seqM (ifM (tbM (binM eqF (callM f__law_draw (consA (vM 1) (consA (cM (.int 46)) (consA (cM (.int 8)) nilA)))) (cM (.int 1)))) (seqM (setM 3 (binM addF (cM (.int 29)) (binM modF (vM 2) (cM (.int 600))))) (retM (binM addF (binM addF (binM mulXF (cM (.str "a(")) (vM 3)) (cM (.str "b"))) (binM mulXF (cM (.str ")")) (binM subF (vM 3) (binM modF (binM fdivF (vM 2) (cM (.int 600))) (cM (.int 2)))))))) (passM)) (seqM (setM 4 (argM lstF (consA (binM addF (cM (.str "?0")) (argM strT (consA (vM 2) nilA))) (consA (binM addF (cM (.str "?")) (argM strT (consA (binM addF (binM addF (binM powF (cM (.int 10)) (cM (.int 9))) (cM (.int 1))) (vM 2)) nilA))) (consA (binM addF (cM (.str "?")) (argM strT (consA (binM subF (binM powF (cM (.int 10)) (cM (.int 9))) (vM 2)) nilA))) (consA (binM addF (binM mulXF (cM (.str "a")) (cM (.int 12))) (binM ixF (cM (.str "b7")) (binM modF (vM 2) (cM (.int 2))))) nilA)))))) (seqM (setM 4 (binM addF (vM 4) (argM lstF (consA (binM addF (binM mulXF (cM (.str "a")) (cM (.int 11))) (binM ixF (cM (.str "b7")) (binM modF (vM 2) (cM (.int 2))))) (consA (cM (.str "b,b,b,b,b,b,b,b,b")) (consA (cM (.str "a()")) (consA (cM (.str "?")) (consA (cM (.str "b(c")) (consA (cM (.str "?1(b)")) (consA (cM (.str "b(c,)")) (consA (cM (.str "7")) nilA))))))))))) (seqM (setM 5 (binM addF (argM lstF (consA (cM (.int 0)) nilA)) (lcM [6] (rngI rng1 (consA (argM lenF (consA (vM 0) nilA)) nilA)) (nameG 6) (tbM (binM inF (binM ixF (vM 0) (vM 6)) (cM (.str "(,")))) (binM addF (vM 6) (cM (.int 1)))))) (seqM (setM 7 (binM ixF (vM 5) (callM f__law_draw (consA (vM 1) (consA (cM (.int 44)) (consA (argM lenF (consA (vM 5) nilA)) nilA)))))) (retM (binM addF (binM addF (binM addF (slM (vM 0) (noP) (someP (vM 7))) (binM ixF (vM 4) (callM f__law_draw (consA (vM 1) (consA (cM (.int 45)) (consA (argM lenF (consA (vM 4) nilA)) nilA)))))) (cM (.str ","))) (slM (vM 0) (someP (vM 7)) (noP)))))))))
noncomputable def F__law_odd_leaf : Nat → Fm
  | 0 => fun _ _ => .bad
  | n + 1 => kPure.f (runM 2 8 (m__law_odd_leaf (F__law_draw n)))
theorem S__law_odd_leaf (n : Nat) : F__law_odd_leaf (n + 1) = kPure.f (runM 2 8 (m__law_odd_leaf (F__law_draw n))) := rfl
noncomputable def m__law_is_tree (f__law_is_tree : Fm) : SM :=
  seqM (ifM (orM (notM (truM (unM (isF "tuple") (vM 0)))) (tbM (binM ltF (argM lenF (consA (vM 0) nilA)) (cM (.int 2))))) (retM (cM (.bl false))) (passM)) (seqM (ifM (tbM (binM eqF (binM ixF (vM 0) (cM (.int 0))) (cM (.str "blank")))) (retM (andV (binM eqF (argM lenF (consA (vM 0) nilA)) (cM (.int 2))) (andV (unM (isF "int") (binM ixF (vM 0) (cM (.int 1)))) (notV (unM (isF "bool") (binM ixF (vM 0) (cM (.int 1)))))))) (passM)) (seqM (ifM (orM (tbM (binM neF (binM ixF (vM 0) (cM (.int 0))) (cM (.str "block")))) (orM (tbM (binM neF (argM lenF (consA (vM 0) nilA)) (cM (.int 3)))) (orM (notM (truM (unM (isF "str") (binM ixF (vM 0) (cM (.int 1)))))) (notM (truM (unM (isF "tuple") (binM ixF (vM 0) (cM (.int 2))))))))) (retM (cM (.bl false))) (passM)) (retM (binM eqF (lcM [1] (valI (binM ixF (vM 0) (cM (.int 2)))) (nameG 1) (notM (truM (callM f__law_is_tree (consA (vM 1) nilA)))) (vM 1)) (argM lstF (nilA))))))
noncomputable def F__law_is_tree : Nat → Fm
  | 0 => fun _ _ => .bad
  | n + 1 => kPure.f (runM 1 2 (m__law_is_tree (F__law_is_tree n)))
theorem S__law_is_tree (n : Nat) : F__law_is_tree (n + 1) = kPure.f (runM 1 2 (m__law_is_tree (F__law_is_tree n))) := rfl
end DV
namespace DV
open PySem PySem.Spec PyProof.Rows L2
def drawI (cell k many : Int) : Int := (cell + 1) * (48271 + 7919 * k * k) % 2147483647 * ((cell + 1) * (48271 + 7919 * k * k) % 2147483647) % 2147483629 / 7 % many
theorem drawI_lt (cell k : Int) {many : Int} (h : 0 < many) : 0 ≤ drawI cell k many ∧ drawI cell k many < many := ⟨Int.emod_nonneg _ (by omega), Int.emod_lt_of_pos _ h⟩
theorem draw_ok (n : Nat) (h : Hs) (cell k many : Int) (hm : 0 < many) (hk : -1000000 ≤ k ∧ k ≤ 1000000) : F__law_draw (n + 1) [.int cell, .int k, .int many] h = .ok (.int (drawI cell k many)) h := by
  have sq : k * k ≤ 1000000000000 ∧ 0 ≤ k * k := by
    constructor
    · have h1 : 0 ≤ (1000000 - k) * (1000000 + k) := Int.mul_nonneg (by omega) (by omega)
      have h2 : (1000000 - k) * (1000000 + k) = 1000000000000 - k * k := by rw [Int.sub_mul, Int.mul_add, Int.mul_add]; omega
      omega
    · rcases Int.le_total 0 k with h | h
      · exact Int.mul_nonneg h h
      · exact Int.mul_nonneg_of_nonpos_of_nonpos h h
  have b0 : ∀ j, cMul 7919 j = true := fun j => cMul_l (by decide) (by decide)
  have b1 : ∀ j, cMul (7919 * k) j = true := fun j => cMul_l (by omega) (by omega)
  have b2 : ∀ i, cMul i (48271 + 7919 * k * k) = true := fun i => cMul_r (by rw [Int.mul_assoc]; omega) (by rw [Int.mul_assoc]; omega)
  have b3 := Int.emod_nonneg ((cell + 1) * (48271 + 7919 * k * k)) (show (2147483647 : Int) ≠ 0 by decide)
  have b4 := Int.emod_lt_of_pos ((cell + 1) * (48271 + 7919 * k * k)) (show (0 : Int) < 2147483647 by decide)
  have b5 : ∀ j, cMul ((cell + 1) * (48271 + 7919 * k * k) % 2147483647) j = true := fun j => cMul_l (by omega) (by omega)
  have m1 : ∀ i, cMod i 2147483647 = true := fun i => cMod_of (by decide)
  have m2 : ∀ i, cMod i 2147483629 = true := fun i => cMod_of (by decide)
  have m3 : ∀ i, cDiv i 7 = true := fun i => cDiv_of (by decide) (by decide)
  have m4 : ∀ i, cMod i many = true := fun i => cMod_of hm
  refine R.wp_eq.mp ?_
  simp [F__law_draw, wp_pure, wp_run, m__law_draw, startD, wp_v, drawI, b0, b1, b2, b5, m1, m2, m3, m4, noloc]
/-- a text's signs in the alphabets -/
abbrev smallS : Str := "abcdefghijklmnopqrstuvwxyz"
abbrev figS : Str := "0123456789"
def okSign (c : Nat) : Bool := decide (c ∈ smallS.cps) || decide (c ∈ figS.cps)
def nameL : List Nat → Bool
  | [] => false
  | c :: r => decide (c ∈ smallS.cps) && r.all okSign
def nameB (s : Str) : Bool := decide (1 ≤ s.length ∧ s.length ≤ 12) && nameL s.cps.toList
theorem str_len (s : Str) : s.length = s.cps.toList.length := by rw [Array.length_toList]; rfl
theorem hL : LIM = 16777216 := rfl
/-- the sign at a place fits -/
def okAt (i c : Nat) : Bool := decide (c ∈ smallS.cps) || (decide (i ≠ 0) && decide (c ∈ figS.cps))
theorem nameL_iff (l : List Nat) : nameL l = true ↔ l ≠ [] ∧ ∀ i c, l[i]? = some c → okAt i c = true := by
  cases l with
  | nil => simp [nameL]
  | cons a r =>
    simp only [nameL, Bool.and_eq_true, decide_eq_true_eq, List.all_eq_true, ne_eq, reduceCtorEq, not_false_eq_true, true_and]
    constructor
    · rintro ⟨h1, h2⟩ i c e
      cases i with
      | zero => simp at e; subst e; simp [okAt, h1]
      | succ i =>
        simp at e
        have := h2 c (List.mem_of_getElem? e)
        simpa [okAt, okSign] using this
    · intro h
      refine ⟨by simpa [okAt] using h 0 a rfl, fun c hc => ?_⟩
      obtain ⟨i, hi⟩ := List.mem_iff_getElem?.mp hc
      have := h (i + 1) c (by simpa using hi)
      simpa [okAt, okSign] using this
theorem app_len (a b : Str) : (a ++ b).length = a.length + b.length := by
  show (a.cps ++ b.cps).size = _
  rw [Array.size_append]; rfl
theorem cut_len (s : Str) (lo hi : Option Int) : (cutS s lo hi).length ≤ s.length := by
  show Array.size (List.toArray _) ≤ s.cps.size
  rw [List.size_toArray, List.length_take, List.length_drop, Array.length_toList]
  omega
theorem rep_size (s : Str) (k : Nat) : (repS s k).length = s.length * k := by
  show Array.size (List.toArray _) = _
  rw [List.size_toArray, rep_len, ← str_len]
end DV
namespace DV
open PySem PySem.Spec PyProof.Rows L2
inductive Tr where
  | bl (k : Int)
  | bk (s : Str) (ps : List Tr)
def Tr.parts : Tr → List Tr
  | .bl _ => []
  | .bk _ ps => ps
mutual
def tD : Tr → D
  | .bl k => .tup [.str "blank", .int k]
  | .bk s ps => .tup [.str "block", .str s, .tup (tDs ps)]
def tDs : List Tr → List D
  | [] => []
  | t :: ts => tD t :: tDs ts
end
theorem tDs_map : ∀ ts : List Tr, tDs ts = ts.map tD
  | [] => by simp [tDs]
  | t :: ts => by rw [tDs, tDs_map ts]; rfl
@[simp] theorem tDs_len (ts : List Tr) : (tDs ts).length = ts.length := by rw [tDs_map, List.length_map]
theorem tDs_get {ts : List Tr} {i : Nat} {d : D} (e : (tDs ts)[i]? = some d) : ∃ t, ts[i]? = some t ∧ d = tD t := by
  rw [tDs_map, List.getElem?_map] at e
  cases q : ts[i]? with
  | none => rw [q] at e; cases e
  | some t => rw [q] at e; cases e; exact ⟨t, rfl, rfl⟩
mutual
theorem noloc_tD : ∀ t : Tr, noloc (tD t) = true
  | .bl k => rfl
  | .bk s ps => by simp [tD, noloc, nolocL, noloc_tDs ps]
theorem noloc_tDs : ∀ ts : List Tr, nolocL (tDs ts) = true
  | [] => by simp [tDs, nolocL]
  | t :: ts => by simp [tDs, nolocL, noloc_tD t, noloc_tDs ts]
end
mutual
def Tr.knots : Tr → Nat
  | .bl _ => 1
  | .bk _ ps => 1 + knotsL ps
def knotsL : List Tr → Nat
  | [] => 0
  | t :: ts => t.knots + knotsL ts
end
mutual
def Tr.depth : Tr → Nat
  | .bl _ => 1
  | .bk _ ps => 1 + depthL ps
def depthL : List Tr → Nat
  | [] => 0
  | t :: ts => max t.depth (depthL ts)
end
theorem knots_parts (t : Tr) : t.knots = 1 + knotsL t.parts := by cases t <;> simp [Tr.knots, Tr.parts, knotsL]
theorem depth_parts (t : Tr) : t.depth = 1 + depthL t.parts := by cases t <;> simp [Tr.depth, Tr.parts, depthL]
theorem knots_pos (t : Tr) : 1 ≤ t.knots := by rw [knots_parts]; omega
theorem depth_mem {t : Tr} : ∀ {ts : List Tr}, t ∈ ts → t.depth ≤ depthL ts
  | [], h => nomatch h
  | u :: ts, h => by
    rw [depthL]
    rcases List.mem_cons.mp h with rfl | h
    · exact Nat.le_max_left _ _
    · exact Nat.le_trans (depth_mem h) (Nat.le_max_right _ _)
theorem knots_mem {t : Tr} : ∀ {ts : List Tr}, t ∈ ts → t.knots ≤ knotsL ts
  | [], h => nomatch h
  | u :: ts, h => by
    rw [knotsL]
    rcases List.mem_cons.mp h with rfl | h
    · omega
    · have := knots_mem h; omega
theorem knotsL_sum : ∀ ts : List Tr, knotsL ts = (ts.map Tr.knots).sum
  | [] => rfl
  | t :: ts => by rw [knotsL, knotsL_sum ts]; simp
theorem len_knotsL : ∀ ts : List Tr, ts.length ≤ knotsL ts
  | [] => by simp
  | t :: ts => by rw [knotsL]; have := len_knotsL ts; have := knots_pos t; simp; omega
@[simp] theorem ok_block : PyData.strOk "block" = true := by decide +kernel
@[simp] theorem ok_blank : PyData.strOk "blank" = true := by decide +kernel
theorem bk_bl : ¬ ("block" : Str) = "blank" := by decide +kernel
theorem bl_bk : ¬ ("blank" : Str) = "block" := by decide +kernel
@[simp] theorem eq_bl1 {h : Hs} : eqF (.str "blank") (.str "blank") h = some (.bl true, h) := by rw [eq_strs ok_blank ok_blank]; simp
@[simp] theorem eq_bl2 {h : Hs} : eqF (.str "block") (.str "blank") h = some (.bl false, h) := by rw [eq_strs ok_block ok_blank, decide_eq_false bk_bl]
@[simp] theorem eq_bk1 {h : Hs} : eqF (.str "block") (.str "block") h = some (.bl true, h) := by rw [eq_strs ok_block ok_block]; simp
@[simp] theorem eq_bk2 {h : Hs} : eqF (.str "blank") (.str "block") h = some (.bl false, h) := by rw [eq_strs ok_blank ok_block, decide_eq_false bl_bk]
@[simp] theorem at0 {α : Type} {a : α} {l : List α} : atI (a :: l) 0 = some a := by
  have : (0 : Int) = ((0 : Nat) : Int) := rfl
  rw [this, atI_nat (by simp)]; rfl
@[simp] theorem at1 {α : Type} {a b : α} {l : List α} : atI (a :: b :: l) 1 = some b := by
  have : (1 : Int) = ((1 : Nat) : Int) := rfl
  rw [this, atI_nat (by simp)]; rfl
@[simp] theorem at2 {α : Type} {a b c : α} {l : List α} : atI (a :: b :: c :: l) 2 = some c := by
  have : (2 : Int) = ((2 : Nat) : Int) := rfl
  rw [this, atI_nat (by simp)]; rfl
end DV
namespace DV
open PySem PySem.Spec PyProof.Rows L2
/-- so many signs of a name -/
def NamePre (j : Nat) (s : Str) : Prop := s.length = j ∧ ∀ i c, s.cps.toList[i]? = some c → okAt i c = true
abbrev S36 : Str := "abcdefghijklmnopqrstuvwxyz0123456789"
theorem S36_len : S36.cps.toList.length = 36 := by decide +kernel
theorem S36_ok : ∀ (k : Nat) (c : Nat), S36.cps.toList[k]? = some c → decide (c ∈ smallS.cps) = decide (k < 26) ∧ (decide (c ∈ smallS.cps) || decide (c ∈ figS.cps)) = true := by
  intro k c e
  have hk : k < 36 := by have := (List.getElem?_eq_some_iff.mp e).1; rw [S36_len] at this; exact this
  have all : ∀ k : Fin 36, ∀ c, S36.cps.toList[k.val]? = some c → decide (c ∈ smallS.cps) = decide (k.val < 26) ∧ (decide (c ∈ smallS.cps) || decide (c ∈ figS.cps)) = true := by
    have q : (List.finRange 36).all (fun k => match S36.cps.toList[k.val]? with | some c => (decide (c ∈ smallS.cps) == decide (k.val < 26)) && (decide (c ∈ smallS.cps) || decide (c ∈ figS.cps)) | none => true) = true := by decide +kernel
    intro k c e
    have := List.all_eq_true.mp q k (List.mem_finRange k)
    rw [e] at this
    simp only [Bool.and_eq_true, beq_iff_eq] at this
    exact this
  exact all ⟨k, hk⟩ c e
theorem namePre_nil : NamePre 0 "" := ⟨rfl, fun i c e => by have : ([] : List Nat)[i]? = some c := e; simp at this⟩
theorem namePre_snoc {j : Nat} {s : Str} {c : Nat} (h : NamePre j s) (hc : okAt j c = true) : NamePre (j + 1) (s ++ ⟨#[c]⟩) := by
  refine ⟨by rw [app_len, h.1]; rfl, fun i d e => ?_⟩
  have e2 : (s ++ (⟨#[c]⟩ : Str)).cps.toList = s.cps.toList ++ [c] := by
    show (s.cps ++ #[c]).toList = _
    simp
  rw [e2] at e
  have hl : s.cps.toList.length = j := by rw [← str_len]; exact h.1
  by_cases q : i < j
  · rw [List.getElem?_append_left (by omega)] at e
    exact h.2 i d e
  · have : i = j := by
      have := (List.getElem?_eq_some_iff.mp e).1
      rw [List.length_append, hl, List.length_singleton] at this; omega
    subst this
    rw [List.getElem?_append_right (by omega), hl] at e
    simp at e
    subst e
    exact hc
theorem namePre_name {j : Nat} {s : Str} (h : NamePre j s) (h1 : 1 ≤ j) (h2 : j ≤ 12) : nameB s = true := by
  unfold nameB
  rw [h.1, decide_eq_true ⟨h1, h2⟩, Bool.true_and, nameL_iff]
  refine ⟨fun z => ?_, h.2⟩
  have := str_len s
  rw [z, h.1] at this
  simp at this; omega
theorem sign_36 {j : Nat} {c : Nat} {k many : Int} (hm : many = if j = 0 then 26 else 36) (h0 : 0 ≤ k) (h1 : k < many) (e : atI S36.cps.toList k = some c) : okAt j c = true := by
  obtain ⟨n, rfl⟩ := Int.eq_ofNat_of_zero_le h0
  have hn : n < S36.cps.toList.length := by rw [S36_len]; split at hm <;> omega
  rw [atI_nat hn] at e
  obtain ⟨q1, q2⟩ := S36_ok n c e
  unfold okAt
  by_cases z : j = 0
  · rw [if_pos z] at hm
    rw [q1, decide_eq_true (show n < 26 by omega)]
    rfl
  · rw [decide_eq_true z, Bool.true_and]
    exact q2
/-- four texts, those ahead of k with one sign more -/
def Names4 (j k : Nat) (ns : List Str) : Prop := ns.length = 4 ∧ ∀ i s, ns[i]? = some s → NamePre (if i < k then j + 1 else j) s
theorem names_set {j k : Nat} {ns : List Str} {s : Str} {c : Nat} (h : Names4 j k ns) (hs : ns[k]? = some s) (hc : okAt j c = true) : Names4 j (k + 1) (ns.set k (s ++ ⟨#[c]⟩)) := by
  refine ⟨by rw [List.length_set]; exact h.1, fun i t e => ?_⟩
  have hk := (List.getElem?_eq_some_iff.mp hs).1
  by_cases z : i = k
  · subst z
    rw [List.getElem?_set_self hk] at e
    cases e
    have := h.2 i s hs
    rw [if_neg (Nat.lt_irrefl _)] at this
    rw [if_pos (Nat.lt_succ_self _)]
    exact namePre_snoc this hc
  · rw [List.getElem?_set_ne (Ne.symm z)] at e
    have := h.2 i t e
    have e2 : (if i < k + 1 then j + 1 else j) = (if i < k then j + 1 else j) := by split <;> split <;> omega
    rw [e2]
    exact this
theorem map_set_str (ns : List Str) (k : Nat) (s : Str) : (ns.map D.str).set k (.str s) = (ns.set k s).map D.str := by rw [List.map_set]
theorem names_ok (n : Nat) (h : Hs) (cell : Int) : (F__law_names (n + 2) [.int cell] h).wp (fun d h' => ∃ ns : List Str, d = .loc h.length ∧ h' = h ++ [.lst (ns.map D.str)] ∧ ns.length = 4 ∧ ∀ s ∈ ns, nameB s = true) xF := by
  have dr : ∀ (k many : Int) (h : Hs), 0 < many → -1000000 ≤ k ∧ k ≤ 1000000 → F__law_draw (n + 1) [.int cell, .int k, .int many] h = .ok (.int (drawI cell k many)) h := fun k many h a b => draw_ok n h cell k many a b
  rw [S__law_names]
  refine wp_new ?_
  have m10 : ∀ j, cMul 10 j = true := fun j => cMul_l (by decide) (by decide)
  have d57 := drawI_lt cell 57 (many := 12) (by decide)
  generalize hsz : 1 + drawI cell 57 12 = sz
  have r1 : inR sz = true := inR_of (by omega) (by omega)
  have r4 : inR 4 = true := inR_of (by decide) (by decide)
  have sp : 0 < sz := by omega
  simp [wp_run, m__law_names, startD, wp_v, dr, hsz, sp, r1]
  obtain ⟨J, hJ⟩ : ∃ J : Nat → Sl → Hs → Prop, J = fun j ds h' => ∃ (ns : List Str) (a b c d e f : Option D), h' = h ++ [.lst (ns.map D.str)] ∧ Names4 j 0 ns ∧ ds = [some (.int cell), some (.str S36), some (.int sz), some (.int (drawI cell 58 sz)), some (.loc h.length), a, b, c, d, e, f] := ⟨_, rfl⟩
  have start : J 0 [some (.int cell), some (.str S36), some (.int sz), some (.int (drawI cell 58 sz)), some (.loc h.length), none, none, none, none, none, none] (h ++ [.lst [.str "", .str "", .str "", .str ""]]) := by
    rw [hJ]
    refine ⟨["", "", "", ""], none, none, none, none, none, none, rfl, ⟨rfl, fun i s hi => ?_⟩, rfl⟩
    have : s = "" := by
      have := List.mem_of_getElem? hi
      simpa using this
    subst this
    exact namePre_nil
  refine ws_loop _ J start (fun _ _ _ _ => trivial) ?_ ?_
  · intro j d ds h' hd hj
    rw [hJ] at hj
    obtain ⟨ns, a, b, c, d', e, f, rfl, hn, rfl⟩ := hj
    have hjs : j < sz.toNat := by
      have := (List.getElem?_eq_some_iff.mp hd).1
      simpa using this
    have ed : d = .int j := by
      rw [List.getElem?_map, List.getElem?_range hjs] at hd
      exact (Option.some.inj hd).symm
    subst ed
    obtain ⟨M, hM, hM2⟩ : ∃ M : Int, (26 + 10 * (if 0 < j then 1 else 0) : Int) = M ∧ M = if j = 0 then 26 else 36 := by
      by_cases z : j = 0
      · subst z; exact ⟨26, by simp, by simp⟩
      · exact ⟨36, by rw [if_pos (by omega)]; rfl, by simp [z]⟩
    have Mp : 0 < M := by rw [hM2]; split <;> omega
    have kb : -1000000 ≤ (60 + (j : Int)) ∧ (60 + (j : Int)) ≤ 1000000 := by omega
    simp [wp_v, dr, m10, hM, Mp, kb, r4]
    obtain ⟨G, hG⟩ : ∃ G : Nat → Sl → Hs → Prop, G = fun k ds h' => ∃ (ns : List Str) (e f : Option D), h' = h ++ [.lst (ns.map D.str)] ∧ Names4 j k ns ∧ ds = [some (.int cell), some (.str S36), some (.int sz), some (.int (drawI cell 58 sz)), some (.loc h.length), some (.int j), some (.int M), some (.int (drawI cell (60 + j) M)), some (.int (if (j : Int) = drawI cell 58 sz then 1 else 0)), e, f] := ⟨_, rfl⟩
    have start2 : G 0 [some (.int cell), some (.str S36), some (.int sz), some (.int (drawI cell 58 sz)), some (.loc h.length), some (.int j), some (.int M), some (.int (drawI cell (60 + j) M)), some (.int (if (j : Int) = drawI cell 58 sz then 1 else 0)), e, f] (h ++ [.lst (ns.map D.str)]) := by
      rw [hG]; exact ⟨ns, e, f, rfl, hn, rfl⟩
    refine ws_loop _ G start2 (fun _ _ _ _ => trivial) ?_ ?_
    · intro k d ds h' hd hj
      rw [hG] at hj
      obtain ⟨ns, e, f, rfl, hn, rfl⟩ := hj
      have hk4 : k < 4 := by
        have := (List.getElem?_eq_some_iff.mp hd).1
        simpa using this
      have ed : d = .int k := by
        rw [List.getElem?_map, List.getElem?_range hk4] at hd
        exact (Option.some.inj hd).symm
      subst ed
      have ck : ∀ i, cMul (k : Int) i = true := fun i => cMul_l (by omega) (by omega)
      have cm : ∀ i, cMod i M = true := fun i => cMod_of Mp
      generalize hx : (drawI cell (60 + j) M + (k : Int) * (if (j : Int) = drawI cell 58 sz then 1 else 0)) % M = x
      have x0 : 0 ≤ x := by rw [← hx]; exact Int.emod_nonneg _ (by omega)
      have x1 : x < M := by rw [← hx]; exact Int.emod_lt_of_pos _ Mp
      obtain ⟨c, hc, _⟩ := atI_of (zs := S36.cps.toList) x0 (by rw [S36_len]; rw [hM2] at x1; split at x1 <;> omega)
      have okc := sign_36 hM2 x0 x1 hc
      have hkl : k < ns.length := by rw [hn.1]; exact hk4
      obtain ⟨s, hs⟩ : ∃ s, ns[k]? = some s := ⟨_, List.getElem?_eq_getElem hkl⟩
      have as : atI (ns.map D.str) (k : Int) = some (.str s) := by rw [atI_nat (by simpa using hkl), List.getElem?_map, hs]; rfl
      have sl : s.length + (⟨#[c]⟩ : Str).length ≤ 16777216 := by
        have := (hn.2 k s hs).1
        rw [this, if_neg (Nat.lt_irrefl _)]
        show j + 1 ≤ _
        omega
      have st := set_lst (h := h ++ [.lst (ns.map D.str)]) (l := h.length) (k := k) (xs := ns.map D.str) (v := .str (s ++ ⟨#[c]⟩)) (by simp) (by simpa using hkl)
      have l36 : S36.length ≤ 16777216 := by decide +kernel
      have fin : G (k + 1) [some (.int cell), some (.str S36), some (.int sz), some (.int (drawI cell 58 sz)), some (.loc h.length), some (.int j), some (.int M), some (.int (drawI cell (60 + j) M)), some (.int (if (j : Int) = drawI cell 58 sz then 1 else 0)), some (.int k), some (.str ⟨#[c]⟩)] (h ++ [.lst ((ns.map D.str).set k (.str (s ++ ⟨#[c]⟩)))]) := by
        rw [hG, map_set_str]; exact ⟨_, _, _, rfl, names_set hn hs okc, rfl⟩
      simp [wp_v, ck, cm, hx, hc, l36, ix_lst, as, sl, st]
      exact fin
    · intro ds h' hj
      rw [hG] at hj
      obtain ⟨ns, e, f, rfl, hn, rfl⟩ := hj
      rw [hJ]
      refine ⟨ns, _, _, _, _, _, _, rfl, ⟨hn.1, fun i s hi => ?_⟩, rfl⟩
      have := hn.2 i s hi
      have il : i < 4 := by have := (List.getElem?_eq_some_iff.mp hi).1; rw [hn.1] at this; exact this
      rw [List.length_map, List.length_range, if_pos il] at this
      rw [if_neg (Nat.not_lt_zero _)]
      exact this
  · intro ds h' hj
    rw [hJ] at hj
    obtain ⟨ns, a, b, c, d', e, f, rfl, hn, rfl⟩ := hj
    have szl : (List.map (fun (i : Nat) => D.int (i : Int)) (List.range sz.toNat)).length = sz.toNat := by simp
    rw [szl] at hn
    have fl : nolocL (ns.map D.str) = true := by
      clear hn
      induction ns with
      | nil => rfl
      | cons s ns ih => simp [nolocL, noloc, ih]
    simp [nolocO, fl]
    refine ⟨ns, rfl, hn.1, fun s hs => ?_⟩
    obtain ⟨i, hi⟩ := List.mem_iff_getElem?.mp hs
    have := hn.2 i s hi
    rw [if_neg (Nat.not_lt_zero _)] at this
    exact namePre_name this (by omega) (by omega)
end DV
namespace DV
open PySem PySem.Spec PyProof.Rows L2
mutual
/-- names, counts of parts and numbers are as the document has them -/
def Tr.good : Tr → Prop
  | .bl k => 1 ≤ k ∧ k ≤ 1000000000
  | .bk s ps => nameB s = true ∧ ps.length ≤ 9 ∧ goodL ps
def goodL : List Tr → Prop
  | [] => True
  | t :: ts => t.good ∧ goodL ts
end
theorem goodL_iff : ∀ {ts : List Tr}, goodL ts ↔ ∀ t ∈ ts, t.good
  | [] => by simp [goodL]
  | t :: ts => by rw [goodL, goodL_iff]; simp
theorem names_at {ns : List Str} (h4 : ns.length = 4) {i : Int} (h0 : 0 ≤ i) (h1 : i < 4) : ∃ s, atI (ns.map D.str) i = some (.str s) ∧ s ∈ ns := by
  obtain ⟨z, hz, hz2⟩ := atI_of (zs := ns.map D.str) h0 (by rw [List.length_map, h4]; exact h1)
  have := List.mem_of_getElem? hz2
  obtain ⟨s, hs, rfl⟩ := List.mem_map.mp this
  exact ⟨s, hz, hs⟩
theorem leaf_ok (n : Nat) (h : Hs) (cell first shares : Int) (l : Nat) (ns : List Str) (hl : h[l]? = some (.lst (ns.map D.str))) (h4 : ns.length = 4) (hn : ∀ s ∈ ns, nameB s = true) :
    (F__law_leaf (n + 2) [.int cell, .int first, .loc l, .int shares] h).wp (fun d h' => h' = h ∧ ∃ t : Tr, d = tD t ∧ t.good ∧ t.parts = []) xF := by
  have dr : ∀ (k many : Int) (h : Hs), 0 < many → -1000000 ≤ k ∧ k ≤ 1000000 → F__law_draw (n + 1) [.int cell, .int k, .int many] h = .ok (.int (drawI cell k many)) h := fun k many h a b => draw_ok n h cell k many a b
  rw [S__law_leaf]
  have p9 : cPow 10 9 = true := cPow_of (by decide) (by decide) (by decide)
  have m9 : ∀ i, cMod i 1000000000 = true := fun _ => cMod_of (by decide)
  have f0 := Int.emod_nonneg first (show (1000000000 : Int) ≠ 0 by decide)
  have f1 := Int.emod_lt_of_pos first (show (0 : Int) < 1000000000 by decide)
  obtain ⟨z, hz, hz2⟩ := atI_of (zs := [D.int 1, .int 2, .int 7, .int 1000000000, .int (1 + first % 1000000000)]) (drawI_lt cell 4 (by decide : (0 : Int) < 5)).1 (drawI_lt cell 4 (by decide : (0 : Int) < 5)).2
  obtain ⟨m, rfl, m1, m2⟩ : ∃ m : Int, z = .int m ∧ 1 ≤ m ∧ m ≤ 1000000000 := by
    have := List.mem_of_getElem? hz2
    simp at this
    rcases this with rfl | rfl | rfl | rfl | rfl
    · exact ⟨_, rfl, by decide, by decide⟩
    · exact ⟨_, rfl, by decide, by decide⟩
    · exact ⟨_, rfl, by decide, by decide⟩
    · exact ⟨_, rfl, by decide, by decide⟩
    · exact ⟨_, rfl, by omega, by omega⟩
  obtain ⟨s, hs, hs2⟩ := names_at h4 (drawI_lt cell 2 (by decide : (0 : Int) < 4)).1 (drawI_lt cell 2 (by decide : (0 : Int) < 4)).2
  simp [wp_pure, wp_run, m__law_leaf, startD, wp_v, dr, p9, m9, ix_lst, hz, hl, hs]
  split
  · exact ⟨by simp [noloc, nolocL], .bl m, by simp [tD], ⟨m1, m2⟩, rfl⟩
  · exact ⟨by simp [noloc, nolocL], .bk s [], by simp [tD, tDs], ⟨hn s hs2, by simp, trivial⟩, rfl⟩
end DV
namespace DV
open PySem PySem.Spec PyProof.Rows L2
abbrev Fr := Str × Nat × List Tr
def fD (f : Fr) : D := .tup [.str f.1, .loc f.2.1]
/-- what stands in the heap: the old things, the names, the cells, the frames and their lists -/
structure FrI (h : Hs) (ns : List Str) (its : List D) (fr : List Fr) (h' : Hs) : Prop where
  pre : h'.take h.length = h
  nam : h'[h.length]? = some (.lst (ns.map D.str))
  cel : h'[h.length + 3]? = some (.lst its)
  frm : h'[h.length + 2]? = some (.lst (fr.map fD))
  par : ∀ f ∈ fr, h'[f.2.1]? = some (.lst (tDs f.2.2))
  dis : (fr.map (·.2.1)).Nodup
  low : ∀ f ∈ fr, h.length ≤ f.2.1 ∧ f.2.1 ≠ h.length ∧ f.2.1 ≠ h.length + 2 ∧ f.2.1 ≠ h.length + 3
section
variable {h h' : Hs} {ns : List Str} {its : List D} {fr : List Fr}
theorem FrI.lt (I : FrI h ns its fr h') : h.length + 3 < h'.length := (List.getElem?_eq_some_iff.mp I.cel).1
theorem FrI.plt (I : FrI h ns its fr h') {f : Fr} (hf : f ∈ fr) : f.2.1 < h'.length := (List.getElem?_eq_some_iff.mp (I.par f hf)).1
theorem take_set_ge {α : Type} {l : List α} {n k : Nat} {a : α} (hk : n ≤ k) : (l.set k a).take n = l.take n := by
  apply List.ext_getElem?
  intro i
  rw [List.getElem?_take, List.getElem?_take]
  split
  · rw [List.getElem?_set_ne (by omega)]
  · rfl
theorem FrI.grow (I : FrI h ns its fr h') (r : Hs) : FrI h ns its fr (h' ++ r) where
  pre := by rw [List.take_append_of_le_length (by have := I.lt; omega)]; exact I.pre
  nam := get_app I.nam
  cel := get_app I.cel
  frm := get_app I.frm
  par := fun f hf => get_app (I.par f hf)
  dis := I.dis
  low := I.low
/-- the frames' list written -/
theorem FrI.put (I : FrI h ns its fr h') (fr2 : List Fr) (hp : ∀ f ∈ fr2, h'[f.2.1]? = some (.lst (tDs f.2.2))) (hd : (fr2.map (·.2.1)).Nodup)
    (hl : ∀ f ∈ fr2, h.length ≤ f.2.1 ∧ f.2.1 ≠ h.length ∧ f.2.1 ≠ h.length + 2 ∧ f.2.1 ≠ h.length + 3) : FrI h ns its fr2 (h'.set (h.length + 2) (.lst (fr2.map fD))) where
  pre := by rw [take_set_ge (by omega)]; exact I.pre
  nam := by rw [List.getElem?_set_ne (by omega)]; exact I.nam
  cel := by rw [List.getElem?_set_ne (by omega)]; exact I.cel
  frm := by rw [List.getElem?_set_self (by have := I.lt; omega)]
  par := fun f hf => by rw [List.getElem?_set_ne (Ne.symm (hl f hf).2.2.1)]; exact hp f hf
  dis := hd
  low := hl
theorem FrI.pop {f : Fr} (I : FrI h ns its (fr ++ [f]) h') : FrI h ns its fr (h'.set (h.length + 2) (.lst (fr.map fD))) :=
  I.put fr (fun g hg => I.par g (List.mem_append_left _ hg)) (by have := I.dis; rw [List.map_append] at this; exact (List.nodup_append.mp this).1) fun g hg => I.low g (List.mem_append_left _ hg)
theorem FrI.push (I : FrI h ns its fr h') (s : Str) (ps : List Tr) : FrI h ns its (fr ++ [(s, h'.length, ps)]) ((h' ++ [AO.lst (tDs ps)] : Hs).set (h.length + 2) (.lst ((fr ++ [(s, h'.length, ps)]).map fD))) := by
  refine (I.grow [AO.lst (tDs ps)]).put _ (fun f hf => ?_) ?_ fun f hf => ?_
  · rcases List.mem_append.mp hf with hf | hf
    · exact get_app (I.par f hf)
    · cases List.mem_singleton.mp hf
      simp
  · rw [List.map_append]
    refine List.nodup_append.mpr ⟨I.dis, by simp, fun a ha b hb => ?_⟩
    obtain ⟨g, hg, rfl⟩ := List.mem_map.mp ha
    have : b = h'.length := by simpa using hb
    have := I.plt hg
    omega
  · rcases List.mem_append.mp hf with hf | hf
    · exact I.low f hf
    · cases List.mem_singleton.mp hf
      have := I.lt
      show h.length ≤ h'.length ∧ h'.length ≠ _ ∧ h'.length ≠ _ ∧ h'.length ≠ _
      omega
theorem tDs_app (ps : List Tr) (t : Tr) : tDs ps ++ [tD t] = tDs (ps ++ [t]) := by rw [tDs_map, tDs_map, List.map_append]; rfl
theorem FrI.app {s : Str} {l : Nat} {ps : List Tr} (I : FrI h ns its (fr ++ [(s, l, ps)]) h') (t : Tr) : FrI h ns its (fr ++ [(s, l, ps ++ [t])]) (h'.set l (.lst (tDs (ps ++ [t])))) := by
  have mem : (s, l, ps) ∈ fr ++ [(s, l, ps)] := by simp
  obtain ⟨l1, l2, l3, l4⟩ := I.low _ mem
  have ll := I.plt mem
  simp only at l1 l2 l3 l4 ll
  have dd : ∀ g ∈ fr, g.2.1 ≠ l := fun g hg z => by
    have := I.dis
    rw [List.map_append] at this
    exact (List.nodup_append.mp this).2.2 g.2.1 (List.mem_map.mpr ⟨g, hg, rfl⟩) l (by simp) z
  refine ⟨by rw [take_set_ge l1]; exact I.pre, by rw [List.getElem?_set_ne l2]; exact I.nam, by rw [List.getElem?_set_ne l4]; exact I.cel, ?_, fun f hf => ?_, ?_, fun f hf => ?_⟩
  · rw [List.getElem?_set_ne l3, I.frm, List.map_append, List.map_append]; rfl
  · rcases List.mem_append.mp hf with hf | hf
    · rw [List.getElem?_set_ne (Ne.symm (dd f hf))]; exact I.par f (List.mem_append_left _ hf)
    · cases List.mem_singleton.mp hf
      rw [List.getElem?_set_self ll]
  · have := I.dis
    rw [List.map_append] at this ⊢
    exact this
  · rcases List.mem_append.mp hf with hf | hf
    · exact I.low f (List.mem_append_left _ hf)
    · cases List.mem_singleton.mp hf
      exact ⟨l1, l2, l3, l4⟩
end
/-- knots begun in frames -/
def frK : List Fr → Nat
  | [] => 0
  | f :: fr => 1 + knotsL f.2.2 + frK fr
theorem frK_app : ∀ (a b : List Fr), frK (a ++ b) = frK a + frK b
  | [], b => by simp [frK]
  | f :: a, b => by rw [List.cons_append, frK, frK, frK_app a b]; omega
theorem knotsL_app (ps : List Tr) (t : Tr) : knotsL (ps ++ [t]) = knotsL ps + t.knots := by
  rw [knotsL_sum, knotsL_sum]; simp
theorem depthL_le {ps : List Tr} {n : Nat} : depthL ps ≤ n ↔ ∀ t ∈ ps, t.depth ≤ n := by
  induction ps with
  | nil => simp [depthL]
  | cons t ts ih => rw [depthL, Nat.max_le, ih]; simp
/-- the trees in frames: good, few; the lowest first -/
structure FrT (w : Nat) (fr : List Fr) (top : Fr) : Prop where
  nm : ∀ f ∈ fr ++ [top], nameB f.1 = true ∧ ∀ t ∈ f.2.2, t.good
  few : ∀ f ∈ fr, f.2.2.length ≤ 8
  few1 : top.2.2.length ≤ 9
  len : fr.length ≤ 9
  dep : ∀ j f, (fr ++ [top])[j]? = some f → ∀ t ∈ f.2.2, t.depth + j ≤ 10 + w
def lowN (fr : List Fr) (top : Fr) : Nat := match fr with
  | [] => top.2.2.length
  | b :: _ => b.2.2.length
section
variable {w : Nat} {fr : List Fr} {top g : Fr}
theorem FrT.good (T : FrT w fr top) : (Tr.bk top.1 top.2.2).good := by
  have := T.nm top (by simp)
  exact ⟨this.1, T.few1, goodL_iff.mpr this.2⟩
theorem FrT.depth (T : FrT w fr top) : (Tr.bk top.1 top.2.2).depth + fr.length ≤ 11 + w := by
  have : depthL top.2.2 + fr.length ≤ 10 + w := by
    by_cases z : fr.length ≤ 10 + w
    · have := depthL_le.mpr (fun t ht => by have := T.dep fr.length top (by simp) t ht; show t.depth ≤ 10 + w - fr.length; omega)
      omega
    · have := T.len; omega
  rw [Tr.depth]; omega
/-- a leaf, or a closed block -/
theorem FrT.add (T : FrT w fr top) {t : Tr} (ht : t.good) (hd : t.depth + fr.length ≤ 10 + w) (hl : top.2.2.length ≤ 8) : FrT w fr (top.1, top.2.1, top.2.2 ++ [t]) where
  nm := fun f hf => by
    rcases List.mem_append.mp hf with hf | hf
    · exact T.nm f (List.mem_append_left _ hf)
    · cases List.mem_singleton.mp hf
      have := T.nm top (by simp)
      refine ⟨this.1, fun u hu => ?_⟩
      rcases List.mem_append.mp hu with hu | hu
      · exact this.2 u hu
      · cases List.mem_singleton.mp hu; exact ht
  few := T.few
  few1 := by simp; omega
  len := T.len
  dep := fun j f e u hu => by
    by_cases z : j < fr.length
    · rw [List.getElem?_append_left z] at e
      exact T.dep j f (by rw [List.getElem?_append_left z]; exact e) u hu
    · have : j = fr.length := by have := (List.getElem?_eq_some_iff.mp e).1; simp at this; omega
      subst this
      simp at e
      subst e
      rcases List.mem_append.mp hu with hu | hu
      · exact T.dep fr.length top (by simp) u hu
      · cases List.mem_singleton.mp hu; exact hd
theorem FrT.open_ (T : FrT w fr top) {s : Str} {l : Nat} (hs : nameB s = true) (hl : top.2.2.length ≤ 8) (hf : fr.length ≤ 8) : FrT w (fr ++ [top]) (s, l, []) where
  nm := fun f hf => by
    rcases List.mem_append.mp hf with hf | hf
    · exact T.nm f hf
    · cases List.mem_singleton.mp hf
      exact ⟨hs, fun u hu => nomatch hu⟩
  few := fun f hf => by
    rcases List.mem_append.mp hf with hf | hf
    · exact T.few f hf
    · cases List.mem_singleton.mp hf; exact hl
  few1 := Nat.zero_le _
  len := by simp; omega
  dep := fun j f e u hu => by
    by_cases z : j < (fr ++ [top]).length
    · rw [List.getElem?_append_left z] at e
      exact T.dep j f e u hu
    · have : j = (fr ++ [top]).length := by have := (List.getElem?_eq_some_iff.mp e).1; simp at this z; simp; omega
      subst this
      simp only [List.getElem?_concat_length, Option.some.injEq] at e
      subst e
      exact nomatch hu
theorem FrT.close (T : FrT w (fr ++ [g]) top) : FrT w fr (g.1, g.2.1, g.2.2 ++ [.bk top.1 top.2.2]) := by
  have base : FrT w fr g := ⟨fun f hf => T.nm f (List.mem_append_left _ hf), fun f hf => T.few f (List.mem_append_left _ hf), by have := T.few g (by simp); omega, by have := T.len; simp at this; omega, fun j f e u hu => T.dep j f (by
    have hj := (List.getElem?_eq_some_iff.mp e).1
    rw [List.getElem?_append_left hj]; exact e) u hu⟩
  refine base.add T.good ?_ (T.few g (by simp))
  have := T.depth
  rw [List.length_append, List.length_singleton] at this
  omega
theorem FrT.wrap (T : FrT w [] top) {s : Str} {l : Nat} (hs : nameB s = true) : FrT (w + 1) [] (s, l, [.bk top.1 top.2.2]) where
  nm := fun f hf => by
    cases List.mem_singleton.mp hf
    exact ⟨hs, fun u hu => by cases List.mem_singleton.mp hu; exact T.good⟩
  few := fun f hf => nomatch hf
  few1 := by simp
  len := Nat.zero_le _
  dep := fun j f e u hu => by
    have : j = 0 := by have := (List.getElem?_eq_some_iff.mp e).1; simp at this; omega
    subst this
    cases e
    cases List.mem_singleton.mp hu
    have := T.depth
    simp at this
    omega
end
end DV
namespace DV
open PySem PySem.Spec PyProof.Rows L2
theorem tup_loc {h : Hs} {l : Nat} {xs : List D} (e : h[l]? = some (.lst xs)) : tupT [.loc l] h = some (.tup xs, h) := by simp [tupT, e]
theorem eqB_empty {h : Hs} {l : Nat} {xs : List D} (e : h[l]? = some (.lst xs)) : eqB (.loc l) (.loc h.length) (h ++ [AO.lst []]) = some xs.isEmpty := by
  have e1 : (h ++ [AO.lst []])[l]? = some (.lst xs) := get_app e
  have e2 : (h ++ [AO.lst []])[h.length]? = some (.lst []) := by simp
  cases xs with
  | nil =>
    rw [eqB_lst e1 e2 rfl rfl (Nat.zero_le _)]; simp
  | cons x xs => rw [eqB_len e1 e2 (by simp)]; rfl
theorem eq_empty {h : Hs} {l : Nat} {xs : List D} (e : h[l]? = some (.lst xs)) : eqF (.loc l) (.loc h.length) (h ++ [AO.lst []]) = some (.bl xs.isEmpty, h ++ [AO.lst []]) := by
  unfold eqF
  rw [eqB_empty e]; rfl
theorem cut62 (cs : List D) : cutL cs none (some 62) = cs.take 62 := by
  unfold cutL
  have e1 : HT.sIx cs.length 0 none = 0 := rfl
  have e2 : HT.sIx cs.length cs.length (some 62) = min 62 cs.length := HT.sIx_nat _ _ 62
  rw [e1, e2, List.drop_zero, Nat.sub_zero, ← List.take_take, List.take_length]
def treeS (lc : Nat) (first shares : Int) (h : Hs) (a b c d e f : Option D) : Sl := [some (.loc lc), some (.int first), some (.int shares), some (.loc h.length), some (.loc (h.length + 2)), a, b, c, d, e, f]
theorem law_tree_ok (n : Nat) (h : Hs) (lc : Nat) (cs : List Int) (first shares : Int) (hc : h[lc]? = some (.lst (cs.map D.int))) :
    (F__law_tree (n + 3) [.loc lc, .int first, .int shares] h).wp (fun d h' => h' = h ∧ ∃ t : Tr, d = tD t ∧ t.good ∧ t.knots ≤ 190 ∧ t.depth ≤ 28) xF := by
  have dr : ∀ (cell k many : Int) (h : Hs), 0 < many → -1000000 ≤ k ∧ k ≤ 1000000 → F__law_draw (n + 2) [.int cell, .int k, .int many] h = .ok (.int (drawI cell k many)) h := fun cell k many h a b => draw_ok (n + 1) h cell k many a b
  obtain ⟨dn, hn, en, ns, rfl, rfl, n4, ng⟩ := R.wp_ex (names_ok n h first)
  rw [S__law_tree, wp_pure]
  obtain ⟨s0, hs0, ms0⟩ := names_at n4 (show (0 : Int) ≤ 0 by decide) (by decide)
  have c2 : (h ++ [AO.lst (ns.map D.str), .lst [], .lst [.tup [.str s0, .loc (h.length + 1)]]])[lc]? = some (.lst (cs.map D.int)) := get_app hc
  simp only [wp_run, m__law_tree]
  simp [startD, wp_v, en, ix_lst, hs0, slF, c2, cut62, its_lst, Nat.add_assoc]
  obtain ⟨its, hits⟩ : ∃ its, its = (cs.map D.int).take 62 := ⟨_, rfl⟩
  have il : its.length ≤ 62 := by rw [hits]; simp; omega
  obtain ⟨J, hJ⟩ : ∃ J : Nat → Sl → Hs → Prop, J = fun i ds h' => ∃ (fr : List Fr) (top : Fr) (w : Nat) (a b c d e f : Option D), FrI h ns its (fr ++ [top]) h' ∧ FrT w fr top ∧ frK (fr ++ [top]) ≤ 1 + 3 * i ∧ 11 * w + lowN fr top ≤ 3 * i ∧ ds = treeS lc first shares h a b c d e f := ⟨_, rfl⟩
  have start : J 0 (treeS lc first shares h none none none none none none) (h ++ [AO.lst (ns.map D.str), .lst [], .lst [.tup [.str s0, .loc (h.length + 1)]], .lst its]) := by
    rw [hJ]
    refine ⟨[], (s0, h.length + 1, []), 0, none, none, none, none, none, none, ⟨?_, ?_, ?_, ?_, ?_, ?_, ?_⟩, ⟨?_, ?_, ?_, ?_, ?_⟩, by simp [frK, knotsL], by simp [lowN], rfl⟩
    all_goals simp [fD, tDs]
    · exact ng s0 ms0
    · intro j a b c e t ht
      have : j = 0 := by have := (List.getElem?_eq_some_iff.mp e).1; simp at this; exact this
      subst this
      cases e
      exact nomatch ht
  simp only [← hits]
  refine ws_loop _ J start (fun i ds h' j => by rw [hJ] at j; obtain ⟨_, _, _, _, _, _, _, _, _, I, _⟩ := j; exact I.cel) ?_ ?_
  · intro i d ds h' hd hj
    rw [hJ] at hj
    obtain ⟨fr, top, w, a, b, c, d', e, f, I, T, kn, pot, rfl⟩ := hj
    obtain ⟨cell, rfl⟩ : ∃ cell : Int, d = .int cell := by
      rw [hits] at hd
      have := List.mem_of_mem_take (List.mem_of_getElem? hd)
      obtain ⟨x, _, rfl⟩ := List.mem_map.mp this
      exact ⟨x, rfl⟩
    have i62 : i < 62 := by have := (List.getElem?_eq_some_iff.mp hd).1; omega
    have frm : h'[h.length + 2]? = some (.lst (fr.map fD ++ [.tup [.str top.1, .loc top.2.1]])) := by rw [I.frm, List.map_append]; rfl
    have pt : h'[top.2.1]? = some (.lst (tDs top.2.2)) := I.par top (by simp)
    have ck := ck_lst frm
    have cn := ck_lst pt
    obtain ⟨s1, hs1, ms1⟩ := names_at n4 (drawI_lt cell 2 (by decide : (0 : Int) < 4)).1 (drawI_lt cell 2 (by decide : (0 : Int) < 4)).2
    have c9 : ((top.2.2.length : Int) = 9) ↔ top.2.2.length = 9 := by omega
    have few := T.few1
    have low := I.low top (by simp)
    simp only [ws_nameG, treeS, List.set_cons_succ, List.set_cons_zero]
    refine st_set (.int (drawI cell 1 8)) h' (by simp [wp_v, dr]) ?_
    simp only [List.set_cons_succ, List.set_cons_zero]
    by_cases cA : top.2.2.length = 9 ∨ (drawI cell 1 8 = 0 ∧ 0 < fr.length)
    · refine st_if true h' ?_ ?_
      · by_cases z : top.2.2.length = 9
        · simp [wp_v, ix_lst frm, at_last, len_lst frm, len_lst pt, c9, z]
        · obtain ⟨z1, z2⟩ := cA.resolve_left z
          have z3 : (1 : Int) < (fr.length : Int) + 1 := by omega
          simp [wp_v, ix_lst frm, at_last, len_lst frm, len_lst pt, c9, z, z1, z3]
      · rw [if_pos rfl]
        have pop := pop_lst frm
        have I1 : FrI h ns its fr (h'.set (h.length + 2) (.lst (fr.map fD))) := I.pop
        generalize hh1 : h'.set (h.length + 2) (.lst (fr.map fD)) = h1 at pop I1
        have pt1 : h1[top.2.1]? = some (.lst (tDs top.2.2)) := by rw [← hh1, List.getElem?_set_ne (Ne.symm low.2.2.1)]; exact pt
        have emp := eq_empty I1.frm
        rcases List.eq_nil_or_concat fr with rfl | ⟨fr', g, rfl⟩
        · have l9 : top.2.2.length = 9 := cA.resolve_right fun z => absurd z.2 (by simp)
          have app := append_lst (h := h1 ++ [AO.lst [], AO.lst (tDs [.bk top.1 top.2.2])]) (l := h.length + 2) (xs := []) (v := .tup [.str s1, .loc (h1 ++ [AO.lst []]).length]) (get_app I1.frm) (by simp)
          have ckx := ck_lst (h := h1 ++ [AO.lst []]) (get_app I1.frm)
          have nm := get_app (r := [AO.lst []]) I1.nam
          have I2 := (I1.grow [AO.lst []]).push s1 [.bk top.1 top.2.2]
          have T2 := T.wrap (s := s1) (l := (h1 ++ [AO.lst []]).length) (ng s1 ms1)
          simp [tD, tDs] at app
          simp [wp_v, ck, pop, tup_loc pt1, emp, dr, ckx, ix_lst nm, hs1, app]
          rw [hJ]
          refine ⟨[], (s1, (h1 ++ [AO.lst []]).length, [.bk top.1 top.2.2]), w + 1, _, _, _, _, _, _, ?_, T2, ?_, ?_, rfl⟩
          · simpa [fD, tDs, tD] using I2
          · simp [frK, knotsL, Tr.knots] at kn ⊢; omega
          · simp [lowN] at pot ⊢; omega
        · rw [List.concat_eq_append] at *
          have ne : ((fr' ++ [g]).map fD).isEmpty = false := by simp
          rw [ne] at emp
          have pg : h1[g.2.1]? = some (.lst (tDs g.2.2)) := I1.par g (by simp)
          have frm1 : h1[h.length + 2]? = some (.lst (fr'.map fD ++ [.tup [.str g.1, .loc g.2.1]])) := by rw [I1.frm, List.map_append]; rfl
          have g8 := T.few g (by simp)
          have app := append_lst (h := h1 ++ [AO.lst []]) (v := tD (.bk top.1 top.2.2)) (get_app pg) (by simp; omega)
          rw [tDs_app] at app
          have ckg := ck_lst (h := h1 ++ [AO.lst []]) (get_app pg)
          have I2 := (I1.grow [AO.lst []]).app (.bk top.1 top.2.2)
          have T2 := T.close
          simp [tD] at app
          simp [wp_v, ck, pop, tup_loc pt1, emp, ix_lst (get_app (r := [AO.lst []]) frm1), at_last, ckg, app]
          rw [hJ]
          refine ⟨fr', (g.1, g.2.1, g.2.2 ++ [.bk top.1 top.2.2]), w, _, _, _, _, _, _, I2, T2, ?_, ?_, rfl⟩
          · simp only [frK_app, frK, knotsL_app, Tr.knots] at kn ⊢; omega
          · cases fr' with
            | nil => simp [lowN] at pot ⊢; omega
            | cons b r => simp [lowN] at pot ⊢; omega
    · have n9 : ¬ top.2.2.length = 9 := fun z => cA (.inl z)
      have n0 : ¬ (drawI cell 1 8 = 0 ∧ 0 < fr.length) := fun z => cA (.inr z)
      refine st_if false h' ?_ ?_
      · simp [wp_v, ix_lst frm, at_last, len_lst frm, len_lst pt, c9, n9]
        intro z
        have : ¬ 0 < fr.length := fun y => n0 ⟨z, y⟩
        omega
      · rw [if_neg Bool.false_ne_true]
        by_cases cB : drawI cell 1 8 < 4 ∧ fr.length ≤ 8
        · refine st_if true h' ?_ ?_
          · simp [wp_v, len_lst frm, cB]
            omega
          · rw [if_pos rfl]
            have app := append_lst (h := h' ++ [AO.lst []]) (v := .tup [.str s1, .loc h'.length]) (get_app frm) (by simp; omega)
            have ck2 := ck_lst (h := h' ++ [AO.lst []]) (get_app frm)
            have I2 := I.push s1 []
            have T2 := T.open_ (l := h'.length) (ng s1 ms1) (by omega) cB.2
            simp [wp_v, dr, ck, ix_lst I.nam, hs1, app]
            rw [hJ]
            refine ⟨fr ++ [top], (s1, h'.length, []), w, _, _, _, _, _, _, ?_, T2, ?_, ?_, rfl⟩
            · simpa [fD, tDs] using I2
            · rw [frK_app]; simp [frK, knotsL]; omega
            · have : lowN (fr ++ [top]) (s1, h'.length, []) = lowN fr top := by cases fr <;> rfl
              rw [this]; omega
        · refine st_if false h' ?_ ?_
          · simp [wp_v, len_lst frm]
            intro z
            have : ¬ fr.length ≤ 8 := fun y => cB ⟨z, y⟩
            omega
          · rw [if_neg Bool.false_ne_true]
            have d53 := drawI_lt cell 5 (many := 3) (by decide)
            obtain ⟨M, hM, M1, M2, M3⟩ : ∃ M : Int, (if (9 : Int) - (top.2.2.length : Int) < 1 + drawI cell 5 3 then 9 - (top.2.2.length : Int) else 1 + drawI cell 5 3) = M ∧ 1 ≤ M ∧ M ≤ 3 ∧ M ≤ 9 - (top.2.2.length : Int) := by
              split <;> exact ⟨_, rfl, by omega, by omega, by omega⟩
            have rM : inR M = true := inR_of (by omega) (by omega)
            simp [wp_v, ix_lst frm, at_last, len_lst pt, dr, hM, rM]
            obtain ⟨G, hG⟩ : ∃ G : Nat → Sl → Hs → Prop, G = fun k ds h' => ∃ (ps : List Tr) (f : Option D), FrI h ns its (fr ++ [(top.1, top.2.1, ps)]) h' ∧ FrT w fr (top.1, top.2.1, ps) ∧ ps.length = top.2.2.length + k ∧ knotsL ps = knotsL top.2.2 + k ∧ ds = treeS lc first shares h (some (.int cell)) (some (.int (drawI cell 1 8))) c d' e f := ⟨_, rfl⟩
            have startG : G 0 (treeS lc first shares h (some (.int cell)) (some (.int (drawI cell 1 8))) c d' e f) h' := by
              rw [hG]; exact ⟨top.2.2, f, I, T, rfl, rfl, rfl⟩
            refine ws_loop _ G startG (fun _ _ _ _ => trivial) ?_ ?_
            · intro k d ds h2 hd hj
              rw [hG] at hj
              obtain ⟨ps, f, I, T, pl, pk, rfl⟩ := hj
              have hk : k < M.toNat := by have := (List.getElem?_eq_some_iff.mp hd).1; simpa using this
              have ed : d = .int k := by
                rw [List.getElem?_map, List.getElem?_range hk] at hd
                exact (Option.some.inj hd).symm
              subst ed
              obtain ⟨ld, h3, le, e3, t, rfl, tg, tp⟩ := R.wp_ex (leaf_ok n h2 (cell + k) first shares h.length ns I.nam n4 ng)
              rw [e3] at le
              have frm : h2[h.length + 2]? = some (.lst (fr.map fD ++ [.tup [.str top.1, .loc top.2.1]])) := by rw [I.frm, List.map_append]; rfl
              have pt : h2[top.2.1]? = some (.lst (tDs ps)) := I.par (top.1, top.2.1, ps) (by simp)
              have cn := ck_lst pt
              have app := append_lst (v := tD t) pt (by simp; omega)
              rw [tDs_app] at app
              have kt : t.knots = 1 := by rw [knots_parts, tp]; rfl
              have dt : t.depth = 1 := by rw [depth_parts, tp]; rfl
              have fl := T.len
              have I2 := I.app t
              have T2 := T.add tg (by omega) (by show ps.length ≤ 8; omega)
              simp [treeS, wp_v, ix_lst frm, at_last, cn, le, app]
              rw [hG]
              refine ⟨ps ++ [t], _, I2, T2, by simp; omega, by rw [knotsL_app]; omega, rfl⟩
            · intro ds h2 hj
              rw [hG] at hj
              obtain ⟨ps, f, I, T, pl, pk, rfl⟩ := hj
              have ml : (List.map (fun (i : Nat) => D.int (i : Int)) (List.range M.toNat)).length = M.toNat := by simp
              rw [ml] at pl pk
              rw [hJ]
              refine ⟨fr, (top.1, top.2.1, ps), w, _, _, _, _, _, _, I, T, ?_, ?_, rfl⟩
              · simp only [frK_app, frK] at kn ⊢; omega
              · cases fr with
                | nil => simp [lowN] at pot ⊢; omega
                | cons b r => simp [lowN] at pot ⊢; omega
  · intro ds h' hj
    rw [hJ] at hj
    obtain ⟨fr, top, w, a, b, c, d', e, f, I, T, kn, pot, rfl⟩ := hj
    have w16 : w ≤ 16 := by omega
    have kn : frK (fr ++ [top]) ≤ 187 := by omega
    obtain ⟨G, hG⟩ : ∃ G : Nat → Sl → Hs → Prop, G = fun k ds h' => ∃ (fr : List Fr) (top : Fr) (c d : Option D), k = fr.length ∧ FrI h ns its (fr ++ [top]) h' ∧ FrT w fr top ∧ frK (fr ++ [top]) ≤ 187 ∧ ds = treeS lc first shares h a b c d e f := ⟨_, rfl⟩
    have startG : G fr.length (treeS lc first shares h a b c d' e f) h' := by rw [hG]; exact ⟨fr, top, c, d', rfl, I, T, kn, rfl⟩
    refine ws_while G FUEL fr.length (by have := T.len; unfold FUEL; omega) startG ?_
    intro k ds h' hj
    rw [hG] at hj
    obtain ⟨fr, top, c, d', rfl, I, T, kn, rfl⟩ := hj
    have frm : h'[h.length + 2]? = some (.lst (fr.map fD ++ [.tup [.str top.1, .loc top.2.1]])) := by rw [I.frm, List.map_append]; rfl
    have pt : h'[top.2.1]? = some (.lst (tDs top.2.2)) := I.par top (by simp)
    have low := I.low top (by simp)
    rcases List.eq_nil_or_concat fr with rfl | ⟨fr', g, rfl⟩
    · simp [treeS, wp_v, len_lst frm, ix_lst frm, tup_loc pt]
      have := T.depth
      have tg := T.good
      refine ⟨⟨?_, I.pre⟩, .bk top.1 top.2.2, by simp [tD], tg, ?_, ?_⟩
      · simp [noloc, nolocL, noloc_tDs]
      · simp [frK] at kn; rw [Tr.knots]; omega
      · simp at this; omega
    · rw [List.concat_eq_append] at *
      have pop := pop_lst frm
      have I1 : FrI h ns its (fr' ++ [g]) (h'.set (h.length + 2) (.lst ((fr' ++ [g]).map fD))) := I.pop
      generalize hh1 : h'.set (h.length + 2) (.lst ((fr' ++ [g]).map fD)) = h1 at pop I1
      have pt1 : h1[top.2.1]? = some (.lst (tDs top.2.2)) := by rw [← hh1, List.getElem?_set_ne (Ne.symm low.2.2.1)]; exact pt
      have pg : h1[g.2.1]? = some (.lst (tDs g.2.2)) := I1.par g (by simp)
      have frm1 : h1[h.length + 2]? = some (.lst (fr'.map fD ++ [.tup [.str g.1, .loc g.2.1]])) := by rw [I1.frm, List.map_append]; rfl
      have g8 := T.few g (by simp)
      have app := append_lst (v := tD (.bk top.1 top.2.2)) pg (by simp; omega)
      rw [tDs_app] at app
      have ckg := ck_lst pg
      have ck := ck_lst frm
      have I2 := I1.app (.bk top.1 top.2.2)
      have T2 := T.close
      simp [tD] at app
      have lt1 : (1 : Int) < (((fr' ++ [g]).map fD ++ [D.tup [.str top.1, .loc top.2.1]]).length : Int) := by simp; omega
      simp [treeS, wp_v, len_lst frm, lt1, ck, pop, tup_loc pt1, ix_lst frm1, at_last, ckg, app]
      rw [if_pos (by omega), hG]
      refine ⟨fr'.length, by omega, fr', (g.1, g.2.1, g.2.2 ++ [.bk top.1 top.2.2]), _, _, rfl, I2, T2, ?_, rfl⟩
      simp only [frK_app, frK, knotsL_app, Tr.knots] at kn ⊢; omega
end DV
namespace DV
open PySem PySem.Spec PyProof.Rows L2
def plInts (p : List Nat) : List D := p.map fun (k : Nat) => D.int (k : Int)
@[simp] theorem rng3_int {i j : Int} : rng3 [.int i, .int j, .int (-1)] = if inR i = true ∧ inR j = true then some ((List.range (i - j).toNat).map fun (t : Nat) => .int (i - (t : Int))) else none := by
  unfold rng3
  simp
end DV
namespace DV
open PySem PySem.Spec PyProof.Rows L2
end DV
namespace DV
open PySem PySem.Spec PyProof.Rows L2
@[simp] theorem ix_ro {h : Hs} {ns : List Int} {i : Int} : ixF (.ro ns) (.int i) h = (atI ns i).map fun n => (.int n, h) := rfl
def cellI (ns : List Int) (k : Nat) : Int := (ns[k]?).getD 0
theorem cell_ok (n : Nat) (h : Hs) (ns : List Int) (k : Nat) : F__law_cell_at (n + 1) [.ro ns, .int k] h = .ok (.int (cellI ns k)) h := by
  rw [S__law_cell_at]
  refine R.wp_eq.mp ?_
  by_cases c : k < ns.length
  · have e : atI ns (k : Int) = some ns[k] := by rw [atI_nat c, List.getElem?_eq_getElem c]
    have e2 : cellI ns k = ns[k] := by unfold cellI; rw [List.getElem?_eq_getElem c]; rfl
    simp [wp_pure, wp_run, m__law_cell_at, startD, wp_v, c, e, e2, noloc]
  · have e2 : cellI ns k = 0 := by unfold cellI; rw [List.getElem?_eq_none (by omega)]; rfl
    simp [wp_pure, wp_run, m__law_cell_at, startD, wp_v, c, e2, noloc]
theorem cell0_ok (n : Nat) (h : Hs) (ns : List Int) : F__law_cell_at (n + 1) [.ro ns, .int 0] h = .ok (.int (cellI ns 0)) h := cell_ok n h ns 0
theorem slF_ro {h : Hs} {ns : List Int} {lo hi : Option Int} : slF (.ro ns) lo hi h = some (.loc h.length, h ++ [.lst ((cutL ns lo hi).map D.int)]) := rfl
theorem slF_lst {h : Hs} {l : Nat} {xs : List D} {lo hi : Option Int} (e : h[l]? = some (.lst xs)) : slF (.loc l) lo hi h = some (.loc h.length, h ++ [.lst (cutL xs lo hi)]) := by simp [slF, e]
theorem cut_from {α : Type} (xs : List α) (k : Nat) : cutL xs (some (k : Int)) none = xs.drop k := by
  unfold cutL
  have e1 : HT.sIx xs.length xs.length none = xs.length := rfl
  rw [e1, HT.sIx_nat]
  by_cases c : k ≤ xs.length
  · rw [Nat.min_eq_left c]
    exact List.take_of_length_le (by rw [List.length_drop]; omega)
  · rw [Nat.min_eq_right (by omega), List.drop_length, List.drop_eq_nil_of_le (by omega)]; simp
theorem drop1 (ns : List Int) : cutL ns (some 1) none = ns.drop 1 := cut_from ns 1
/-- the tree of the first family at the law's start -/
theorem start_tree (n : Nat) (h : Hs) (l : Nat) (cs : List Int) (first shares : Int) (hc : h[l]? = some (.lst (cs.map D.int))) :
    ∃ t : Tr, F__law_tree (n + 3) [.loc l, .int first, .int shares] h = .ok (tD t) h ∧ t.good ∧ t.knots ≤ 190 ∧ t.depth ≤ 28 := by
  obtain ⟨d, h', e, rfl, t, rfl, g⟩ := R.wp_ex (law_tree_ok n h l cs first shares hc)
  exact ⟨t, e, g⟩
@[simp] theorem p109 : cPow 10 9 = true := cPow_of (by decide) (by decide) (by decide)
@[simp] theorem p108 : cPow 10 8 = true := cPow_of (by decide) (by decide) (by decide)
@[simp] theorem p106 : cPow 10 6 = true := cPow_of (by decide) (by decide) (by decide)
@[simp] theorem m109 (i : Int) : cMod i 1000000000 = true := cMod_of (by decide)
@[simp] theorem pl_len (p : List Nat) : (plInts p).length = p.length := by simp [plInts]
end DV
namespace DV
open PySem PySem.Spec PyProof.Rows L2
def Tr.at_ : Tr → List Int → Option Tr
  | t, [] => some t
  | t, k :: p => if 0 ≤ k ∧ k < t.parts.length then (t.parts[k.toNat]?).bind fun u => u.at_ p else none
def plZ (p : List Int) : List D := p.map D.int
end DV
namespace DV
open PySem PySem.Spec PyProof.Rows L2
end DV
namespace DV
open PySem PySem.Spec PyProof.Rows L2
end DV
namespace DV
open PySem PySem.Spec PyProof.Rows L2
section
variable {α : Type}
def mD (f : α → D) (fs : List (Int × α)) : List (Key × D) := fs.map fun p => (.inl p.1, f p.2)
def mAt (fs : List (Int × α)) (k : Int) : Option α := (fs.find? fun p => decide (p.1 = k)).map (·.2)
@[simp] theorem mD_len (f : α → D) (fs : List (Int × α)) : (mD f fs).length = fs.length := List.length_map _
theorem mAt_cons (j k : Int) (a : α) (fs : List (Int × α)) : mAt ((j, a) :: fs) k = if j = k then some a else mAt fs k := by
  unfold mAt
  rw [List.find?_cons]
  by_cases c : j = k
  · simp [c]
  · simp [c]
theorem mAt_mem {fs : List (Int × α)} {k : Int} {a : α} (h : mAt fs k = some a) : (k, a) ∈ fs := by
  induction fs with
  | nil => simp [mAt] at h
  | cons p fs ih =>
    obtain ⟨j, b⟩ := p
    rw [mAt_cons] at h
    split at h
    · rename_i c
      cases h
      rw [c]; exact List.mem_cons_self
    · exact List.mem_cons_of_mem _ (ih h)
end
mutual
def Tr.fill (f : Int → Option Tr) : Tr → Tr
  | .bl k => (f k).getD (.bl k)
  | .bk s ps => .bk s (fillL f ps)
def fillL (f : Int → Option Tr) : List Tr → List Tr
  | [] => []
  | t :: ts => t.fill f :: fillL f ts
end
theorem fillL_map (f : Int → Option Tr) : ∀ ts : List Tr, fillL f ts = ts.map (Tr.fill f)
  | [] => rfl
  | t :: ts => by rw [fillL, fillL_map f ts]; rfl
@[simp] theorem fillL_len (f : Int → Option Tr) (ts : List Tr) : (fillL f ts).length = ts.length := by rw [fillL_map, List.length_map]
def numF (i : Nat) : List Int → List (Int × Tr)
  | [] => []
  | b :: bs => (b, .bl ((i : Int) + 1)) :: numF (i + 1) bs
@[simp] theorem numF_len : ∀ (bs : List Int) (i : Nat), (numF i bs).length = bs.length
  | [], _ => rfl
  | b :: bs, i => by rw [numF, List.length_cons, numF_len bs]; rfl
end DV
namespace DV
open PySem PySem.Spec PyProof.Rows L2
end DV
namespace DV
open PySem PySem.Spec PyProof.Rows L2
def Tr.size (t : Tr) : Nat × Nat := (t.knots, t.depth)
theorem knotsL_snoc (u : Tr) : ∀ ts : List Tr, knotsL (ts ++ [u]) = knotsL ts + u.knots
  | [] => by simp [knotsL]
  | t :: ts => by rw [List.cons_append, knotsL, knotsL, knotsL_snoc u ts]; omega
theorem depthL_snoc (u : Tr) : ∀ ts : List Tr, depthL (ts ++ [u]) = max (depthL ts) u.depth
  | [] => by simp [depthL]
  | t :: ts => by rw [List.cons_append, depthL, depthL, depthL_snoc u ts]; omega
def Tr.great (t : Tr) : Prop := 400 < t.knots ∨ 60 < t.depth
instance (t : Tr) : Decidable t.great := inferInstanceAs (Decidable (_ ∨ _))
end DV
namespace DV
open PySem PySem.Spec PyProof.Rows L2
end DV
namespace DV
open PySem PySem.Spec PyProof.Rows L2
end DV
namespace DV
open PySem PySem.Spec PyProof.Rows L2
def Tr.setPart : Tr → Nat → Tr → Tr
  | .bl k, _, _ => .bl k
  | .bk s ps, k, w => .bk s (ps.set k w)
def Tr.put : Tr → List Int → Tr → Option Tr
  | _, [], u => some u
  | t, k :: p, u => if 0 ≤ k ∧ k < t.parts.length then (t.parts[k.toNat]?).bind fun v => (v.put p u).map fun w => t.setPart k.toNat w else none
@[simp] theorem plZ_len (p : List Int) : (plZ p).length = p.length := by simp [plZ]
end DV
namespace DV
open PySem PySem.Spec PyProof.Rows L2
@[simp] theorem xn_FormError_NoPlace : (("FormError" : Str) = "NoPlace") = False := eq_false (by decide +kernel)
@[simp] theorem xn_FormError_BadText : (("FormError" : Str) = "BadText") = False := eq_false (by decide +kernel)
@[simp] theorem xn_FormError_TooLong : (("FormError" : Str) = "TooLong") = False := eq_false (by decide +kernel)
@[simp] theorem xn_FormError_BadPaper : (("FormError" : Str) = "BadPaper") = False := eq_false (by decide +kernel)
@[simp] theorem xn_FormError_BadName : (("FormError" : Str) = "BadName") = False := eq_false (by decide +kernel)
@[simp] theorem xn_FormError_Twice : (("FormError" : Str) = "Twice") = False := eq_false (by decide +kernel)
@[simp] theorem xn_FormError_NoForm : (("FormError" : Str) = "NoForm") = False := eq_false (by decide +kernel)
@[simp] theorem xn_NoPlace_FormError : (("NoPlace" : Str) = "FormError") = False := eq_false (by decide +kernel)
@[simp] theorem xn_NoPlace_BadText : (("NoPlace" : Str) = "BadText") = False := eq_false (by decide +kernel)
@[simp] theorem xn_NoPlace_TooLong : (("NoPlace" : Str) = "TooLong") = False := eq_false (by decide +kernel)
@[simp] theorem xn_NoPlace_BadPaper : (("NoPlace" : Str) = "BadPaper") = False := eq_false (by decide +kernel)
@[simp] theorem xn_NoPlace_BadName : (("NoPlace" : Str) = "BadName") = False := eq_false (by decide +kernel)
@[simp] theorem xn_NoPlace_Twice : (("NoPlace" : Str) = "Twice") = False := eq_false (by decide +kernel)
@[simp] theorem xn_NoPlace_NoForm : (("NoPlace" : Str) = "NoForm") = False := eq_false (by decide +kernel)
@[simp] theorem xn_BadText_FormError : (("BadText" : Str) = "FormError") = False := eq_false (by decide +kernel)
@[simp] theorem xn_BadText_NoPlace : (("BadText" : Str) = "NoPlace") = False := eq_false (by decide +kernel)
@[simp] theorem xn_BadText_TooLong : (("BadText" : Str) = "TooLong") = False := eq_false (by decide +kernel)
@[simp] theorem xn_BadText_BadPaper : (("BadText" : Str) = "BadPaper") = False := eq_false (by decide +kernel)
@[simp] theorem xn_BadText_BadName : (("BadText" : Str) = "BadName") = False := eq_false (by decide +kernel)
@[simp] theorem xn_BadText_Twice : (("BadText" : Str) = "Twice") = False := eq_false (by decide +kernel)
@[simp] theorem xn_BadText_NoForm : (("BadText" : Str) = "NoForm") = False := eq_false (by decide +kernel)
@[simp] theorem xn_TooLong_FormError : (("TooLong" : Str) = "FormError") = False := eq_false (by decide +kernel)
@[simp] theorem xn_TooLong_NoPlace : (("TooLong" : Str) = "NoPlace") = False := eq_false (by decide +kernel)
@[simp] theorem xn_TooLong_BadText : (("TooLong" : Str) = "BadText") = False := eq_false (by decide +kernel)
@[simp] theorem xn_TooLong_BadPaper : (("TooLong" : Str) = "BadPaper") = False := eq_false (by decide +kernel)
@[simp] theorem xn_TooLong_BadName : (("TooLong" : Str) = "BadName") = False := eq_false (by decide +kernel)
@[simp] theorem xn_TooLong_Twice : (("TooLong" : Str) = "Twice") = False := eq_false (by decide +kernel)
@[simp] theorem xn_TooLong_NoForm : (("TooLong" : Str) = "NoForm") = False := eq_false (by decide +kernel)
@[simp] theorem xn_BadPaper_FormError : (("BadPaper" : Str) = "FormError") = False := eq_false (by decide +kernel)
@[simp] theorem xn_BadPaper_NoPlace : (("BadPaper" : Str) = "NoPlace") = False := eq_false (by decide +kernel)
@[simp] theorem xn_BadPaper_BadText : (("BadPaper" : Str) = "BadText") = False := eq_false (by decide +kernel)
@[simp] theorem xn_BadPaper_TooLong : (("BadPaper" : Str) = "TooLong") = False := eq_false (by decide +kernel)
@[simp] theorem xn_BadPaper_BadName : (("BadPaper" : Str) = "BadName") = False := eq_false (by decide +kernel)
@[simp] theorem xn_BadPaper_Twice : (("BadPaper" : Str) = "Twice") = False := eq_false (by decide +kernel)
@[simp] theorem xn_BadPaper_NoForm : (("BadPaper" : Str) = "NoForm") = False := eq_false (by decide +kernel)
@[simp] theorem xn_BadName_FormError : (("BadName" : Str) = "FormError") = False := eq_false (by decide +kernel)
@[simp] theorem xn_BadName_NoPlace : (("BadName" : Str) = "NoPlace") = False := eq_false (by decide +kernel)
@[simp] theorem xn_BadName_BadText : (("BadName" : Str) = "BadText") = False := eq_false (by decide +kernel)
@[simp] theorem xn_BadName_TooLong : (("BadName" : Str) = "TooLong") = False := eq_false (by decide +kernel)
@[simp] theorem xn_BadName_BadPaper : (("BadName" : Str) = "BadPaper") = False := eq_false (by decide +kernel)
@[simp] theorem xn_BadName_Twice : (("BadName" : Str) = "Twice") = False := eq_false (by decide +kernel)
@[simp] theorem xn_BadName_NoForm : (("BadName" : Str) = "NoForm") = False := eq_false (by decide +kernel)
@[simp] theorem xn_Twice_FormError : (("Twice" : Str) = "FormError") = False := eq_false (by decide +kernel)
@[simp] theorem xn_Twice_NoPlace : (("Twice" : Str) = "NoPlace") = False := eq_false (by decide +kernel)
@[simp] theorem xn_Twice_BadText : (("Twice" : Str) = "BadText") = False := eq_false (by decide +kernel)
@[simp] theorem xn_Twice_TooLong : (("Twice" : Str) = "TooLong") = False := eq_false (by decide +kernel)
@[simp] theorem xn_Twice_BadPaper : (("Twice" : Str) = "BadPaper") = False := eq_false (by decide +kernel)
@[simp] theorem xn_Twice_BadName : (("Twice" : Str) = "BadName") = False := eq_false (by decide +kernel)
@[simp] theorem xn_Twice_NoForm : (("Twice" : Str) = "NoForm") = False := eq_false (by decide +kernel)
@[simp] theorem xn_NoForm_FormError : (("NoForm" : Str) = "FormError") = False := eq_false (by decide +kernel)
@[simp] theorem xn_NoForm_NoPlace : (("NoForm" : Str) = "NoPlace") = False := eq_false (by decide +kernel)
@[simp] theorem xn_NoForm_BadText : (("NoForm" : Str) = "BadText") = False := eq_false (by decide +kernel)
@[simp] theorem xn_NoForm_TooLong : (("NoForm" : Str) = "TooLong") = False := eq_false (by decide +kernel)
@[simp] theorem xn_NoForm_BadPaper : (("NoForm" : Str) = "BadPaper") = False := eq_false (by decide +kernel)
@[simp] theorem xn_NoForm_BadName : (("NoForm" : Str) = "BadName") = False := eq_false (by decide +kernel)
@[simp] theorem xn_NoForm_Twice : (("NoForm" : Str) = "Twice") = False := eq_false (by decide +kernel)
@[simp] theorem tabF_nil {c : Str} : tabF [] c = none := rfl
@[simp] theorem tabF_cons {x c : Str} {b : Bool} {r : List (Str × Bool)} : tabF ((x, b) :: r) c = if x = c then some b else tabF r c := by
  unfold tabF
  rw [List.find?_cons]
  by_cases e : x = c
  · rw [if_pos e]; simp [e]
  · rw [if_neg e]; simp [e]
@[simp] theorem isX_exn {tb : List (Str × Bool)} {c : Str} {h : Hs} : isXF tb (.exn c) h = (tabF tb c).map fun b => (.bl b, h) := rfl
theorem pyWL_bools (φ : Nat → Option PyData) : ∀ bs : List Bool, pyWL φ (bs.map D.bl) = some (bs.map PyData.bool)
  | [] => rfl
  | b :: bs => by rw [List.map_cons]; unfold pyWL; rw [pyWL_bools φ bs]; rfl
theorem eqv_bools : ∀ bs cs : List Bool, PyData.eqvAll (bs.map PyData.bool) (cs.map PyData.bool) = decide (bs = cs)
  | [], [] => by simp [PyData.eqvAll]
  | [], _ :: _ => by simp [PyData.eqvAll]
  | _ :: _, [] => by simp [PyData.eqvAll]
  | b :: bs, c :: cs => by
    have ih := eqv_bools bs cs
    simp only [List.map_cons, PyData.eqvAll, ih, PyData.eqv]
    cases b <;> cases c <;> simp
theorem canLay_bools : ∀ bs : List Bool, PyData.canLayAll0 (bs.map PyData.bool) = true
  | [] => rfl
  | b :: bs => by rw [List.map_cons]; unfold PyData.canLayAll0; rw [canLay_bools bs]; rfl
theorem dep_bools : ∀ bs : List Bool, PyData.depthAll (bs.map PyData.bool) = 0
  | [] => rfl
  | b :: bs => by rw [List.map_cons]; unfold PyData.depthAll; rw [dep_bools bs]; rfl
theorem eqB_bools {h : Hs} {i j : Nat} {bs cs : List Bool} (ei : h[i]? = some (.lst (bs.map D.bl))) (ej : h[j]? = some (.lst (cs.map D.bl))) : eqB (.loc i) (.loc j) h = some (decide (bs = cs)) := by
  unfold eqB lenNe
  simp only [ei, ej]
  split
  · rename_i c
    have c := of_decide_eq_true c
    rw [List.length_map, List.length_map] at c
    rw [decide_eq_false fun e => c (by rw [e])]
  · have e1 : pyH h (.loc i) = some (.list (bs.map PyData.bool)) := by
      unfold pyH pyW pyLoc
      simp only [ei, pyWL_bools]; rfl
    have e2 : pyH h (.loc j) = some (.list (cs.map PyData.bool)) := by
      unfold pyH pyW pyLoc
      simp only [ej, pyWL_bools]; rfl
    rw [e1, e2]
    simp only
    have d1 : (PyData.list (bs.map PyData.bool)).depth = 1 := by
      show PyData.depthAll (bs.map PyData.bool) + 1 = _
      rw [dep_bools]
    rw [if_pos ⟨canLay_bools bs, canLay_bools cs, by rw [d1]; decide⟩]
    congr 1
    exact eqv_bools bs cs
theorem eq_bools {h : Hs} {i j : Nat} {bs cs : List Bool} (ei : h[i]? = some (.lst (bs.map D.bl))) (ej : h[j]? = some (.lst (cs.map D.bl))) : eqF (.loc i) (.loc j) h = some (.bl (decide (bs = cs)), h) := by
  unfold eqF; rw [eqB_bools ei ej]; rfl
theorem add_lsts {h : Hs} {i j : Nat} {xs ys : List D} (ei : h[i]? = some (.lst xs)) (ej : h[j]? = some (.lst ys)) (z : xs.length + ys.length ≤ 16777216) : addF (.loc i) (.loc j) h = some (.loc h.length, h ++ [.lst (xs ++ ys)]) := by
  simp [addF, ei, ej, z]
end DV
namespace DV
open PySem PySem.Spec PyProof.Rows L2
end DV
namespace DV
open PySem PySem.Spec PyProof.Rows L2
end DV
namespace DV
open PySem PySem.Spec PyProof.Rows L2
/-- what the law's filling is -/
structure FilOk (fs : List (Int × Tr)) : Prop where
  nd : (fs.map (·.1)).Nodup
  len : fs.length ≤ 6
  ok : ∀ p ∈ fs, p.2.good ∧ p.2.knots ≤ 190 ∧ p.2.depth ≤ 28
theorem FilOk.at_ {fs : List (Int × Tr)} (F : FilOk fs) {k : Int} {u : Tr} (e : mAt fs k = some u) : u.good ∧ u.knots ≤ 190 ∧ u.depth ≤ 28 := F.ok _ (mAt_mem e)
end DV
namespace DV
open PySem PySem.Spec PyProof.Rows L2
end DV
namespace DV
open PySem PySem.Spec PyProof.Rows L2
end DV
namespace DV
open PySem PySem.Spec PyProof.Rows L2
end DV
namespace DV
open PySem PySem.Spec PyProof.Rows L2
end DV
namespace DV
open PySem PySem.Spec PyProof.Rows L2
mutual
def Tr.nam : Tr → Prop
  | .bl _ => True
  | .bk s ps => nameB s = true ∧ ps.length ≤ 9 ∧ namL ps
def namL : List Tr → Prop
  | [] => True
  | t :: ts => t.nam ∧ namL ts
end
noncomputable instance : DecidableEq Tr := fun _ _ => Classical.propDecidable _
theorem st_for {N : Sl → Hs → Prop} {Q : D → Hs → Prop} {X : QX} {ds : Sl} {h : Hs} {I : IM} {T : GM} {B S : SM} (its : List D) (gd : Hs → Prop) (h1 : Hs) (J : Nat → Sl → Hs → Prop) (e : (I ds h).wp (fun p h' => p = (its, gd) ∧ h' = h1) xF) (start : J 0 ds h1) (guard : ∀ i ds h, J i ds h → gd h)
    (turn : ∀ i d ds h, its[i]? = some d → J i ds h → (T d ds h).wp (fun ds h => (B ds h).wp (J (i + 1)) Q X) (fun _ _ => False) xF) (done : ∀ ds h, J its.length ds h → (S ds h).wp N Q X) : (seqM (forM I T B) S ds h).wp N Q X := by
  rw [ws_seq, ws_for, R.wp_eq.mp e]
  exact ws_loop its J start guard turn done
end DV
namespace DV
open PySem PySem.Spec PyProof.Rows L2
end DV
namespace DV
open PySem PySem.Spec PyProof.Rows L2
end DV
namespace DV
open PySem PySem.Spec PyProof.Rows L2
end DV
namespace DV
open PySem PySem.Spec PyProof.Rows L2
structure Okt (s : Str) (n : Nat) : Prop where
  len : s.length ≤ n
  sg : ∀ c ∈ s.cps.toList, c < 0x110000
theorem Okt.strOk {s : Str} {n : Nat} (h : Okt s n) : PyData.strOk s = true := by
  unfold PyData.strOk
  rw [Array.all_eq_true]
  intro i hi
  exact decide_eq_true (h.sg _ (by simp))
theorem Okt.app {a b : Str} {n m : Nat} (h : Okt a n) (g : Okt b m) : Okt (a ++ b) (n + m) := by
  refine ⟨by rw [app_len]; have := h.len; have := g.len; omega, fun c hc => ?_⟩
  have e : (a ++ b).cps.toList = a.cps.toList ++ b.cps.toList := Array.toList_append
  rw [e] at hc
  rcases List.mem_append.mp hc with hc | hc
  · exact h.sg c hc
  · exact g.sg c hc
theorem Okt.cut {a : Str} {n : Nat} (lo hi : Option Int) (h : Okt a n) : Okt (cutS a lo hi) n := by
  refine ⟨Nat.le_trans (cut_len a lo hi) h.len, fun c hc => h.sg c ?_⟩
  have e : (cutS a lo hi).cps.toList = cutL a.cps.toList lo hi := by
    unfold cutL
    simp [cutS]
    rfl
  rw [e] at hc
  exact List.mem_of_mem_drop (List.mem_of_mem_take hc)
theorem Okt.rep {a : Str} {n : Nat} (k : Nat) (h : Okt a n) : Okt (repS a k) (n * k) := by
  refine ⟨by rw [rep_size]; exact Nat.mul_le_mul_right _ h.len, fun c hc => h.sg c ?_⟩
  have e : (repS a k).cps.toList = (List.replicate k a.cps.toList).flatten := by simp [repS]
  rw [e] at hc
  obtain ⟨l, hl, hc⟩ := List.mem_flatten.mp hc
  rw [List.eq_of_mem_replicate hl] at hc
  exact hc
theorem Okt.mono {a : Str} {n m : Nat} (h : Okt a n) (l : n ≤ m) : Okt a m := ⟨Nat.le_trans h.len l, h.sg⟩
end DV
namespace DV
open PySem PySem.Spec PyProof.Rows L2
end DV
namespace DV
open PySem PySem.Spec PyProof.Rows L2
end DV
namespace DV
open PySem PySem.Spec PyProof.Rows L2
end DV
namespace DV
open PySem PySem.Spec PyProof.Rows L2
inductive Cl where
  | twice (a b : List Int)
  | unlike (a : List Int)
end DV
namespace DV
open PySem PySem.Spec PyProof.Rows L2
end DV
namespace DV
open PySem PySem.Spec PyProof.Rows L2
end DV
namespace DV
open PySem PySem.Spec PyProof.Rows L2
end DV
namespace DV
open PySem PySem.Spec PyProof.Rows L2
def sm (c : Nat) : Bool := decide (c ∈ smallS.cps.toList)
def fg (c : Nat) : Bool := decide (c ∈ figS.cps.toList)
def nmS (c : Nat) : Bool := sm c || fg c
theorem sm_iff (c : Nat) : sm c = true ↔ 97 ≤ c ∧ c ≤ 122 := by
  have e : smallS.cps.toList = (List.range 26).map (· + 97) := by decide +kernel
  unfold sm
  rw [decide_eq_true_iff, e, List.mem_map]
  constructor
  · rintro ⟨x, hx, rfl⟩
    have := List.mem_range.mp hx
    omega
  · intro h
    exact ⟨c - 97, List.mem_range.mpr (by omega), by omega⟩
theorem fg_iff (c : Nat) : fg c = true ↔ 48 ≤ c ∧ c ≤ 57 := by
  have e : figS.cps.toList = (List.range 10).map (· + 48) := by decide +kernel
  unfold fg
  rw [decide_eq_true_iff, e, List.mem_map]
  constructor
  · rintro ⟨x, hx, rfl⟩
    have := List.mem_range.mp hx
    omega
  · intro h
    exact ⟨c - 48, List.mem_range.mpr (by omega), by omega⟩
def bgn (r : List Nat) : Nat := r.headD 10
theorem bgn_nil : bgn [] = 10 := rfl
theorem bgn_cons (c : Nat) (r : List Nat) : bgn (c :: r) = c := rfl
inductive RR (α : Type) where
  | ok (a : α) (r : List Nat) (b : Nat)
  | err (c : Str)
def numL : Int → List Nat → Option (Int × List Nat)
  | n, [] => if n = 0 then none else some (n, [])
  | n, c :: r => if fg c = true then (if n * 10 + ((c : Int) - 48) = 0 ∨ 1000000000 < n * 10 + ((c : Int) - 48) then none else numL (n * 10 + ((c : Int) - 48)) r) else if n = 0 then none else some (n, c :: r)
def rdName (r : List Nat) : Option (List Nat × List Nat) := if 12 < (r.takeWhile nmS).length then none else some (r.takeWhile nmS, r.dropWhile nmS)
def rdM (T : List Nat → Nat → RR Tr) : Nat → List Nat → Nat → List Tr → RR (List Tr)
  | 0, r, b, acc => if bgn r = 44 then .err "BadText" else if bgn r = 41 then .ok acc r.tail b else .err "BadText"
  | m + 1, r, b, acc => if bgn r = 44 then (match T r.tail b with
    | .ok t r' b' => rdM T m r' b' (acc ++ [t])
    | .err c => .err c) else if bgn r = 41 then .ok acc r.tail b else .err "BadText"
def badB (r : List Nat) : Bool := decide (bgn r ≠ 63) && !sm (bgn r)
def rdP (T : List Nat → Nat → RR Tr) (r : List Nat) (b : Nat) : RR (List Tr) := match T r.tail b with
  | .ok t r2 b2 => rdM T 8 r2 b2 [t]
  | .err c => .err c
def rdT : Nat → List Nat → Nat → RR Tr
  | 0, r, b => if badB r = true then .err "BadText" else .err "TooLong"
  | l + 1, r, b => if badB r = true then .err "BadText" else if b = 200 then .err "TooLong" else if bgn r = 63 then (match numL 0 r.tail with
      | some (n, r') => .ok (.bl n) r' (b + 1)
      | none => .err "BadText")
    else match rdName r with
      | none => .err "BadText"
      | some (w, r') => if bgn r' = 40 then (match rdP (rdT l) r' (b + 1) with
          | .ok ps r3 b3 => .ok (.bk ⟨w.toArray⟩ ps) r3 b3
          | .err c => .err c)
        else .ok (.bk ⟨w.toArray⟩ []) r' (b + 1)
def rdAll (s : List Nat) : RR Tr := match rdT 30 s 0 with
  | .ok t [] b => .ok t [] b
  | .ok _ (_ :: _) _ => .err "BadText"
  | .err c => .err c
def insO (s : Str) (a b : Nat) : AO := .ins "TreeReader" [("text", .str s), ("at", .int a), ("begun", .int b)]
section
variable {h : Hs} {l a b : Nat} {s : Str}
theorem fld_text (e : h[l]? = some (insO s a b)) : fldF "TreeReader" "text" (.loc l) h = some (.str s, h) := by
  unfold fldF
  simp only [e, insO]
  rfl
theorem fld_at (e : h[l]? = some (insO s a b)) : fldF "TreeReader" "at" (.loc l) h = some (.int a, h) := by
  unfold fldF
  simp only [e, insO]
  rfl
theorem fld_begun (e : h[l]? = some (insO s a b)) : fldF "TreeReader" "begun" (.loc l) h = some (.int b, h) := by
  unfold fldF
  simp only [e, insO]
  rfl
theorem set_at (e : h[l]? = some (insO s a b)) : setFldF "TreeReader" "at" (.loc l) (.int ((a : Int) + 1)) h = some (h.set l (insO s (a + 1) b)) := by
  unfold setFldF
  simp only [e, insO]
  rw [if_pos (by simp)]
  rfl
theorem set_begun (e : h[l]? = some (insO s a b)) : setFldF "TreeReader" "begun" (.loc l) (.int ((b : Int) + 1)) h = some (h.set l (insO s a (b + 1))) := by
  unfold setFldF
  simp only [e, insO]
  rw [if_pos (by simp)]
  rfl
theorem noloc_ins : nolocO (insO s a b) = true := rfl
end
/-- texts that are read -/
structure TxOk (s : Str) : Prop where
  len : s.length ≤ 50000
  sg : ∀ c ∈ s.cps.toList, c < 0x110000
theorem drop_head {s : List Nat} {a : Nat} (h : a < s.length) : s.drop a = s[a] :: s.drop (a + 1) := List.drop_eq_getElem_cons h
def sgnS (s : Str) (a : Nat) : Str := ⟨#[bgn (s.cps.toList.drop a)]⟩
theorem lf_eq : ("\n" : Str) = ⟨#[10]⟩ := by decide +kernel
theorem sign_ok (n : Nat) (h : Hs) (l a b : Nat) (s : Str) (T : TxOk s) (e : h[l]? = some (insO s a b)) (ha : a ≤ s.length) : F_TreeReader_sign (n + 1) [.loc l] h = .ok (.str (sgnS s a)) h := by
  rw [S_TreeReader_sign]
  refine R.wp_eq.mp ?_
  have l1 : s.length ≤ 16777216 := by have := T.len; omega
  have f1 := fld_text e
  have f2 := fld_at e
  have sl := str_len s
  by_cases c : (a : Int) < (s.length : Int)
  · have hd : atI s.cps.toList (a : Int) = some (bgn (s.cps.toList.drop a)) := by
      rw [atI_nat (by omega), drop_head (by omega), bgn_cons, List.getElem?_eq_getElem (by omega)]
    simp [wp_pure, wp_run, m_TreeReader_sign, startD, wp_v, f1, f2, l1, c, hd, noloc, sgnS]
  · have hd : s.cps.toList.drop a = [] := List.drop_eq_nil_of_le (by omega)
    simp [wp_pure, wp_run, m_TreeReader_sign, startD, wp_v, f1, f2, l1, c, noloc, sgnS, hd, bgn_nil, lf_eq]
theorem meth_at {h : Hs} {l a b i : Nat} {s : Str} {ds : Sl} {φ : Fm} {As : AM} {m : Str} (ei : ds[i]? = some (some (.loc l))) (e : h[l]? = some (insO s a b)) (hm : m = "sign" ∨ m = "read_name" ∨ m = "read_number" ∨ m = "read_parts" ∨ m = "read_tree") :
    methM "TreeReader" m φ (vM i) As ds h = (As ds h).bind fun xs h => φ (.loc l :: xs) h := by
  have lk : ([("text", D.str s), ("at", .int (a : Int)), ("begun", .int (b : Int))] : List (Str × D)).lookup m = none := by
    rcases hm with rfl | rfl | rfl | rfl | rfl <;> rfl
  have ev : vM i ds h = .ok (.loc l) h := by unfold vM; rw [ei]
  unfold methM
  rw [ev, R.bind_ok]
  simp only [e, insO]
  rw [if_pos ⟨trivial, lk⟩]
theorem sgM (n : Nat) {h : Hs} {l a b : Nat} {s : Str} {ds : Sl} (T : TxOk s) (e : h[l]? = some (insO s a b)) (ha : a ≤ s.length) (ei : ds[0]? = some (some (.loc l))) : methM "TreeReader" "sign" (F_TreeReader_sign (n + 1)) (vM 0) nilA ds h = .ok (.str (sgnS s a)) h := by
  rw [meth_at ei e (.inl rfl)]
  exact sign_ok n h l a b s T e ha
end DV
namespace DV
open PySem PySem.Spec PyProof.Rows L2
theorem take_while_of {p : Nat → Bool} : ∀ {l : List Nat} {k : Nat}, (∀ c ∈ l.take k, p c = true) → k ≤ l.length → (∀ c r, l.drop k = c :: r → p c = false) → l.takeWhile p = l.take k ∧ l.dropWhile p = l.drop k
  | [], k, _, hk, _ => by
    have : k = 0 := by simpa using hk
    subst this; simp
  | c :: l, 0, _, _, h => by
    have := h c l rfl
    simp [List.takeWhile_cons, List.dropWhile_cons, this]
  | c :: l, k + 1, h1, hk, h2 => by
    have hc := h1 c (by simp)
    obtain ⟨e1, e2⟩ := take_while_of (l := l) (k := k) (p := p) (fun x hx => h1 x (by rw [List.take_succ_cons]; exact List.mem_cons_of_mem _ hx)) (by simpa using hk) (fun x r e => h2 x r (by simpa using e))
    rw [List.takeWhile_cons, List.dropWhile_cons, if_pos hc, if_pos hc, e1, e2, List.take_succ_cons, List.drop_succ_cons]
    exact ⟨rfl, rfl⟩
theorem take_while_ge {p : Nat → Bool} : ∀ {l : List Nat} {k : Nat}, (∀ c ∈ l.take k, p c = true) → k ≤ l.length → k ≤ (l.takeWhile p).length
  | [], k, _, hk => by simp at hk; omega
  | c :: l, 0, _, _ => Nat.zero_le _
  | c :: l, k + 1, h1, hk => by
    have hc := h1 c (by simp)
    have := take_while_ge (l := l) (k := k) (p := p) (fun x hx => h1 x (by rw [List.take_succ_cons]; exact List.mem_cons_of_mem _ hx)) (by simpa using hk)
    rw [List.takeWhile_cons, if_pos hc, List.length_cons]
    omega
theorem in_small {h : Hs} {s : Str} {a : Nat} : inF (.str (sgnS s a)) (.str smallS) h = some (.bl (sm (bgn (s.cps.toList.drop a))), h) := rfl
theorem in_fig {h : Hs} {s : Str} {a : Nat} : inF (.str (sgnS s a)) (.str figS) h = some (.bl (fg (bgn (s.cps.toList.drop a))), h) := rfl
theorem nin_small {h : Hs} {s : Str} {a : Nat} : ninF (.str (sgnS s a)) (.str smallS) h = some (.bl (!sm (bgn (s.cps.toList.drop a))), h) := rfl
theorem nm_lt {s : Str} {a : Nat} (h : nmS (bgn (s.cps.toList.drop a)) = true) : a < s.length := by
  rw [str_len]
  refine Classical.byContradiction fun c => ?_
  rw [List.drop_eq_nil_of_le (by omega), bgn_nil] at h
  have : nmS 10 = false := by decide +kernel
  rw [this] at h; cases h
theorem fg_lt {s : Str} {a : Nat} (h : fg (bgn (s.cps.toList.drop a)) = true) : a < s.length := nm_lt (by unfold nmS; rw [h]; simp)
theorem cut_mid (s : Str) (a b : Nat) (hab : a ≤ b) (hb : b ≤ s.length) : (cutS s (some (a : Int)) (some (b : Int))).cps.toList = (s.cps.toList.drop a).take (b - a) := by
  have e : (cutS s (some (a : Int)) (some (b : Int))).cps.toList = cutL s.cps.toList (some (a : Int)) (some (b : Int)) := by
    unfold cutL
    simp [cutS]
    rfl
  rw [e]
  unfold cutL
  have sl := str_len s
  have e1 : HT.sIx s.cps.toList.length 0 (some (a : Int)) = min a s.cps.toList.length := HT.sIx_nat _ _ a
  have e2 : HT.sIx s.cps.toList.length s.cps.toList.length (some (b : Int)) = min b s.cps.toList.length := HT.sIx_nat _ _ b
  rw [e1, e2, Nat.min_eq_left (by omega), Nat.min_eq_left (by omega)]
theorem str_eta (s : Str) : s = ⟨s.cps.toList.toArray⟩ := by cases s; simp
/-- the heap at the reader, what goes on -/
theorem ins_keep {h r : Hs} {l : Nat} {o : AO} (ho : nolocO o = true) : ∀ (i : Nat) (x : AO), i < h.length → (h.set l o ++ r)[i]? = some x → h[i]? = some x ∨ nolocO x = true := by
  intro i x hi e
  rw [List.getElem?_append_left (by rw [List.length_set]; exact hi)] at e
  by_cases c : i = l
  · subst c
    rw [List.getElem?_set_self hi] at e
    cases e
    exact .inr ho
  · rw [List.getElem?_set_ne (Ne.symm c)] at e
    exact .inl e
theorem ins_keep0 {h : Hs} {l : Nat} {o : AO} (ho : nolocO o = true) : ∀ (i : Nat) (x : AO), i < h.length → (h.set l o)[i]? = some x → h[i]? = some x ∨ nolocO x = true := by
  have := ins_keep (h := h) (r := []) (l := l) ho
  simpa using this
theorem set_take {h r : Hs} {l : Nat} {o : AO} : (h.set l o ++ r).take h.length = h.set l o := by
  have : h.length = (h.set l o).length := by rw [List.length_set]
  rw [this, List.take_left']
  rfl
theorem set_take0 {h : Hs} {l : Nat} {o : AO} : (h.set l o).take h.length = h.set l o := List.take_of_length_le (by rw [List.length_set]; omega)
theorem read_name_ok (n : Nat) (h : Hs) (l a b : Nat) (s : Str) (T : TxOk s) (e : h[l]? = some (insO s a b)) (ha : a ≤ s.length) :
    (F_TreeReader_read_name (n + 2) [.loc l] h).wp (fun d h' => ∃ w a', rdName (s.cps.toList.drop a) = some (w, s.cps.toList.drop a') ∧ a ≤ a' ∧ a' ≤ s.length ∧ d = .str ⟨w.toArray⟩ ∧ h' = h.set l (insO s a' b))
      (fun c h' => rdName (s.cps.toList.drop a) = none ∧ c = "BadText" ∧ ∃ a', h' = h.set l (insO s a' b)) := by
  have lt : l < h.length := (List.getElem?_eq_some_iff.mp e).1
  have sl := str_len s
  have s1 : s.length ≤ 16777216 := by have := T.len; omega
  rw [S_TreeReader_read_name]
  refine wp_eff ?_
  rw [wp_run]
  refine ⟨rfl, ?_⟩
  unfold m_TreeReader_read_name
  simp only [startD, List.map_cons, List.map_nil, List.length_cons, List.length_nil]
  refine st_set (.int a) h (by simp [wp_v, fld_at e]) ?_
  simp only [List.set_cons_succ, List.set_cons_zero, List.replicate, List.cons_append, List.nil_append]
  rw [ws_seq]
  obtain ⟨J, hJ⟩ : ∃ J : Nat → Sl → Hs → Prop, J = fun k ds h' => ∃ a', k = s.length - a' ∧ a ≤ a' ∧ a' ≤ s.length ∧ a' - a ≤ 12 ∧ (∀ c ∈ (s.cps.toList.drop a).take (a' - a), nmS c = true) ∧ h' = h.set l (insO s a' b) ∧ ds = [some (.loc l), some (.int a)] := ⟨_, rfl⟩
  have h0 : h.set l (insO s a b) = h := by
    obtain ⟨q, e⟩ := List.getElem?_eq_some_iff.mp e
    rw [← e]; exact List.set_getElem_self q
  refine ws_while J FUEL (s.length - a) (by unfold FUEL; have := T.len; omega) (by rw [hJ]; exact ⟨a, rfl, Nat.le_refl _, ha, by omega, by simp, h0.symm, rfl⟩) ?_
  intro k ds h' hj
  rw [hJ] at hj
  obtain ⟨a', rfl, aa, al, a12, hn, rfl, rfl⟩ := hj
  have e' : (h.set l (insO s a' b))[l]? = some (insO s a' b) := by rw [List.getElem?_set_self lt]
  have sg := sgM n (ds := [some (.loc l), some (.int a)]) T e' al rfl
  have fa := fld_at e'
  have ft := fld_text e'
  obtain ⟨G, hG⟩ : ∃ G, G = h.set l (insO s a' b) := ⟨_, rfl⟩
  have st := set_at e'
  rw [List.set_set] at st
  rw [← hG] at sg fa ft st e' ⊢
  cases z : nmS (bgn (s.cps.toList.drop a')) with
  | true =>
    have al2 := nm_lt z
    have e2 : (h.set l (insO s (a' + 1) b))[l]? = some (insO s (a' + 1) b) := by rw [List.getElem?_set_self lt]
    have fa2 := fld_at e2
    have tst : (orM (tbM (binM inF (methM "TreeReader" "sign" (F_TreeReader_sign (n + 1)) (vM 0) nilA) (cM (.str smallS)))) (tbM (binM inF (methM "TreeReader" "sign" (F_TreeReader_sign (n + 1)) (vM 0) nilA) (cM (.str figS)))) [some (.loc l), some (.int a)] G).wp (fun b' h' => b' = true ∧ h' = G) xF := by
      unfold nmS at z
      cases z1 : sm (bgn (s.cps.toList.drop a')) with
      | true => simp [-wp_meth, sg, in_small, z1]
      | false =>
        rw [z1, Bool.false_or] at z
        simp [-wp_meth, sg, in_small, z1, in_fig, z]
    rw [R.wp_eq.mp tst]
    simp only [wp_ok, if_true]
    have hn2 : ∀ c ∈ (s.cps.toList.drop a).take (a' + 1 - a), nmS c = true := by
      intro c hc
      have e1 : a' + 1 - a = (a' - a) + 1 := by omega
      have lt2 : a' - a < (s.cps.toList.drop a).length := by rw [List.length_drop]; omega
      rw [e1, List.take_add_one, List.getElem?_eq_getElem lt2] at hc
      rcases List.mem_append.mp hc with hc | hc
      · exact hn c hc
      · have ec : c = (s.cps.toList.drop a)[a' - a] := by simpa using hc
        have hd : bgn (s.cps.toList.drop a') = c := by
          rw [drop_head (by omega), bgn_cons, ec, List.getElem_drop]
          congr 1; omega
        rw [← hd]; exact z
    by_cases c12 : (12 : Int) < (a' : Int) + 1 - (a : Int)
    · have ge := take_while_ge (p := nmS) hn2 (by rw [List.length_drop]; omega)
      have none_ : rdName (s.cps.toList.drop a) = none := by unfold rdName; rw [if_pos (by omega)]
      simp [wp_v, fa, st, fa2, c12, none_]
      exact ⟨ins_keep0 noloc_ins, a' + 1, set_take0⟩
    · have fin : ∃ j, j < s.length - a' ∧ J j [some (.loc l), some (.int a)] (h.set l (insO s (a' + 1) b)) := by
        refine ⟨s.length - (a' + 1), by omega, ?_⟩
        rw [hJ]
        exact ⟨a' + 1, rfl, by omega, by omega, by omega, hn2, rfl, rfl⟩
      simp [wp_v, fa, st, fa2, c12]
      exact fin
  | false =>
    have tst : (orM (tbM (binM inF (methM "TreeReader" "sign" (F_TreeReader_sign (n + 1)) (vM 0) nilA) (cM (.str smallS)))) (tbM (binM inF (methM "TreeReader" "sign" (F_TreeReader_sign (n + 1)) (vM 0) nilA) (cM (.str figS)))) [some (.loc l), some (.int a)] G).wp (fun b' h' => b' = false ∧ h' = G) xF := by
      unfold nmS at z
      obtain ⟨z1, z2⟩ := Bool.or_eq_false_iff.mp z
      simp [-wp_meth, sg, in_small, z1, in_fig, z2]
    rw [R.wp_eq.mp tst]
    simp only [wp_ok, Bool.false_eq_true, if_false]
    obtain ⟨t1, t2⟩ := take_while_of (p := nmS) (l := s.cps.toList.drop a) (k := a' - a) hn (by rw [List.length_drop]; omega) fun c r ec => by
      rw [List.drop_drop, show a + (a' - a) = a' by omega] at ec
      rw [ec, bgn_cons] at z
      exact z
    have nm : rdName (s.cps.toList.drop a) = some ((s.cps.toList.drop a).take (a' - a), s.cps.toList.drop a') := by
      unfold rdName
      rw [t1, t2, List.drop_drop, show a + (a' - a) = a' by omega, if_neg (by rw [List.length_take]; omega)]
    have sc : ∀ h, slF (.str s) (some (a : Int)) (some (a' : Int)) h = some (.str ⟨((s.cps.toList.drop a).take (a' - a)).toArray⟩, h) := fun h => by
      unfold slF
      simp only [hL, if_pos s1]
      rw [str_eta (cutS s (some (a : Int)) (some (a' : Int))), cut_mid s a a' aa al]
    simp [wp_v, fa, ft, sc, nm, noloc]
    rw [hG]
    exact ⟨ins_keep0 noloc_ins, _, a', ⟨rfl, rfl⟩, aa, al, rfl, set_take0⟩
end DV
namespace DV
open PySem PySem.Spec PyProof.Rows L2
theorem find_fig {c : Nat} (h : fg c = true) : Txt.find figS ⟨#[c]⟩ = (c : Int) - 48 := by
  have all : ∀ k : Fin 10, Txt.find figS ⟨#[48 + k.val]⟩ = (k.val : Int) := by decide +kernel
  obtain ⟨h1, h2⟩ := (fg_iff c).mp h
  have := all ⟨c - 48, by omega⟩
  simp only at this
  rw [show 48 + (c - 48) = c by omega] at this
  rw [this]; omega
theorem numL_cons {n : Int} {c : Nat} {r : List Nat} (h : fg c = true) : numL n (c :: r) = if n * 10 + ((c : Int) - 48) = 0 ∨ 1000000000 < n * 10 + ((c : Int) - 48) then none else numL (n * 10 + ((c : Int) - 48)) r := by
  rw [numL, if_pos h]
theorem numL_stop {n : Int} {r : List Nat} (h : fg (bgn r) = false) : numL n r = if n = 0 then none else some (n, r) := by
  cases r with
  | nil => rfl
  | cons c r => rw [numL, if_neg (by rw [bgn_cons] at h; rw [h]; exact Bool.false_ne_true)]
theorem read_number_ok (n : Nat) (h : Hs) (l a b : Nat) (s : Str) (T : TxOk s) (e : h[l]? = some (insO s a b)) (ha : a ≤ s.length) :
    (F_TreeReader_read_number (n + 2) [.loc l] h).wp (fun d h' => ∃ m a', numL 0 (s.cps.toList.drop a) = some (m, s.cps.toList.drop a') ∧ a' ≤ s.length ∧ d = .int m ∧ h' = h.set l (insO s a' b))
      (fun c h' => numL 0 (s.cps.toList.drop a) = none ∧ c = "BadText" ∧ ∃ a', h' = h.set l (insO s a' b)) := by
  have lt : l < h.length := (List.getElem?_eq_some_iff.mp e).1
  have sl := str_len s
  rw [S_TreeReader_read_number]
  refine wp_eff ?_
  rw [wp_run]
  refine ⟨rfl, ?_⟩
  unfold m_TreeReader_read_number
  simp only [startD, List.map_cons, List.map_nil, List.length_cons, List.length_nil]
  refine st_set (.int 0) h ⟨rfl, rfl⟩ ?_
  simp only [List.set_cons_succ, List.set_cons_zero, List.replicate, List.cons_append, List.nil_append]
  rw [ws_seq]
  obtain ⟨J, hJ⟩ : ∃ J : Nat → Sl → Hs → Prop, J = fun k ds h' => ∃ (a' : Nat) (m : Int), k = s.length - a' ∧ a' ≤ s.length ∧ numL 0 (s.cps.toList.drop a) = numL m (s.cps.toList.drop a') ∧ 0 ≤ m ∧ m ≤ 1000000000 ∧ h' = h.set l (insO s a' b) ∧ ds = [some (.loc l), some (.int m)] := ⟨_, rfl⟩
  have h0 : h.set l (insO s a b) = h := by
    obtain ⟨q, e⟩ := List.getElem?_eq_some_iff.mp e
    rw [← e]; exact List.set_getElem_self q
  refine ws_while J FUEL (s.length - a) (by unfold FUEL; have := T.len; omega) (by rw [hJ]; exact ⟨a, 0, rfl, ha, rfl, by omega, by omega, h0.symm, rfl⟩) ?_
  intro k ds h' hj
  rw [hJ] at hj
  obtain ⟨a', m, rfl, al, hn, m0, m9, rfl, rfl⟩ := hj
  have e' : (h.set l (insO s a' b))[l]? = some (insO s a' b) := by rw [List.getElem?_set_self lt]
  have sg := fun x => sgM n (ds := [some (.loc l), x]) T e' al rfl
  have fa := fld_at e'
  obtain ⟨G, hG⟩ : ∃ G, G = h.set l (insO s a' b) := ⟨_, rfl⟩
  have st := set_at e'
  rw [List.set_set] at st
  rw [← hG] at sg fa st e' ⊢
  have m10 : cMul m 10 = true := cMul_r (by decide) (by decide)
  cases z : fg (bgn (s.cps.toList.drop a')) with
  | true =>
    have al2 := fg_lt z
    have hd : s.cps.toList.drop a' = bgn (s.cps.toList.drop a') :: s.cps.toList.drop (a' + 1) := by
      rw [drop_head (by omega), bgn_cons]
    have ff := find_fig z
    obtain ⟨c48, c57⟩ := (fg_iff _).mp z
    generalize hc : bgn (s.cps.toList.drop a') = c at z ff hd c48 c57
    have ck : ∀ h, ckStr (.str figS) h = true := fun h => rfl
    have fn : ∀ h, findF (.str figS) [.str (sgnS s a')] h = some (.int ((c : Int) - 48), h) := fun h => by
      unfold findF sgnS
      rw [hc]
      simp only [ff]
    rw [hd, numL_cons z] at hn
    by_cases cb : m * 10 + ((c : Int) - 48) = 0 ∨ 1000000000 < m * 10 + ((c : Int) - 48)
    · rw [if_pos cb] at hn
      have tst : (orM (tbM (binM eqF (vM 1) (cM (.int 0)))) (tbM (binM gtF (vM 1) (cM (.int 1000000000)))) [some (.loc l), some (.int (m * 10 + ((c : Int) - 48)))] G).wp (fun b h => b = true ∧ h = G) xF := by
        by_cases c0 : m * 10 + ((c : Int) - 48) = 0
        · simp [wp_v, c0]
        · have c1 : 1000000000 < m * 10 + ((c : Int) - 48) := by omega
          simp [wp_v, c0, c1]
      have w1 : (tbM (binM inF (methM "TreeReader" "sign" (F_TreeReader_sign (n + 1)) (vM 0) nilA) (cM (.str figS))) [some (.loc l), some (.int m)] G).wp (fun b h => b = true ∧ h = G) xF := by
        simp [-wp_meth, sg, in_fig, hc, z, wp_v]
      rw [R.wp_eq.mp w1]
      simp only [wp_ok, if_true]
      simp [-wp_meth, -wp_or, -wp_tb, wp_v, sg, m10, ck, fn]
      rw [R.wp_eq.mp tst]
      simp [wp_v, hn]
      rw [hG]
      exact ⟨ins_keep0 noloc_ins, a', set_take0⟩
    · rw [if_neg cb] at hn
      have c0 : ¬ m * 10 + ((c : Int) - 48) = 0 := fun z => cb (.inl z)
      have c1 : ¬ 1000000000 < m * 10 + ((c : Int) - 48) := fun z => cb (.inr z)
      have fin : ∃ j, j < s.length - a' ∧ J j [some (.loc l), some (.int (m * 10 + ((c : Int) - 48)))] (h.set l (insO s (a' + 1) b)) := by
        refine ⟨s.length - (a' + 1), by omega, ?_⟩
        rw [hJ]
        exact ⟨a' + 1, _, rfl, by omega, hn, by omega, by omega, rfl, rfl⟩
      simp [-wp_meth, sg, in_fig, hc, z, wp_v, m10, ck, fn, c0, c1, fa, st, fin]
  | false =>
    rw [numL_stop z] at hn
    by_cases c0 : m = 0
    · rw [if_pos c0] at hn
      simp [-wp_meth, sg, in_fig, z, wp_v, c0, hn]
      rw [hG]
      exact ⟨ins_keep0 noloc_ins, a', set_take0⟩
    · rw [if_neg c0] at hn
      simp [-wp_meth, sg, in_fig, z, wp_v, c0, hn, noloc]
      rw [hG]
      exact ⟨ins_keep0 noloc_ins, m, a', ⟨rfl, rfl⟩, al, rfl, set_take0⟩
end DV
namespace DV
open PySem PySem.Spec PyProof.Rows L2
theorem bgn_lt {s : Str} (T : TxOk s) (a : Nat) : bgn (s.cps.toList.drop a) < 0x110000 := by
  cases e : s.cps.toList.drop a with
  | nil => rw [bgn_nil]; decide
  | cons c r =>
    rw [bgn_cons]
    exact T.sg c (List.mem_of_mem_drop (by rw [e]; exact List.mem_cons_self))
theorem one_ok {c : Nat} (h : c < 0x110000) : PyData.strOk ⟨#[c]⟩ = true := by
  unfold PyData.strOk
  simp
  exact h
theorem one_eq {c d : Nat} : (⟨#[c]⟩ : Str) = ⟨#[d]⟩ ↔ c = d := by
  constructor
  · intro h
    injection h with h
    simpa using h
  · rintro rfl; rfl
theorem eq_sgn {h : Hs} {s : Str} {a : Nat} (T : TxOk s) {lit : Str} {c : Nat} (hl : lit = ⟨#[c]⟩) (hc : c < 0x110000) : eqF (.str (sgnS s a)) (.str lit) h = some (.bl (decide (bgn (s.cps.toList.drop a) = c)), h) := by
  rw [hl]
  unfold sgnS
  rw [eq_strs (one_ok (bgn_lt T a)) (one_ok hc)]
  congr 3
  exact decide_eq_decide.mpr one_eq
theorem ne_sgn {h : Hs} {s : Str} {a : Nat} (T : TxOk s) {lit : Str} {c : Nat} (hl : lit = ⟨#[c]⟩) (hc : c < 0x110000) : neF (.str (sgnS s a)) (.str lit) h = some (.bl (!decide (bgn (s.cps.toList.drop a) = c)), h) := by
  rw [hl]
  unfold sgnS
  rw [ne_strs (one_ok (bgn_lt T a)) (one_ok hc)]
  congr 4
  exact decide_eq_decide.mpr one_eq
theorem lit_comma : ("," : Str) = ⟨#[44]⟩ := by decide +kernel
theorem lit_close : (")" : Str) = ⟨#[41]⟩ := by decide +kernel
theorem lit_open : ("(" : Str) = ⟨#[40]⟩ := by decide +kernel
theorem lit_ask : ("?" : Str) = ⟨#[63]⟩ := by decide +kernel
theorem bgn_lt_len {s : Str} {a c : Nat} (h : bgn (s.cps.toList.drop a) = c) (hc : c ≠ 10) : a < s.length := by
  rw [str_len]
  refine Classical.byContradiction fun z => hc ?_
  rw [List.drop_eq_nil_of_le (by omega), bgn_nil] at h
  exact h.symm
theorem rtM {h : Hs} {l a b : Nat} {s : Str} {ds : Sl} {φ : Fm} {d : D} {m : Str} (e : h[l]? = some (insO s a b)) (e0 : ds[0]? = some (some (.loc l))) (e1 : ds[1]? = some (some d)) (hm : m = "sign" ∨ m = "read_name" ∨ m = "read_number" ∨ m = "read_parts" ∨ m = "read_tree") :
    methM "TreeReader" m φ (vM 0) (consA (vM 1) nilA) ds h = φ [.loc l, d] h := by
  rw [meth_at e0 e hm]
  have ev : vM 1 ds h = .ok d h := by unfold vM; rw [e1]
  unfold consA nilA
  rw [ev]; rfl
theorem rsM {h : Hs} {l a b : Nat} {s : Str} {ds : Sl} {φ : Fm} {m : Str} (e : h[l]? = some (insO s a b)) (e0 : ds[0]? = some (some (.loc l))) (hm : m = "sign" ∨ m = "read_name" ∨ m = "read_number" ∨ m = "read_parts" ∨ m = "read_tree") :
    methM "TreeReader" m φ (vM 0) nilA ds h = φ [.loc l] h := by
  rw [meth_at e0 e hm]; rfl
def TreeAt (L n : Nat) : Prop := ∀ (h : Hs) (l a b deep : Nat) (s : Str), TxOk s → h[l]? = some (insO s a b) → a ≤ s.length → deep + L = 31 →
  (F_TreeReader_read_tree n [.loc l, .int deep] h).wp (fun d h' => ∃ t a' b', rdT L (s.cps.toList.drop a) b = .ok t (s.cps.toList.drop a') b' ∧ a' ≤ s.length ∧ d = tD t ∧ h' = h.set l (insO s a' b'))
    (fun c h' => rdT L (s.cps.toList.drop a) b = .err c ∧ ∃ a' b', h' = h.set l (insO s a' b'))
def PartsAt (L n : Nat) : Prop := ∀ (h : Hs) (l a b deep : Nat) (s : Str), TxOk s → h[l]? = some (insO s a b) → a < s.length → deep + L = 31 →
  (F_TreeReader_read_parts n [.loc l, .int deep] h).wp (fun d h' => ∃ ts a' b', rdP (rdT L) (s.cps.toList.drop a) b = .ok ts (s.cps.toList.drop a') b' ∧ a' ≤ s.length ∧ d = .tup (tDs ts) ∧ h' = h.set l (insO s a' b'))
    (fun c h' => rdP (rdT L) (s.cps.toList.drop a) b = .err c ∧ ∃ a' b', h' = h.set l (insO s a' b'))
theorem rdM_m {T : List Nat → Nat → RR Tr} {m : Nat} {r : List Nat} {b : Nat} {acc : List Tr} : rdM T m r b acc = if bgn r = 44 then (match m with
    | 0 => .err "BadText"
    | m + 1 => match T r.tail b with
      | .ok t r' b' => rdM T m r' b' (acc ++ [t])
      | .err c => .err c) else if bgn r = 41 then .ok acc r.tail b else .err "BadText" := by
  cases m <;> rfl
theorem parts_ok (L n : Nat) (TA : TreeAt L (n + 1)) : PartsAt L (n + 2) := by
  intro h l a b deep s T e ha hd
  have lt : l < h.length := (List.getElem?_eq_some_iff.mp e).1
  have sl := str_len s
  rw [show F_TreeReader_read_parts (n + 2) = _ from S_TreeReader_read_parts (n + 1)]
  refine wp_eff ?_
  rw [wp_run]
  refine ⟨rfl, ?_⟩
  unfold m_TreeReader_read_parts
  simp only [startD, List.map_cons, List.map_nil, List.length_cons, List.length_nil]
  simp only [List.set_cons_succ, List.set_cons_zero, List.replicate, List.cons_append, List.nil_append]
  have e1 : (h.set l (insO s (a + 1) b))[l]? = some (insO s (a + 1) b) := by rw [List.getElem?_set_self lt]
  refine st_seq [some (.loc l), some (.int deep), none] (h.set l (insO s (a + 1) b)) (by simp [wp_v, fld_at e, set_at e]) ?_
  have tl : (s.cps.toList.drop a).tail = s.cps.toList.drop (a + 1) := by rw [List.tail_drop]
  rw [ws_seq, ws_set, wp_arg, wp_consA]
  rw [rtM (h := h.set l (insO s (a + 1) b)) (ds := [some (.loc l), some (.int deep), none]) e1 rfl rfl (.inr (.inr (.inr (.inr rfl))))]
  refine R.wp_mono (TA _ l (a + 1) b deep s T e1 (by omega) hd) ?_ ?_
  · rintro d h1 ⟨t, a1, b1, hr, al1, rfl, rfl⟩
    rw [List.set_set]
    have hP : rdP (rdT L) (s.cps.toList.drop a) b = rdM (rdT L) 8 (s.cps.toList.drop a1) b1 [t] := by
      unfold rdP
      rw [tl, hr]
    rw [hP]
    clear hP hr
    generalize hR : rdM (rdT L) 8 (s.cps.toList.drop a1) b1 [t] = Rz
    simp only [wp_nilA, wp_ofO, lst_F, List.length_cons, List.length_nil]
    rw [if_pos (by decide)]
    simp only [List.set_cons_succ, List.set_cons_zero, List.length_set]
    rw [ws_seq]
    obtain ⟨J, hJ⟩ : ∃ J : Nat → Sl → Hs → Prop, J = fun k ds h' => ∃ (acc : List Tr) (a' b' : Nat), acc.length + k = 9 ∧ 1 ≤ acc.length ∧ a' ≤ s.length ∧ rdM (rdT L) k (s.cps.toList.drop a') b' acc = Rz ∧ h' = h.set l (insO s a' b') ++ [.lst (tDs acc)] ∧ ds = [some (.loc l), some (.int deep), some (.loc h.length)] := ⟨_, rfl⟩
    refine ws_while J FUEL 8 (by decide) (by rw [hJ]; exact ⟨[t], a1, b1, rfl, Nat.le_refl _, al1, hR, by simp [tDs], rfl⟩) ?_
    intro k ds h' hj
    rw [hJ] at hj
    obtain ⟨acc, a', b', hk, ha1, al, hr, rfl, rfl⟩ := hj
    have e' : (h.set l (insO s a' b') ++ [AO.lst (tDs acc)])[l]? = some (insO s a' b') := get_app (by rw [List.getElem?_set_self lt])
    have el : (h.set l (insO s a' b') ++ [AO.lst (tDs acc)])[h.length]? = some (.lst (tDs acc)) := by
      have : h.length = (h.set l (insO s a' b')).length := by rw [List.length_set]
      rw [this]; simp
    have sg := fun x y => sgM n (ds := [some (.loc l), x, y]) T e' al rfl
    have eqc := fun h => eq_sgn (h := h) (a := a') T lit_comma (by decide)
    have nec := fun h => ne_sgn (h := h) (a := a') T lit_close (by decide)
    have fa := fld_at e'
    have st := set_at e'
    rw [set_app (by rw [List.length_set]; exact lt), List.set_set] at st
    rw [rdM_m] at hr
    by_cases c : bgn (s.cps.toList.drop a') = 44
    · rw [if_pos c] at hr
      have al2 := bgn_lt_len c (by decide)
      rw [decide_eq_true c] at eqc
      have le := len_lst el
      rw [tDs_len] at le
      cases k with
      | zero =>
        simp only at hr
        have c9 : (acc.length : Int) = 9 := by omega
        simp [-wp_meth, wp_v, sg, eqc, le, c9, ← hr]
        exact ⟨fun i o hi e => by
          rcases ins_keep (r := [AO.lst (tDs acc)]) noloc_ins i o hi e with q | q
          · exact .inl q
          · exact .inr q, a', b', rfl⟩
      | succ k =>
        simp only at hr
        have c9 : ¬ (acc.length : Int) = 9 := by omega
        have e2 : (h.set l (insO s (a' + 1) b') ++ [AO.lst (tDs acc)])[l]? = some (insO s (a' + 1) b') := get_app (by rw [List.getElem?_set_self lt])
        have rt := rtM (h := h.set l (insO s (a' + 1) b') ++ [AO.lst (tDs acc)]) (φ := F_TreeReader_read_tree (n + 1)) (ds := [some (.loc l), some (.int deep), some (.loc h.length)]) e2 rfl rfl (.inr (.inr (.inr (.inr rfl))))
        have ta := TA _ l (a' + 1) b' deep s T e2 (by omega) hd
        rw [show s.cps.toList.drop (a' + 1) = (s.cps.toList.drop a').tail from (List.tail_drop).symm] at ta
        have el2 : (h.set l (insO s (a' + 1) b') ++ [AO.lst (tDs acc)])[h.length]? = some (.lst (tDs acc)) := by
          have : h.length = (h.set l (insO s (a' + 1) b')).length := by rw [List.length_set]
          rw [this]; simp
        have ck := ck_lst el2
        simp [-wp_meth, wp_v, sg, eqc, le, c9, fa, st, ck, rt]
        refine R.wp_mono ta ?_ ?_
        · rintro d h2 ⟨u, a2, b2, hu, al3, rfl, rfl⟩
          rw [hu] at hr
          simp only at hr
          rw [set_app (by rw [List.length_set]; exact lt), List.set_set]
          have el3 : (h.set l (insO s a2 b2) ++ [AO.lst (tDs acc)])[h.length]? = some (.lst (tDs acc)) := by
            have : h.length = (h.set l (insO s a2 b2)).length := by rw [List.length_set]
            rw [this]; simp
          have ap := append_lst (v := tD u) el3 (by rw [tDs_len]; omega)
          have sa : (h.set l (insO s a2 b2) ++ [AO.lst (tDs acc)]).set h.length (.lst (tDs acc ++ [tD u])) = h.set l (insO s a2 b2) ++ [.lst (tDs (acc ++ [u]))] := by
            have : h.length = (h.set l (insO s a2 b2)).length := by rw [List.length_set]
            rw [this, List.set_append_right _ _ (Nat.le_refl _), Nat.sub_self, tDs_app]; rfl
          rw [sa] at ap
          have fin : ∃ j, j < k + 1 ∧ J j [some (.loc l), some (.int deep), some (.loc h.length)] (h.set l (insO s a2 b2) ++ [.lst (tDs (acc ++ [u]))]) := by
            refine ⟨k, by omega, ?_⟩
            rw [hJ]
            exact ⟨acc ++ [u], a2, b2, by simp; omega, by simp, al3, hr, rfl, rfl⟩
          simp [ap, fin]
        · rintro c' h2 ⟨hu, a2, b2, rfl⟩
          rw [hu] at hr
          simp only at hr
          rw [set_app (by rw [List.length_set]; exact lt), List.set_set]
          exact ⟨fun i o hi e => ins_keep (r := [AO.lst (tDs acc)]) noloc_ins i o hi e, hr.symm, a2, b2, set_take⟩
    · rw [if_neg c] at hr
      rw [decide_eq_false c] at eqc
      by_cases c41 : bgn (s.cps.toList.drop a') = 41
      · rw [if_pos c41] at hr
        have al2 := bgn_lt_len c41 (by decide)
        rw [decide_eq_true c41] at nec
        have el2 : (h.set l (insO s (a' + 1) b') ++ [AO.lst (tDs acc)])[h.length]? = some (.lst (tDs acc)) := by
          have : h.length = (h.set l (insO s (a' + 1) b')).length := by rw [List.length_set]
          rw [this]; simp
        have tp := tup_loc el2
        have nl := noloc_tDs acc
        rw [List.tail_drop] at hr
        simp [-wp_meth, wp_v, sg, eqc, nec, fa, st, tp, noloc, nl]
        exact ⟨fun i o hi e => ins_keep (r := [AO.lst (tDs acc)]) noloc_ins i o hi e, acc, a' + 1, b', hr.symm, by omega, rfl, rfl⟩
      · rw [if_neg c41] at hr
        rw [decide_eq_false c41] at nec
        simp [-wp_meth, wp_v, sg, eqc, nec, ← hr]
        exact ⟨fun i o hi e => ins_keep (r := [AO.lst (tDs acc)]) noloc_ins i o hi e, a', b', rfl⟩
  · rintro c h1 ⟨hr, a1, b1, rfl⟩
    rw [List.set_set]
    refine ⟨ins_keep0 noloc_ins, ?_, a1, b1, set_take0⟩
    unfold rdP
    rw [tl, hr]
end DV
namespace DV
open PySem PySem.Spec PyProof.Rows L2
theorem tree_read : ∀ (L n : Nat), 2 * L + 3 ≤ n → TreeAt L n := by
  intro L
  induction L with
  | zero =>
    intro n hn h l a b deep s T e ha hd
    obtain ⟨n, rfl⟩ : ∃ m, n = m + 3 := ⟨n - 3, by omega⟩
    rw [show F_TreeReader_read_tree (n + 3) = kEff.f (runM 2 4 (m_TreeReader_read_tree (F_TreeReader_sign (n + 2)) (F_TreeReader_read_parts (n + 2)) (F_TreeReader_read_name (n + 2)) (F_TreeReader_read_number (n + 2)))) from rfl]
    refine wp_eff ?_
    rw [wp_run]
    refine ⟨rfl, ?_⟩
    unfold m_TreeReader_read_tree
    simp only [startD, List.map_cons, List.map_nil, List.length_cons, List.length_nil]
    simp only [List.set_cons_succ, List.set_cons_zero, List.replicate, List.cons_append, List.nil_append]
    have sg := fun x y z => sgM (n + 1) (ds := [some (.loc l), x, y, z]) T e ha rfl
    have nq := fun h => ne_sgn (h := h) (a := a) T lit_ask (by decide)
    have fb := fld_begun e
    have hs : h.set l (insO s a b) = h := by
      obtain ⟨q, e⟩ := List.getElem?_eq_some_iff.mp e
      rw [← e]; exact List.set_getElem_self q
    have ns := fun h => nin_small (h := h) (s := s) (a := a)
    refine st_set (.str (sgnS s a)) h (by simp [-wp_meth, sg]) ?_
    have d31 : (deep : Int) = 31 := by omega
    cases z : badB (s.cps.toList.drop a) with
    | true =>
      have er : rdT 0 (s.cps.toList.drop a) b = .err "BadText" := by rw [rdT, if_pos z]
      unfold badB at z
      obtain ⟨z1, z2⟩ := Bool.and_eq_true_iff.mp z
      have z1 := of_decide_eq_true z1
      rw [decide_eq_false z1] at nq
      have z2 : sm (bgn (s.cps.toList.drop a)) = false := by simpa using z2
      rw [z2] at ns
      simp [-wp_meth, wp_v, nq, ns, er]
      exact ⟨fun i o _ e => .inl e, a, b, hs.symm⟩
    | false =>
      have er : rdT 0 (s.cps.toList.drop a) b = .err "TooLong" := by rw [rdT, z]; rfl
      have T1 : (andM (tbM (binM neF (vM 2) (cM (.str "?")))) (tbM (binM ninF (vM 2) (cM (.str smallS)))) [some (.loc l), some (.int deep), some (.str (sgnS s a)), none] h).wp (fun b h' => b = false ∧ h' = h) xF := by
        unfold badB at z
        by_cases c : bgn (s.cps.toList.drop a) = 63
        · rw [decide_eq_true c] at nq
          simp [wp_v, nq]
        · rw [decide_eq_true (show bgn (s.cps.toList.drop a) ≠ 63 from c), Bool.true_and] at z
          rw [decide_eq_false c] at nq
          rw [z] at ns
          simp [wp_v, nq, ns]
      refine st_guard h T1 ?_
      simp [-wp_meth, wp_v, fb, d31, er]
      exact ⟨fun i o _ e => .inl e, a, b, hs.symm⟩
  | succ L ih =>
    intro n hn h l a b deep s T e ha hd
    obtain ⟨n, rfl⟩ : ∃ m, n = m + 3 := ⟨n - 3, by omega⟩
    have PA := parts_ok L n (ih (n + 1) (by omega))
    have lt : l < h.length := (List.getElem?_eq_some_iff.mp e).1
    rw [show F_TreeReader_read_tree (n + 3) = kEff.f (runM 2 4 (m_TreeReader_read_tree (F_TreeReader_sign (n + 2)) (F_TreeReader_read_parts (n + 2)) (F_TreeReader_read_name (n + 2)) (F_TreeReader_read_number (n + 2)))) from rfl]
    refine wp_eff ?_
    rw [wp_run]
    refine ⟨rfl, ?_⟩
    unfold m_TreeReader_read_tree
    simp only [startD, List.map_cons, List.map_nil, List.length_cons, List.length_nil]
    simp only [List.set_cons_succ, List.set_cons_zero, List.replicate, List.cons_append, List.nil_append]
    have sg := fun x y z => sgM (n + 1) (ds := [some (.loc l), x, y, z]) T e ha rfl
    have nq := fun h => ne_sgn (h := h) (a := a) T lit_ask (by decide)
    have eq := fun h => eq_sgn (h := h) (a := a) T lit_ask (by decide)
    have fb := fld_begun e
    have hs : h.set l (insO s a b) = h := by
      obtain ⟨q, e⟩ := List.getElem?_eq_some_iff.mp e
      rw [← e]; exact List.set_getElem_self q
    have ns := fun h => nin_small (h := h) (s := s) (a := a)
    refine st_set (.str (sgnS s a)) h (by simp [-wp_meth, sg]) ?_
    simp only [List.set_cons_succ, List.set_cons_zero]
    have d30 : ¬ (30 : Int) < (deep : Int) := by omega
    cases z : badB (s.cps.toList.drop a) with
    | true =>
      have er : rdT (L + 1) (s.cps.toList.drop a) b = .err "BadText" := by rw [rdT, if_pos z]
      unfold badB at z
      obtain ⟨z1, z2⟩ := Bool.and_eq_true_iff.mp z
      have z1 := of_decide_eq_true z1
      rw [decide_eq_false z1] at nq
      have z2 : sm (bgn (s.cps.toList.drop a)) = false := by simpa using z2
      rw [z2] at ns
      simp [-wp_meth, wp_v, nq, ns, er]
      exact ⟨fun i o _ e => .inl e, a, b, hs.symm⟩
    | false =>
      have T1 : (andM (tbM (binM neF (vM 2) (cM (.str "?")))) (tbM (binM ninF (vM 2) (cM (.str smallS)))) [some (.loc l), some (.int deep), some (.str (sgnS s a)), none] h).wp (fun b h' => b = false ∧ h' = h) xF := by
        unfold badB at z
        by_cases c : bgn (s.cps.toList.drop a) = 63
        · rw [decide_eq_true c] at nq
          simp [wp_v, nq]
        · rw [decide_eq_true (show bgn (s.cps.toList.drop a) ≠ 63 from c), Bool.true_and] at z
          rw [decide_eq_false c] at nq
          rw [z] at ns
          simp [wp_v, nq, ns]
      refine st_guard h T1 ?_
      rw [rdT, z]
      simp only [Bool.false_eq_true, if_false]
      by_cases c200 : b = 200
      · have c2 : (b : Int) = 200 := by omega
        rw [if_pos c200]
        simp [-wp_meth, wp_v, fb, c2]
        exact ⟨fun i o _ e => .inl e, a, b, hs.symm⟩
      · rw [if_neg c200]
        have c2 : ¬ (b : Int) = 200 := by omega
        refine st_guard h (by simp [wp_v, fb, c2, d30]) ?_
        have e1 : (h.set l (insO s a (b + 1)))[l]? = some (insO s a (b + 1)) := by rw [List.getElem?_set_self lt]
        refine st_seq [some (.loc l), some (.int deep), some (.str (sgnS s a)), none] (h.set l (insO s a (b + 1))) (by simp [wp_v, fb, set_begun e]) ?_
        by_cases q : bgn (s.cps.toList.drop a) = 63
        · rw [if_pos q]
          rw [decide_eq_true q] at eq
          have al := bgn_lt_len q (by decide)
          have e2 : (h.set l (insO s (a + 1) (b + 1)))[l]? = some (insO s (a + 1) (b + 1)) := by rw [List.getElem?_set_self lt]
          have st := set_at e1
          rw [List.set_set] at st
          have rn := rsM (φ := F_TreeReader_read_number (n + 2)) (ds := [some (.loc l), some (.int deep), some (.str (sgnS s a)), none]) e2 rfl (.inr (.inr (.inl rfl)))
          have num := read_number_ok n _ l (a + 1) (b + 1) s T e2 (by omega)
          rw [ws_seq, ws_if]
          simp [-wp_meth, wp_v, eq, fld_at e1, st, rn]
          refine R.wp_mono num ?_ ?_
          · rintro d h2 ⟨m, a', en, al', rfl, rfl⟩
            rw [en, List.set_set]
            simp [noloc, nolocL]
            exact ⟨ins_keep0 noloc_ins, .bl m, a', b + 1, ⟨rfl, rfl, rfl⟩, al', by simp [tD], set_take0⟩
          · rintro c h2 ⟨en, rfl, a', rfl⟩
            rw [en, List.set_set]
            exact ⟨ins_keep0 noloc_ins, rfl, a', b + 1, set_take0⟩
        · rw [if_neg q]
          rw [decide_eq_false q] at eq
          refine st_guard (h.set l (insO s a (b + 1))) (by simp [wp_v, eq]) ?_
          have nm := read_name_ok n _ l a (b + 1) s T e1 ha
          have rn := rsM (φ := F_TreeReader_read_name (n + 2)) (ds := [some (.loc l), some (.int deep), some (.str (sgnS s a)), none]) e1 rfl (.inr (.inl rfl))
          rw [ws_seq, ws_set, rn]
          refine R.wp_mono nm ?_ ?_
          · rintro d h2 ⟨w, a', en, aa, al', rfl, rfl⟩
            rw [en, List.set_set]
            simp only [List.set_cons_succ, List.set_cons_zero]
            have e2 : (h.set l (insO s a' (b + 1)))[l]? = some (insO s a' (b + 1)) := by rw [List.getElem?_set_self lt]
            have sg2 := sgM (n + 1) (ds := [some (.loc l), some (.int deep), some (.str (sgnS s a)), some (.str ⟨w.toArray⟩)]) T e2 al' rfl
            have eqo := fun h => eq_sgn (h := h) (a := a') T lit_open (by decide)
            by_cases p : bgn (s.cps.toList.drop a') = 40
            · rw [if_pos p]
              rw [decide_eq_true p] at eqo
              have al3 := bgn_lt_len p (by decide)
              have pa := PA _ l a' (b + 1) (deep + 1) s T e2 al3 (by omega)
              have rp : methM "TreeReader" "read_parts" (F_TreeReader_read_parts (n + 2)) (vM 0) (consA (binM addF (vM 1) (cM (.int 1))) nilA) [some (.loc l), some (.int deep), some (.str (sgnS s a)), some (.str ⟨w.toArray⟩)] (h.set l (insO s a' (b + 1))) = F_TreeReader_read_parts (n + 2) [.loc l, .int ((deep + 1 : Nat) : Int)] (h.set l (insO s a' (b + 1))) := by
                rw [meth_at rfl e2 (.inr (.inr (.inr (.inl rfl))))]
                rfl
              simp only [Int.natCast_add, Int.natCast_one] at rp pa
              simp [-wp_meth, wp_v, sg2, eqo, rp]
              refine R.wp_mono pa ?_ ?_
              · rintro d h3 ⟨ts, a2, b2, ep, al4, rfl, rfl⟩
                rw [ep, List.set_set]
                simp [noloc, nolocL, noloc_tDs]
                exact ⟨ins_keep0 noloc_ins, .bk ⟨w.toArray⟩ ts, a2, b2, ⟨rfl, rfl, rfl⟩, al4, by simp [tD], set_take0⟩
              · rintro c h3 ⟨ep, a2, b2, rfl⟩
                rw [ep, List.set_set]
                exact ⟨ins_keep0 noloc_ins, rfl, a2, b2, set_take0⟩
            · rw [if_neg p]
              rw [decide_eq_false p] at eqo
              simp [-wp_meth, wp_v, sg2, eqo, noloc, nolocL]
              exact ⟨ins_keep0 noloc_ins, .bk ⟨w.toArray⟩ [], a', b + 1, ⟨rfl, rfl, rfl⟩, al', by simp [tD, tDs], set_take0⟩
          · rintro c h2 ⟨en, rfl, a', rfl⟩
            rw [en, List.set_set]
            exact ⟨ins_keep0 noloc_ins, rfl, a', b + 1, set_take0⟩
/-- the whole of a text -/
theorem read_ok (n : Nat) (h : Hs) (s : Str) (T : TxOk s) (hn : 70 ≤ n) :
    (F_read n [.str s] h).wp (fun d h' => ∃ t b, rdAll s.cps.toList = .ok t [] b ∧ d = tD t ∧ h' = h) (fun c h' => rdAll s.cps.toList = .err c ∧ h' = h) := by
  obtain ⟨n, rfl⟩ : ∃ m, n = m + 2 := ⟨n - 2, by omega⟩
  rw [S_read]
  rw [wp_pure, wp_run]
  refine ⟨rfl, ?_⟩
  unfold m_read
  simp only [startD, List.map_cons, List.map_nil, List.length_cons, List.length_nil]
  simp only [List.set_cons_succ, List.set_cons_zero, List.replicate, List.cons_append, List.nil_append]
  have sl := str_len s
  have s1 : s.length ≤ 16777216 := by have := T.len; omega
  obtain ⟨k, rfl⟩ : ∃ k, n = k + 1 := ⟨n - 1, by omega⟩
  have init : F_TreeReader___init__ (k + 1) [.loc h.length, .str s] (h ++ [.ins "TreeReader" []]) = .ok .non (h ++ [insO s 0 0]) := by
    rw [S_TreeReader___init__]
    refine R.wp_eq.mp (wp_eff ?_)
    have q1 : setFldF "TreeReader" "text" (.loc h.length) (.str s) (h ++ [.ins "TreeReader" []]) = some (h ++ [.ins "TreeReader" [("text", .str s)]]) := by
      unfold setFldF
      simp
      rfl
    have q2 : setFldF "TreeReader" "at" (.loc h.length) (.int 0) (h ++ [.ins "TreeReader" [("text", .str s)]]) = some (h ++ [.ins "TreeReader" [("text", .str s), ("at", .int 0)]]) := by
      unfold setFldF
      simp
      rfl
    have q3 : setFldF "TreeReader" "begun" (.loc h.length) (.int 0) (h ++ [.ins "TreeReader" [("text", .str s), ("at", .int 0)]]) = some (h ++ [insO s 0 0]) := by
      unfold setFldF
      simp
      rfl
    simp [wp_run, m_TreeReader___init__, startD, wp_v, q1, q2, q3, noloc]
    refine ⟨fun i o hi e => ?_, List.take_of_length_le (by simp)⟩
    by_cases c : i < h.length
    · left
      rw [List.getElem?_append_left c] at e ⊢
      exact e
    · right
      have : i = h.length := by omega
      subst this
      simp at e
      rw [← e]; rfl
  refine st_set (.loc h.length) (h ++ [insO s 0 0]) ?_ ?_
  · have init' := init
    simp only [show k + 1 + 1 - 1 = k + 1 from rfl]
    simp [wp_v, init']
  have e : (h ++ [insO s 0 0])[h.length]? = some (insO s 0 0) := by simp
  have ta := tree_read 30 (k + 2) (by omega) (h ++ [insO s 0 0]) h.length 0 0 1 s T e (Nat.zero_le _) rfl
  simp only [List.drop_zero] at ta
  have rt : methM "TreeReader" "read_tree" (F_TreeReader_read_tree (k + 2)) (vM 1) (consA (cM (.int 1)) nilA) [some (.str s), some (.loc h.length), none] (h ++ [insO s 0 0]) = F_TreeReader_read_tree (k + 2) [.loc h.length, .int ((1 : Nat) : Int)] (h ++ [insO s 0 0]) := by
    rw [meth_at rfl e (.inr (.inr (.inr (.inr rfl))))]
    rfl
  simp only [List.set_cons_succ, List.set_cons_zero]
  rw [ws_seq, ws_set]
  rw [show k + 1 + 1 = k + 2 from rfl, rt]
  refine R.wp_mono ta ?_ ?_
  · rintro d h1 ⟨t, a', b', hr, al, rfl, rfl⟩
    have nt := noloc_tD t
    have es : (h ++ [insO s 0 0]).set h.length (insO s a' b') = h ++ [insO s a' b'] := by simp
    rw [es]
    have e2 : (h ++ [insO s a' b'])[h.length]? = some (insO s a' b') := by simp
    have f2 := fld_at e2
    unfold rdAll
    rw [hr]
    by_cases c : (a' : Int) < (s.length : Int)
    · rw [drop_head (by omega)]
      simp [wp_v, f2, s1, c]
      try exact List.take_left' rfl
    · have hd : s.cps.toList.drop a' = [] := List.drop_eq_nil_of_le (by omega)
      rw [hd]
      simp [wp_v, f2, s1, c, nt]
      try exact List.take_left' rfl
  · rintro c h1 ⟨hr, a', b', rfl⟩
    unfold rdAll
    rw [hr]
    simp
    try exact List.take_left' rfl
end DV
namespace DV
open PySem PySem.Spec PyProof.Rows L2
def digN (n : Nat) : List Nat := (Nat.toDigits 10 n).map Char.toNat
theorem digN_eq (n : Nat) : digN n = if n < 10 then [48 + n] else digN (n / 10) ++ [48 + n % 10] := by
  have dc : ∀ d : Nat, d < 10 → (Nat.digitChar d).toNat = 48 + d := by decide
  unfold digN
  rw [Nat.toDigits_eq_if (by decide : 1 < 10)]
  split
  · rename_i h; simp [dc n h]
  · rw [List.map_append, List.map_cons, List.map_nil, dc _ (Nat.mod_lt _ (by decide))]
theorem str_num (n : Nat) : (PySem.Str.ofString (toString (n : Int))).cps.toList = digN n := PySem.W.KIN.signs_num n
mutual
def txt : Tr → List Nat
  | .bl k => 63 :: digN k.toNat
  | .bk s [] => s.cps.toList
  | .bk s (p :: ps) => s.cps.toList ++ (40 :: (txt p ++ txtR ps))
def txtR : List Tr → List Nat
  | [] => [41]
  | q :: qs => 44 :: (txt q ++ txtR qs)
end
theorem fg_dig (d : Nat) (h : d < 10) : fg (48 + d) = true := (fg_iff _).mpr ⟨by omega, by omega⟩
theorem numL_dig : ∀ (n : Nat), 1 ≤ n → n ≤ 1000000000 → ∀ Y, numL 0 (digN n ++ Y) = numL (n : Int) Y := by
  intro n
  induction n using Nat.strongRecOn with
  | _ n ih =>
    intro h1 h2 Y
    rw [digN_eq]
    by_cases c : n < 10
    · rw [if_pos c]
      show numL 0 ((48 + n) :: Y) = _
      rw [numL_cons (fg_dig n c)]
      have e : (0 : Int) * 10 + (((48 + n : Nat) : Int) - 48) = n := by omega
      rw [e, if_neg (by omega)]
    · rw [if_neg c, List.append_assoc, ih (n / 10) (by omega) (by omega) (by omega)]
      show numL ((n / 10 : Nat) : Int) ((48 + n % 10) :: Y) = _
      rw [numL_cons (fg_dig _ (Nat.mod_lt _ (by decide)))]
      have e : ((n / 10 : Nat) : Int) * 10 + (((48 + n % 10 : Nat) : Int) - 48) = n := by omega
      rw [e, if_neg (by omega)]
theorem numL_text {k : Int} (h1 : 1 ≤ k) (h2 : k ≤ 1000000000) {X : List Nat} (hX : fg (bgn X) = false) : numL 0 (digN k.toNat ++ X) = some (k, X) := by
  rw [numL_dig k.toNat (by omega) (by omega), numL_stop hX]
  have : ((k.toNat : Nat) : Int) = k := by omega
  rw [this, if_neg (by omega)]
def digZ (n : Nat) : List Nat := if n = 0 then [] else digN n
theorem numL_sound : ∀ (r : List Nat) (a : Nat) (m : Int) (r' : List Nat), a ≤ 1000000000 → numL (a : Int) r = some (m, r') → 1 ≤ m ∧ m ≤ 1000000000 ∧ fg (bgn r') = false ∧ ∃ ds, r = ds ++ r' ∧ digN m.toNat = digZ a ++ ds
  | [], a, m, r', ha, h => by
    rw [numL] at h
    split at h
    · cases h
    · cases h
      refine ⟨by omega, by omega, rfl, [], rfl, ?_⟩
      rw [List.append_nil, Int.toNat_natCast]
      unfold digZ
      rw [if_neg (by omega)]
  | c :: r, a, m, r', ha, h => by
    by_cases f : fg c = true
    · rw [numL_cons f] at h
      obtain ⟨c1, c2⟩ := (fg_iff c).mp f
      split at h
      · cases h
      · rename_i q
        obtain ⟨b, hb⟩ : ∃ b : Nat, b = a * 10 + (c - 48) := ⟨_, rfl⟩
        have e : (a : Int) * 10 + ((c : Int) - 48) = (b : Int) := by omega
        rw [e] at h q
        obtain ⟨h1, h2, h3, ds, h4, h5⟩ := numL_sound r b m r' (by omega) h
        refine ⟨h1, h2, h3, c :: ds, by rw [h4]; rfl, ?_⟩
        rw [h5]
        have eb : digZ b = digZ a ++ [c] := by
          unfold digZ
          rw [if_neg (by omega), digN_eq]
          by_cases a0 : a = 0
          · rw [if_pos (by omega), if_pos a0]
            simp; omega
          · rw [if_neg (by omega), if_neg a0]
            have e1 : b / 10 = a := by omega
            have e2 : 48 + b % 10 = c := by omega
            rw [e1, e2]
        rw [eb, List.append_assoc]; rfl
    · rw [numL, if_neg f] at h
      split at h
      · cases h
      · cases h
        refine ⟨by omega, by omega, by rw [bgn_cons]; simpa using f, [], rfl, ?_⟩
        rw [List.append_nil, Int.toNat_natCast]
        unfold digZ
        rw [if_neg (by omega)]
theorem sm_arr (c : Nat) : decide (c ∈ smallS.cps) = sm c := by unfold sm; exact decide_eq_decide.mpr Array.mem_toList_iff.symm
theorem fg_arr (c : Nat) : decide (c ∈ figS.cps) = fg c := by unfold fg; exact decide_eq_decide.mpr Array.mem_toList_iff.symm
theorem name_list {s : Str} : nameB s = true ↔ ∃ c r, s.cps.toList = c :: r ∧ sm c = true ∧ r.all nmS = true ∧ r.length ≤ 11 := by
  have ok : ∀ c, okSign c = nmS c := fun c => by unfold okSign nmS; rw [sm_arr, fg_arr]
  have okf : okSign = nmS := funext ok
  unfold nameB
  rw [Bool.and_eq_true, decide_eq_true_eq, str_len]
  constructor
  · rintro ⟨⟨h1, h2⟩, h3⟩
    cases e : s.cps.toList with
    | nil => rw [e] at h1; simp at h1
    | cons c r =>
      rw [e, nameL, Bool.and_eq_true, sm_arr, okf] at h3
      rw [e] at h2
      exact ⟨c, r, rfl, h3.1, h3.2, by simpa using h2⟩
  · rintro ⟨c, r, e, h1, h2, h3⟩
    rw [e, nameL, sm_arr, okf, h1, h2]
    simp; omega
theorem sm_nm {c : Nat} (h : sm c = true) : nmS c = true := by unfold nmS; rw [h]; rfl
theorem rdName_text {s : Str} (g : nameB s = true) {X : List Nat} (hX : nmS (bgn X) = false) : rdName (s.cps.toList ++ X) = some (s.cps.toList, X) := by
  obtain ⟨c, r, e, h1, h2, h3⟩ := name_list.mp g
  have all : ∀ x ∈ s.cps.toList, nmS x = true := fun x hx => by
    rw [e] at hx
    rcases List.mem_cons.mp hx with rfl | hx
    · exact sm_nm h1
    · exact List.all_eq_true.mp h2 x hx
  have tw : (s.cps.toList ++ X).takeWhile nmS = s.cps.toList ∧ (s.cps.toList ++ X).dropWhile nmS = X := by
    have := take_while_of (p := nmS) (l := s.cps.toList ++ X) (k := s.cps.toList.length) (by rw [List.take_left']; exact all; rfl) (by simp) (fun c r ec => by
      rw [List.drop_left' rfl] at ec
      rw [ec, bgn_cons] at hX
      exact hX)
    rw [List.take_left' rfl, List.drop_left' rfl] at this
    exact this
  unfold rdName
  rw [tw.1, tw.2, if_neg (by rw [e, List.length_cons]; omega)]
theorem rdName_sound {r w r' : List Nat} (h : rdName r = some (w, r')) (hb : sm (bgn r) = true) : r = w ++ r' ∧ nameB ⟨w.toArray⟩ = true ∧ nmS (bgn r') = false := by
  unfold rdName at h
  split at h
  · cases h
  · rename_i q
    cases h
    refine ⟨(List.takeWhile_append_dropWhile).symm, ?_, ?_⟩
    · rw [name_list]
      cases r with
      | nil => rw [bgn_nil] at hb; have : sm 10 = false := by decide +kernel
               rw [this] at hb; cases hb
      | cons c r =>
        rw [bgn_cons] at hb
        rw [List.takeWhile_cons, if_pos (sm_nm hb)] at q ⊢
        refine ⟨c, r.takeWhile nmS, rfl, hb, ?_, by simp at q; omega⟩
        rw [List.all_takeWhile]
    · cases e : r.dropWhile nmS with
      | nil => rw [bgn_nil]; decide +kernel
      | cons c r2 =>
        rw [bgn_cons]
        have := List.head?_dropWhile_not nmS r
        rw [e] at this
        simpa using this
def okX (X : List Nat) : Prop := nmS (bgn X) = false ∧ bgn X ≠ 40
theorem okX_R (ts : List Tr) (X : List Nat) : okX (txtR ts ++ X) := by
  cases ts with
  | nil =>
    have : bgn (txtR [] ++ X) = 41 := rfl
    unfold okX; rw [this]
    exact ⟨by decide +kernel, by decide⟩
  | cons t ts =>
    have : bgn (txtR (t :: ts) ++ X) = 44 := rfl
    unfold okX; rw [this]
    exact ⟨by decide +kernel, by decide⟩
theorem badB_sm {r : List Nat} (h : sm (bgn r) = true) : badB r = false ∧ bgn r ≠ 63 := by
  obtain ⟨h1, h2⟩ := (sm_iff _).mp h
  exact ⟨by unfold badB; rw [h]; simp, by omega⟩
mutual
theorem rdT_txt : ∀ (t : Tr), t.good → ∀ (L b : Nat) (X : List Nat), t.depth ≤ L → b + t.knots ≤ 200 → okX X → rdT L (txt t ++ X) b = .ok t X (b + t.knots)
  | .bl k, g, 0, b, X, hd, _, _ => by rw [Tr.depth] at hd; omega
  | .bl k, g, L + 1, b, X, hd, hk, hX => by
    rw [Tr.knots] at hk ⊢
    have e : txt (.bl k) ++ X = 63 :: (digN k.toNat ++ X) := by simp [txt]
    rw [e, rdT]
    have hb : badB (63 :: (digN k.toNat ++ X)) = false := rfl
    have fX : fg (bgn X) = false := by
      have := hX.1
      unfold nmS at this
      exact (Bool.or_eq_false_iff.mp this).2
    rw [hb, if_neg Bool.false_ne_true, if_neg (by omega), if_pos (bgn_cons _ _), List.tail_cons, numL_text g.1 g.2 fX]
  | .bk s ps, g, 0, b, X, hd, _, _ => by rw [Tr.depth] at hd; omega
  | .bk s [], g, L + 1, b, X, hd, hk, hX => by
    rw [Tr.knots, knotsL] at hk ⊢
    have e : txt (.bk s []) ++ X = s.cps.toList ++ X := by simp [txt]
    obtain ⟨c, r, es, h1, h2, h3⟩ := name_list.mp g.1
    have hbg : sm (bgn (s.cps.toList ++ X)) = true := by rw [es]; exact h1
    obtain ⟨b1, b2⟩ := badB_sm hbg
    rw [e, rdT, b1, if_neg Bool.false_ne_true, if_neg (by omega), if_neg b2, rdName_text g.1 hX.1]
    simp only
    rw [if_neg hX.2]
  | .bk s (p :: ps), g, L + 1, b, X, hd, hk, hX => by
    rw [Tr.knots, knotsL] at hk ⊢
    rw [Tr.depth, depthL] at hd
    have e : txt (.bk s (p :: ps)) ++ X = s.cps.toList ++ (40 :: (txt p ++ (txtR ps ++ X))) := by simp [txt]
    obtain ⟨c, r, es, h1, h2, h3⟩ := name_list.mp g.1
    have hbg : sm (bgn (s.cps.toList ++ (40 :: (txt p ++ (txtR ps ++ X))))) = true := by rw [es]; exact h1
    obtain ⟨b1, b2⟩ := badB_sm hbg
    have n40 : nmS 40 = false := by decide +kernel
    rw [e, rdT, b1, if_neg Bool.false_ne_true, if_neg (by omega), if_neg b2, rdName_text g.1 (by rw [bgn_cons]; exact n40)]
    simp only
    rw [if_pos (bgn_cons _ _)]
    have l9 := g.2.1
    rw [List.length_cons] at l9
    have ih1 := rdT_txt p g.2.2.1 L (b + 1) (txtR ps ++ X) (by omega) (by omega) (okX_R ps X)
    have ih2 := rdM_txt ps g.2.2.2 L 8 (b + 1 + p.knots) X [p] (by omega) (by omega) (by omega)
    unfold rdP
    rw [List.tail_cons, ih1]
    simp only
    rw [ih2]
    simp only [List.cons_append, List.nil_append]
    congr 1
    omega
theorem rdM_txt : ∀ (ts : List Tr), goodL ts → ∀ (L m b : Nat) (X : List Nat) (acc : List Tr), depthL ts ≤ L → b + knotsL ts ≤ 200 → ts.length ≤ m → rdM (rdT L) m (txtR ts ++ X) b acc = .ok (acc ++ ts) X (b + knotsL ts)
  | [], _, L, m, b, X, acc, _, _, _ => by
    have e : txtR [] ++ X = 41 :: X := rfl
    rw [rdM_m, e, bgn_cons, if_neg (by decide), if_pos rfl, List.tail_cons, knotsL, List.append_nil]; rfl
  | t :: ts, g, L, 0, b, X, acc, _, _, h => by simp at h
  | t :: ts, g, L, m + 1, b, X, acc, hd, hk, hm => by
    rw [knotsL] at hk ⊢
    rw [depthL] at hd
    have e : txtR (t :: ts) ++ X = 44 :: (txt t ++ (txtR ts ++ X)) := by simp [txtR]
    rw [rdM_m, e, bgn_cons, if_pos rfl, List.tail_cons]
    simp only
    rw [rdT_txt t g.1 L b (txtR ts ++ X) (by omega) (by omega) (okX_R ts X)]
    simp only
    rw [rdM_txt ts g.2 L m (b + t.knots) X (acc ++ [t]) (by omega) (by omega) (by simpa using hm)]
    simp
    omega
end
theorem rdAll_txt {t : Tr} (g : t.good) (hd : t.depth ≤ 30) (hk : t.knots ≤ 200) : rdAll (txt t) = .ok t [] t.knots := by
  have := rdT_txt t g 30 0 [] hd (by omega) ⟨by decide +kernel, by decide⟩
  rw [List.append_nil] at this
  unfold rdAll
  rw [this]
  simp
end DV
namespace DV
open PySem PySem.Spec PyProof.Rows L2
theorem rdM_sound {T : List Nat → Nat → RR Tr} {L : Nat} (hT : ∀ r b t r' b', b ≤ 200 → T r b = .ok t r' b' → r = txt t ++ r' ∧ t.good ∧ b' = b + t.knots ∧ b' ≤ 200 ∧ t.depth ≤ L) :
    ∀ (m : Nat) (r : List Nat) (b : Nat) (acc ps : List Tr) (r' : List Nat) (b' : Nat), b ≤ 200 → rdM T m r b acc = .ok ps r' b' → ∃ ts, ps = acc ++ ts ∧ r = txtR ts ++ r' ∧ goodL ts ∧ ts.length ≤ m ∧ b' = b + knotsL ts ∧ b' ≤ 200 ∧ depthL ts ≤ L
  | m, r, b, acc, ps, r', b', hb, h => by
    rw [rdM_m] at h
    cases r with
    | nil =>
      rw [bgn_nil, if_neg (by decide), if_neg (by decide)] at h
      cases h
    | cons c r =>
      rw [bgn_cons] at h
      by_cases c1 : c = 44
      · rw [if_pos c1] at h
        cases m with
        | zero => cases h
        | succ m =>
          simp only [List.tail_cons] at h
          cases e : T r b with
          | err c => rw [e] at h; cases h
          | ok t r2 b2 =>
            rw [e] at h
            simp only at h
            obtain ⟨h1, h2, h3, h4, h5⟩ := hT r b t r2 b2 hb e
            obtain ⟨ts, q1, q2, q3, q4, q5, q6, q7⟩ := rdM_sound hT m r2 b2 (acc ++ [t]) ps r' b' h4 h
            refine ⟨t :: ts, by rw [q1]; simp, ?_, ⟨h2, q3⟩, by simpa using q4, by rw [knotsL]; omega, q6, by rw [depthL]; omega⟩
            rw [c1, h1, q2, txtR]; simp
      · rw [if_neg c1] at h
        by_cases c2 : c = 41
        · rw [if_pos c2] at h
          cases h
          exact ⟨[], by simp, by rw [c2]; rfl, trivial, Nat.zero_le _, by rw [knotsL]; rfl, hb, by rw [depthL]; omega⟩
        · rw [if_neg c2] at h; cases h
theorem rdT_sound : ∀ (L : Nat) (r : List Nat) (b : Nat) (t : Tr) (r' : List Nat) (b' : Nat), b ≤ 200 → rdT L r b = .ok t r' b' → r = txt t ++ r' ∧ t.good ∧ b' = b + t.knots ∧ b' ≤ 200 ∧ t.depth ≤ L
  | 0, r, b, t, r', b', _, h => by
    rw [rdT] at h
    split at h <;> cases h
  | L + 1, r, b, t, r', b', hb, h => by
    rw [rdT] at h
    by_cases z : badB r = true
    · rw [if_pos z] at h; cases h
    · rw [if_neg z] at h
      by_cases c2 : b = 200
      · rw [if_pos c2] at h; cases h
      · rw [if_neg c2] at h
        by_cases q : bgn r = 63
        · rw [if_pos q] at h
          cases r with
          | nil => cases q
          | cons c r =>
            rw [bgn_cons] at q
            rw [List.tail_cons] at h
            cases e : numL 0 r with
            | none => rw [e] at h; cases h
            | some p =>
              obtain ⟨m, r2⟩ := p
              rw [e] at h
              cases h
              obtain ⟨h1, h2, h3, ds, h4, h5⟩ := numL_sound r 0 m r' (by decide) e
              have : digZ 0 = [] := rfl
              rw [this, List.nil_append] at h5
              refine ⟨by rw [q, txt, h5, h4]; rfl, ⟨h1, h2⟩, by rw [Tr.knots], by omega, by rw [Tr.depth]; omega⟩
        · rw [if_neg q] at h
          have hs : sm (bgn r) = true := by
            unfold badB at z
            rw [decide_eq_true (show bgn r ≠ 63 from q), Bool.true_and] at z
            simpa using z
          cases e : rdName r with
          | none => rw [e] at h; cases h
          | some p =>
            obtain ⟨w, r2⟩ := p
            rw [e] at h
            simp only at h
            obtain ⟨h1, h2, h3⟩ := rdName_sound e hs
            by_cases p40 : bgn r2 = 40
            · rw [if_pos p40] at h
              cases r2 with
              | nil => cases p40
              | cons c2 r2 =>
                rw [bgn_cons] at p40
                unfold rdP at h
                rw [List.tail_cons] at h
                cases e2 : rdT L r2 (b + 1) with
                | err c => rw [e2] at h; cases h
                | ok u r3 b3 =>
                  rw [e2] at h
                  simp only at h
                  obtain ⟨u1, u2, u3, u4, u5⟩ := rdT_sound L r2 (b + 1) u r3 b3 (by omega) e2
                  cases e3 : rdM (rdT L) 8 r3 b3 [u] with
                  | err c => rw [e3] at h; cases h
                  | ok ps r4 b4 =>
                    rw [e3] at h
                    cases h
                    obtain ⟨ts, q1, q2, q3, q4, q5, q6, q7⟩ := rdM_sound (L := L) (fun r b t r' b' hb h => rdT_sound L r b t r' b' hb h) 8 r3 b3 [u] ps r' b' u4 e3
                    subst q1
                    refine ⟨?_, ⟨h2, by simp; omega, u2, q3⟩, ?_, q6, ?_⟩
                    · rw [h1, p40, u1, q2]
                      show _ = txt (.bk ⟨w.toArray⟩ (u :: ts)) ++ r'
                      rw [txt]
                      simp
                    · show b' = b + (Tr.bk ⟨w.toArray⟩ (u :: ts)).knots
                      rw [Tr.knots, knotsL]; omega
                    · show (Tr.bk ⟨w.toArray⟩ (u :: ts)).depth ≤ _
                      rw [Tr.depth, depthL]; omega
            · rw [if_neg p40] at h
              cases h
              refine ⟨by rw [h1, txt], ⟨h2, by simp, trivial⟩, by rw [Tr.knots, knotsL], by omega, by rw [Tr.depth, depthL]; omega⟩
theorem rdAll_sound {s : List Nat} {t : Tr} {b : Nat} (h : rdAll s = .ok t [] b) : s = txt t ∧ t.good ∧ t.knots ≤ 200 ∧ t.depth ≤ 30 := by
  unfold rdAll at h
  cases e : rdT 30 s 0 with
  | err c => rw [e] at h; cases h
  | ok u r b2 =>
    rw [e] at h
    cases r with
    | cons c r => cases h
    | nil =>
      cases h
      obtain ⟨h1, h2, h3, h4, h5⟩ := rdT_sound 30 s 0 t [] b (by omega) e
      exact ⟨by rw [h1, List.append_nil], h2, by omega, h5⟩
theorem digN_len : ∀ (n : Nat), n ≤ 1000000000 → (digN n).length ≤ 10 := by
  have gen : ∀ (k n : Nat), n < 10 ^ k → 1 ≤ k → (digN n).length ≤ k := by
    intro k
    induction k with
    | zero => intro n _ h; omega
    | succ k ih =>
      intro n h _
      rw [digN_eq]
      by_cases c : n < 10
      · rw [if_pos c]; simp
      · rw [if_neg c, List.length_append]
        have h2 : n / 10 < 10 ^ k := by rw [Nat.pow_succ] at h; omega
        by_cases k0 : k = 0
        · subst k0; omega
        · have := ih (n / 10) h2 (by omega)
          simp; omega
  intro n h
  exact gen 10 n (by omega) (by decide)
theorem digN_sg : ∀ (n c : Nat), c ∈ digN n → c < 128 := by
  intro n
  induction n using Nat.strongRecOn with
  | _ n ih =>
    intro c hc
    rw [digN_eq] at hc
    split at hc
    · have : c = 48 + n := by simpa using hc
      omega
    · rcases List.mem_append.mp hc with hc | hc
      · exact ih (n / 10) (by omega) c hc
      · have : c = 48 + n % 10 := by simpa using hc
        omega
theorem name_sg {s : Str} (g : nameB s = true) : s.length ≤ 12 ∧ 1 ≤ s.length ∧ ∀ c ∈ s.cps.toList, c < 128 := by
  obtain ⟨c, r, e, h1, h2, h3⟩ := name_list.mp g
  refine ⟨by rw [str_len, e, List.length_cons]; omega, by rw [str_len, e, List.length_cons]; omega, fun x hx => ?_⟩
  have nm : nmS x = true := by
    rw [e] at hx
    rcases List.mem_cons.mp hx with rfl | hx
    · exact sm_nm h1
    · exact List.all_eq_true.mp h2 x hx
  unfold nmS at nm
  rcases Bool.or_eq_true_iff.mp nm with q | q
  · have := (sm_iff x).mp q; omega
  · have := (fg_iff x).mp q; omega
mutual
theorem txt_len : ∀ (t : Tr), t.good → (txt t).length + 1 ≤ 14 * t.knots
  | .bl k, g => by
    have := digN_len k.toNat (by have := g.2; omega)
    rw [txt, Tr.knots, List.length_cons]; omega
  | .bk s [], g => by
    have := (name_sg g.1).1
    rw [txt, Tr.knots, knotsL, ← str_len]; omega
  | .bk s (p :: ps), g => by
    have := (name_sg g.1).1
    have h1 := txt_len p g.2.2.1
    have h2 := txtR_len ps g.2.2.2
    rw [txt, Tr.knots, knotsL, List.length_append, List.length_cons, List.length_append, ← str_len]; omega
theorem txtR_len : ∀ (ts : List Tr), goodL ts → (txtR ts).length ≤ 14 * knotsL ts + 1
  | [], _ => by simp [txtR]
  | t :: ts, g => by
    have h1 := txt_len t g.1
    have h2 := txtR_len ts g.2
    rw [txtR, knotsL, List.length_cons, List.length_append]; omega
end
mutual
theorem txt_sg : ∀ (t : Tr), t.good → ∀ c ∈ txt t, c < 128
  | .bl k, g, c, h => by
    rw [txt] at h
    rcases List.mem_cons.mp h with rfl | h
    · decide
    · exact digN_sg _ c h
  | .bk s [], g, c, h => by rw [txt] at h; exact (name_sg g.1).2.2 c h
  | .bk s (p :: ps), g, c, h => by
    rw [txt] at h
    rcases List.mem_append.mp h with h | h
    · exact (name_sg g.1).2.2 c h
    · rcases List.mem_cons.mp h with rfl | h
      · decide
      · rcases List.mem_append.mp h with h | h
        · exact txt_sg p g.2.2.1 c h
        · exact txtR_sg ps g.2.2.2 c h
theorem txtR_sg : ∀ (ts : List Tr), goodL ts → ∀ c ∈ txtR ts, c < 128
  | [], _, c, h => by
    have : c = 41 := by simpa [txtR] using h
    omega
  | t :: ts, g, c, h => by
    rw [txtR] at h
    rcases List.mem_cons.mp h with rfl | h
    · decide
    · rcases List.mem_append.mp h with h | h
      · exact txt_sg t g.1 c h
      · exact txtR_sg ts g.2 c h
end
def txS (t : Tr) : Str := ⟨(txt t).toArray⟩
theorem txS_list (t : Tr) : (txS t).cps.toList = txt t := rfl
theorem txS_len (t : Tr) : (txS t).length = (txt t).length := by rw [str_len, txS_list]
theorem txS_ok {t : Tr} (g : t.good) (hk : t.knots ≤ 3000) : TxOk (txS t) := ⟨by rw [txS_len]; have := txt_len t g; omega, fun c hc => by rw [txS_list] at hc; have := txt_sg t g c hc; omega⟩
end DV
namespace DV
open PySem PySem.Spec PyProof.Rows L2
def mkS (l : List Nat) : Str := ⟨l.toArray⟩
theorem mkS_list (l : List Nat) : (mkS l).cps.toList = l := rfl
theorem mkS_eta (s : Str) : s = mkS s.cps.toList := str_eta s
theorem mkS_len (l : List Nat) : (mkS l).length = l.length := by rw [str_len, mkS_list]
theorem str_ext {a b : Str} (h : a.cps.toList = b.cps.toList) : a = b := by rw [mkS_eta a, mkS_eta b, h]
theorem app_list (a b : Str) : (a ++ b).cps.toList = a.cps.toList ++ b.cps.toList := Array.toList_append
theorem mkS_app (a b : List Nat) : mkS a ++ mkS b = mkS (a ++ b) := str_ext (by rw [app_list, mkS_list, mkS_list, mkS_list])
theorem lit_askS : ("?" : Str) = mkS [63] := by decide +kernel
theorem lit_closeS : (")" : Str) = mkS [41] := by decide +kernel
def preP : List Tr → List Nat
  | [] => []
  | p :: ps => 40 :: (txt p ++ ps.flatMap fun q => 44 :: txt q)
theorem txtR_flat : ∀ ts : List Tr, txtR ts = (ts.flatMap fun q => 44 :: txt q) ++ [41]
  | [] => rfl
  | t :: ts => by rw [txtR, txtR_flat ts]; simp
theorem txt_pre (s : Str) (ps : List Tr) : txt (.bk s ps) = s.cps.toList ++ (preP ps ++ if ps = [] then [] else [41]) := by
  cases ps with
  | nil => simp [txt, preP]
  | cons p ps => rw [txt, txtR_flat, preP, if_neg (by simp)]; simp
theorem preP_snoc (l : List Tr) (q : Tr) : preP (l ++ [q]) = preP l ++ ((if l = [] then 40 else 44) :: txt q) := by
  cases l with
  | nil => simp [preP]
  | cons p l => simp [preP]
theorem str_txt {k : Int} (h1 : 1 ≤ k) (h2 : k ≤ 1000000000) {h : Hs} : strT [.int k] h = some (.str (mkS (digN k.toNat)), h) := by
  obtain ⟨m, rfl⟩ := Int.eq_ofNat_of_zero_le (show 0 ≤ k by omega)
  have e : ((toString ((m : Nat) : Int) : String) : Str) = mkS (digN m) := str_ext (by rw [mkS_list]; exact str_num m)
  have lg : m.log2 < 1920 := by
    have h3 : m < 2 ^ 1920 := by
      have : (1000000000 : Nat) < 2 ^ 1920 := by decide +kernel
      have : m ≤ 1000000000 := by omega
      omega
    by_cases c : m = 0
    · subst c; decide
    · exact (Nat.log2_lt c).mpr h3
  show (if ((m : Nat) : Int).natAbs.log2 < 1920 then some (D.str ((toString ((m : Nat) : Int) : String) : Str), h) else none) = _
  have : ((m : Nat) : Int).natAbs = m := rfl
  rw [if_pos (by rw [this]; exact lg), e]
  rfl
theorem len_ask : ("?" : Str).length = 1 := by decide +kernel
theorem len_close : (")" : Str).length = 1 := by decide +kernel
theorem knotsL_takeW (ps : List Tr) (k : Nat) : knotsL (ps.take k) ≤ knotsL ps := by
  rw [knotsL_sum, knotsL_sum]
  have : (ps.map Tr.knots).sum = ((ps.take k).map Tr.knots).sum + ((ps.drop k).map Tr.knots).sum := by
    rw [← List.sum_append, ← List.map_append, List.take_append_drop]
  omega
theorem preP_len {ps : List Tr} (g : goodL ps) : (preP ps).length ≤ 14 * knotsL ps := by
  cases ps with
  | nil => simp [preP]
  | cons p ps =>
    have h1 := txt_len p g.1
    have h2 := txtR_len ps g.2
    rw [txtR_flat, List.length_append] at h2
    rw [preP, knotsL, List.length_cons, List.length_append]
    simp at h2
    simp
    omega
theorem law_text_ok : ∀ (n : Nat) (h : Hs) (t : Tr), t.good → t.depth ≤ n → t.knots ≤ 100000 → F__law_text n [tD t] h = .ok (.str (txS t)) h
  | 0, h, t, _, hn, _ => by rw [depth_parts] at hn; omega
  | n + 1, h, .bl k, g, hn, hk => by
    rw [S__law_text]
    refine R.wp_eq.mp ?_
    have st := fun h => str_txt (h := h) g.1 g.2
    have dl := digN_len k.toNat (by have := g.2; omega)
    have z : ("?" : Str).length + (mkS (digN k.toNat)).length ≤ 16777216 := by rw [len_ask, mkS_len]; omega
    have e : ("?" : Str) ++ mkS (digN k.toNat) = txS (.bl k) := by rw [lit_askS, mkS_app]; rfl
    simp [wp_pure, wp_run, m__law_text, startD, wp_v, tD, st, z, e, noloc]
  | n + 1, h, .bk s ps, g, hn, hk => by
    rw [Tr.depth] at hn
    rw [Tr.knots] at hk
    have sl := (name_sg g.1).1
    have lk := len_knotsL ps
    rw [S__law_text]
    refine R.wp_eq.mp ?_
    rw [wp_pure, wp_run]
    refine ⟨rfl, ?_⟩
    unfold m__law_text
    simp only [startD, List.map_cons, List.map_nil, List.length_cons, List.length_nil]
    simp only [List.replicate, List.cons_append, List.nil_append]
    obtain ⟨t, ht⟩ : ∃ t, t = Tr.bk s ps := ⟨_, rfl⟩
    have tdt : tD (.bk s ps) = tD t := by rw [ht]
    have x0 : ∀ h, ixF (tD t) (.int 0) h = some (.str "block", h) := fun h => by rw [ht]; simp [tD]
    have x1 : ∀ h, ixF (tD t) (.int 1) h = some (.str s, h) := fun h => by rw [ht]; simp [tD]
    have x2 : ∀ h, ixF (tD t) (.int 2) h = some (.tup (tDs ps), h) := fun h => by rw [ht]; simp [tD]
    have hw : txS (.bk s ps) = mkS (s.cps.toList ++ (preP ps ++ if ps = [] then [] else [41])) := by unfold txS; rw [txt_pre]; rfl
    rw [tdt, hw]
    clear hw
    refine st_guard h (by simp [wp_v, x0]) ?_
    refine st_set (.str (mkS s.cps.toList)) h (by rw [← mkS_eta s]; simp [wp_v, x1]) ?_
    simp only [List.set_cons_succ, List.set_cons_zero]
    have ir : inR (ps.length : Int) = true := inR_of (by omega) (by omega)
    obtain ⟨J, hJ⟩ : ∃ J : Nat → Sl → Hs → Prop, J = fun i ds h' => h' = h ∧ ∃ x, ds = [some (tD t), some (.str (mkS (s.cps.toList ++ preP (ps.take i)))), x] := ⟨_, rfl⟩
    refine st_for ((List.range ps.length).map fun (i : Nat) => .int (i : Int)) (fun _ => True) h J (by simp [wp_v, x2, ir]) (by rw [hJ]; exact ⟨rfl, none, by simp [preP]⟩) (fun _ _ _ _ => trivial) ?_ ?_
    · intro i d ds h' hd hj
      rw [hJ] at hj
      obtain ⟨rfl, x, rfl⟩ := hj
      have ik : i < ps.length := by
        have := (List.getElem?_eq_some_iff.mp hd).1
        simpa using this
      have ed : d = .int i := by
        rw [List.getElem?_map, List.getElem?_range ik] at hd
        exact (Option.some.inj hd).symm
      subst ed
      obtain ⟨u, hu⟩ : ∃ u, ps[i]? = some u := ⟨_, List.getElem?_eq_getElem ik⟩
      have mu := List.mem_of_getElem? hu
      have du := depth_mem mu
      have ku := knots_mem mu
      have ih := law_text_ok n h' u (goodL_iff.mp g.2.2 u mu) (by omega) (by omega)
      have e1 : ps.take (i + 1) = ps.take i ++ [u] := by rw [List.take_add_one, hu]; rfl
      have ia : atI (tDs ps) (i : Int) = some (tD u) := by rw [atI_nat (by rw [tDs_len]; exact ik), tDs_map, List.getElem?_map, hu]; rfl
      have gt : goodL (ps.take i) := goodL_iff.mpr fun q hq => goodL_iff.mp g.2.2 q (List.mem_of_mem_take hq)
      have pl := preP_len gt
      have kt := knotsL_takeW ps i
      have tlen : (ps.take i).length = i := by rw [List.length_take]; omega
      have ul := txt_len u (goodL_iff.mp g.2.2 u mu)
      have sl2 := str_len s
      have l2 : ("(," : Str).length ≤ 16777216 := by decide +kernel
      have lits : ("(," : Str).cps.toList = [40, 44] := by decide +kernel
      by_cases c : 0 < i
      · have z1 : (mkS (s.cps.toList ++ preP (ps.take i))).length + (⟨#[44]⟩ : Str).length ≤ 16777216 := by
          rw [mkS_len, List.length_append]
          show _ + 1 ≤ _
          omega
        have z2 : (mkS (s.cps.toList ++ preP (ps.take i)) ++ ⟨#[44]⟩).length + (txS u).length ≤ 16777216 := by
          rw [app_len, mkS_len, List.length_append, txS_len]
          show _ + 1 + _ ≤ _
          omega
        have ec : mkS (s.cps.toList ++ preP (ps.take i)) ++ ⟨#[44]⟩ ++ txS u = mkS (s.cps.toList ++ preP (ps.take (i + 1))) := by
          have ne : ¬ ps.take i = [] := fun z => by rw [z] at tlen; simp at tlen; omega
          rw [e1, preP_snoc, if_neg ne]
          refine str_ext ?_
          rw [app_list, app_list, mkS_list, mkS_list, txS_list]
          simp
        have fin : ∀ x, J (i + 1) [some (tD t), some (.str (mkS (s.cps.toList ++ preP (ps.take (i + 1))))), x] h' := fun x => by rw [hJ]; exact ⟨rfl, _, rfl⟩
        rw [← ec] at fin
        simp [wp_v, l2, c, lits, x2, ia, ih, z1, z2, fin]
      · have i0 : i = 0 := by omega
        have z1 : (mkS (s.cps.toList ++ preP (ps.take i))).length + (⟨#[40]⟩ : Str).length ≤ 16777216 := by
          rw [mkS_len, List.length_append]
          show _ + 1 ≤ _
          omega
        have z2 : (mkS (s.cps.toList ++ preP (ps.take i)) ++ ⟨#[40]⟩).length + (txS u).length ≤ 16777216 := by
          rw [app_len, mkS_len, List.length_append, txS_len]
          show _ + 1 + _ ≤ _
          omega
        have ec : mkS (s.cps.toList ++ preP (ps.take i)) ++ ⟨#[40]⟩ ++ txS u = mkS (s.cps.toList ++ preP (ps.take (i + 1))) := by
          have ne : ps.take i = [] := by rw [i0]; simp
          rw [e1, preP_snoc, if_pos ne]
          refine str_ext ?_
          rw [app_list, app_list, mkS_list, mkS_list, txS_list]
          simp
        have fin : ∀ x, J (i + 1) [some (tD t), some (.str (mkS (s.cps.toList ++ preP (ps.take (i + 1))))), x] h' := fun x => by rw [hJ]; exact ⟨rfl, _, rfl⟩
        rw [← ec] at fin
        simp [wp_v, l2, c, lits, x2, ia, ih, z1, z2, fin]
    · intro ds h' hj
      rw [hJ] at hj
      obtain ⟨rfl, x, rfl⟩ := hj
      rw [List.length_map, List.length_range, List.take_length]
      by_cases c : ps = []
      · have c0 : ps.length = 0 := by rw [c]; rfl
        rw [if_pos c]
        simp [wp_v, x2, c0, noloc]
      · have c0 : 0 < ps.length := List.length_pos_iff.mpr c
        rw [if_neg c]
        have pl := preP_len g.2.2
        have sl2 := str_len s
        have z : (mkS (s.cps.toList ++ preP ps)).length + (")" : Str).length ≤ 16777216 := by
          rw [len_close, mkS_len, List.length_append]; omega
        have ec : mkS (s.cps.toList ++ preP ps) ++ ")" = mkS (s.cps.toList ++ (preP ps ++ [41])) := by rw [lit_closeS, mkS_app]; simp
        simp [wp_v, x2, c0, z, ec, noloc]
end DV
namespace DV
open PySem PySem.Spec PyProof.Rows L2
theorem goodL_snoc {ts : List Tr} {u : Tr} (g : goodL ts) (h : u.good) : goodL (ts ++ [u]) := goodL_iff.mpr fun q hq => by
  rcases List.mem_append.mp hq with hq | hq
  · exact goodL_iff.mp g q hq
  · have : q = u := by simpa using hq
    rw [this]; exact h
theorem great_ok (n : Nat) (h : Hs) (ln : Nat) (ns : List Str) (cell : Int) (deep many : Nat) (hn : h[ln]? = some (.lst (ns.map D.str))) (h4 : ns.length = 4) (hg : ∀ s ∈ ns, nameB s = true) (hd : 1 ≤ deep ∧ deep ≤ 1000) (hm : many ≤ 100000) :
    ∃ t : Tr, F__law_great (n + 2) [.int cell, .loc ln, .int deep, .int many] h = .ok (tD t) h ∧ t.good ∧ t.depth ≤ deep ∧ t.knots ≤ max deep many := by
  have dr : ∀ (k many : Int) (h : Hs), 0 < many → -1000000 ≤ k ∧ k ≤ 1000000 → F__law_draw (n + 1) [.int cell, .int k, .int many] h = .ok (.int (drawI cell k many)) h := fun k many h a b => draw_ok n h cell k many a b
  have w9 : cPow 10 9 = true := cPow_of (by decide) (by decide) (by decide)
  have w8 : cPow 10 8 = true := cPow_of (by decide) (by decide) (by decide)
  have main : (kPure.f (runM 4 9 (m__law_great (F__law_draw (n + 1)))) [.int cell, .loc ln, .int deep, .int many] h).wp (fun d h' => ∃ t : Tr, d = tD t ∧ h' = h ∧ t.good ∧ t.depth ≤ deep ∧ t.knots ≤ max deep many) xF := by
    rw [wp_pure, wp_run]
    refine ⟨rfl, ?_⟩
    unfold m__law_great
    simp only [startD, List.map_cons, List.map_nil, List.length_cons, List.length_nil]
    simp only [List.set_cons_succ, List.set_cons_zero, List.replicate, List.cons_append, List.nil_append]
    obtain ⟨s0, hs0, ms0⟩ := names_at h4 (i := 0) (by decide) (by decide)
    have lt : ln < h.length := (List.getElem?_eq_some_iff.mp hn).1
    refine st_set (tD (.bk s0 [])) h (by simp [wp_v, ix_lst hn, hs0, tD, tDs]) ?_
    refine st_set (.int ((many : Int) - (deep : Int))) h (by simp [wp_v]) ?_
    simp only [List.set_cons_succ, List.set_cons_zero]
    have ir : inR ((deep : Int) - 1) = true := inR_of (by omega) (by omega)
    have d49 := fun h => dr 49 100000000 h (by decide) (by decide)
    obtain ⟨q0, q1⟩ := drawI_lt cell 49 (by decide : (0 : Int) < 100000000)
    generalize drawI cell 49 100000000 = q49 at d49 q0 q1
    obtain ⟨J, hJ⟩ : ∃ J : Nat → Sl → Hs → Prop, J = fun i ds h' => ∃ (t : Tr) (left : Int) (u : Nat) (r : Hs) (x y z : Option D), t.good ∧ t.depth ≤ i + 1 ∧ t.knots ≤ i + 1 + u ∧ (u : Int) + (if 0 < left then left else 0) ≤ (if deep < many then (many : Int) - deep else 0) ∧ left ≤ 100000 ∧ -10000000 ≤ left + 8 * i ∧ h' = h ++ r ∧
      ds = [some (.int cell), some (.loc ln), some (.int deep), some (.int many), some (tD t), some (.int left), x, y, z] := ⟨_, rfl⟩
    refine st_for ((List.range ((deep : Int) - 1).toNat).map fun (i : Nat) => .int (i : Int)) (fun _ => True) h J (by simp [wp_v, ir]) (by
      rw [hJ]
      refine ⟨.bk s0 [], (many : Int) - deep, 0, [], _, _, _, ⟨hg s0 ms0, by simp, trivial⟩, by simp [Tr.depth, depthL], by simp [Tr.knots, knotsL], ?_, by omega, by omega, by simp, rfl⟩
      by_cases c : deep < many
      · rw [if_pos c, if_pos (by omega)]; omega
      · rw [if_neg c, if_neg (by omega)]; omega) (fun _ _ _ _ => trivial) ?_ ?_
    · intro i d ds h' hd' hj
      rw [hJ] at hj
      obtain ⟨t, left, u, r, x, y, z, g, dp, kn, ul, l1, l2, rfl, rfl⟩ := hj
      have i1000 : i < 1000 := by
        have := (List.getElem?_eq_some_iff.mp hd').1
        rw [List.length_map, List.length_range] at this
        omega
      obtain ⟨k, rfl, hk⟩ : ∃ k : Nat, d = .int k ∧ k < 1000 := by
        have := List.mem_of_getElem? hd'
        obtain ⟨x, hx, rfl⟩ := List.mem_map.mp this
        have := List.mem_range.mp hx
        exact ⟨x, rfl, by omega⟩
      obtain ⟨m, em, m8, ml, mz⟩ : ∃ m : Nat, (if (0 : Int) < (if left < 8 then left else 8) then (if left < 8 then left else 8) else 0) = (m : Int) ∧ m ≤ 8 ∧ ((m : Int) ≤ (if 0 < left then left else 0)) ∧ ((if 0 < left - 8 then left - 8 else 0) + (m : Int) ≤ (if 0 < left then left else 0)) := by
        by_cases c : left < 8
        · by_cases c2 : 0 < left
          · exact ⟨left.toNat, by rw [if_pos c, if_pos c2]; omega, by omega, by rw [if_pos c2]; omega, by rw [if_pos c2, if_neg (by omega)]; omega⟩
          · exact ⟨0, by rw [if_pos c, if_neg c2]; rfl, by omega, by rw [if_neg c2]; omega, by rw [if_neg c2, if_neg (by omega)]; omega⟩
        · exact ⟨8, by rw [if_neg c, if_pos (by decide)]; rfl, by omega, by rw [if_pos (by omega)]; omega, by
            rw [if_pos (show 0 < left by omega)]
            split <;> omega⟩
      refine st_set (.loc (h ++ r).length) ((h ++ r) ++ [.lst []]) (by simp) ?_
      simp only [List.set_cons_succ, List.set_cons_zero]
      have irm : inR (m : Int) = true := inR_of (by omega) (by omega)
      obtain ⟨N, hN⟩ : ∃ N, N = h ++ r := ⟨_, rfl⟩
      rw [← hN]
      obtain ⟨G, hG⟩ : ∃ G : Nat → Sl → Hs → Prop, G = fun j ds h' => ∃ (ls : List Tr) (z : Option D), ls.length = j ∧ goodL ls ∧ knotsL ls = j ∧ depthL ls ≤ 1 ∧ h' = N ++ [.lst (tDs ls)] ∧ ds = [some (.int cell), some (.loc ln), some (.int deep), some (.int many), some (tD t), some (.int left), some (.int k), some (.loc N.length), z] := ⟨_, rfl⟩
      refine st_for ((List.range m).map fun (j : Nat) => .int (j : Int)) (fun _ => True) (N ++ [.lst []]) G (by simp [wp_v, em, irm]) (by rw [hG]; exact ⟨[], _, rfl, trivial, rfl, by simp [depthL], rfl, rfl⟩) (fun _ _ _ _ => trivial) ?_ ?_
      · intro j d ds h' hd' hj
        rw [hG] at hj
        obtain ⟨ls, z, ll, lg, lk, ld, rfl, rfl⟩ := hj
        have j8 : j < 8 := by
          have := (List.getElem?_eq_some_iff.mp hd').1
          rw [List.length_map, List.length_range] at this
          omega
        obtain ⟨v, rfl, hv⟩ : ∃ v : Nat, d = .int v ∧ v < 8 := by
          have := List.mem_of_getElem? hd'
          obtain ⟨x, hx, rfl⟩ := List.mem_map.mp this
          have := List.mem_range.mp hx
          exact ⟨x, rfl, by omega⟩
        have cv : ∀ j, cMul (v : Int) j = true := fun _ => cMul_l (by omega) (by omega)
        have ck : ckList (.loc N.length) (N ++ [.lst (tDs ls)]) = true := ck_lst (xs := tDs ls) (by simp)
        have app := append_lst (h := N ++ [.lst (tDs ls)]) (l := N.length) (v := tD (.bl (1000000000 - (v : Int) * q49))) (xs := tDs ls) (by simp) (by rw [tDs_len]; omega)
        rw [tDs_app] at app
        have vq : 0 ≤ (v : Int) * q49 ∧ (v : Int) * q49 ≤ 7 * 99999999 := by
          have h7 : (v : Int) ≤ 7 := by omega
          have a1 := Int.mul_nonneg (show (0 : Int) ≤ (v : Int) by omega) q0
          have a2 : (v : Int) * q49 ≤ 7 * q49 := Int.mul_le_mul_of_nonneg_right h7 q0
          omega
        have fin : ∀ z, G (j + 1) [some (.int cell), some (.loc ln), some (.int deep), some (.int many), some (tD t), some (.int left), some (.int k), some (.loc N.length), z] (N ++ [.lst (tDs (ls ++ [.bl (1000000000 - (v : Int) * q49)]))]) := fun z => by
          rw [hG]
          refine ⟨_, _, by simp [ll], goodL_snoc (u := .bl (1000000000 - (v : Int) * q49)) lg ⟨by omega, by omega⟩, by rw [knotsL_snoc, lk, Tr.knots], by rw [depthL_snoc, Tr.depth]; omega, rfl, rfl⟩
        simp [tD] at app
        try simp [tD] at fin
        simp [wp_v, w9, w8, d49, cv, ck, app, fin]
      · intro ds h' hj
        rw [hG] at hj
        obtain ⟨ls, z, ll, lg, lk, ld, rfl, rfl⟩ := hj
        rw [List.length_map, List.length_range] at ll lk
        refine st_set (.int (left - 8)) (N ++ [.lst (tDs ls)]) (by simp [wp_v]) ?_
        have d20 := fun h => dr (20 + (k : Int)) 2 h (by decide) (by omega)
        simp only [List.set_cons_succ, List.set_cons_zero]
        have gN : ∀ q : Hs, (N ++ q)[ln]? = some (.lst (ns.map D.str)) := fun q => by rw [hN]; exact get_app (get_app hn)
        obtain ⟨s, hs, ms⟩ := names_at h4 (i := (k : Int) % 4) (Int.emod_nonneg _ (by decide)) (Int.emod_lt_of_pos _ (by decide))
        have c4 : cMod (k : Int) 4 = true := cMod_of (by decide)
        have rest : ∀ (Qq : D → Hs → Prop) (Xx : QX) (ts : List Tr) (l2 : Nat) (N2 : Hs) (r2 : Hs), N2 = N ++ r2 → N2[l2]? = some (.lst (tDs ts)) → goodL ts → ts.length ≤ 9 → knotsL ts = m + t.knots → depthL ts ≤ max 1 t.depth →
            (setM 4 (argM tupF (consA (cM (.str "block")) (consA (binM ixF (vM 1) (binM modF (vM 6) (cM (.int 4)))) (consA (argM tupT (consA (vM 7) nilA)) nilA)))) [some (.int cell), some (.loc ln), some (.int deep), some (.int many), some (tD t), some (.int (left - 8)), some (.int k), some (.loc l2), z] N2).wp (J (i + 1)) Qq Xx := by
          intro Qq Xx ts l2 N2 r2 e2 el gt tl kt dt
          have dtp : 1 ≤ t.depth := by rw [depth_parts]; omega
          have ix := ix_lst (i := (k : Int) % 4) (gN r2)
          rw [hs, ← e2] at ix
          have tp := tup_loc el
          have fin : ∀ x y z, J (i + 1) [some (.int cell), some (.loc ln), some (.int deep), some (.int many), some (tD (.bk s ts)), some (.int (left - 8)), x, y, z] N2 := fun x y z => by
            rw [hJ]
            refine ⟨.bk s ts, left - 8, u + m, r ++ r2, x, y, z, ⟨hg s ms, tl, gt⟩, by rw [Tr.depth]; omega, by rw [Tr.knots, kt]; omega, by omega, by omega, by omega, by rw [e2, hN]; simp, rfl⟩
          simp at ix
          simp [tD] at fin
          simp [wp_v, c4, ix, tp, fin]
        have z1 : (tDs ls).length + 1 ≤ 16777216 := by rw [tDs_len]; omega
        have dtp : 1 ≤ t.depth := by rw [depth_parts]; omega
        by_cases c : drawI cell (20 + (k : Int)) 2 = 1
        · have ad : addF (.loc N.length) (.loc (N.length + 1)) (N ++ [.lst (tDs ls), .lst [tD t]]) = some (.loc (N.length + 2), N ++ [.lst (tDs ls), .lst [tD t], .lst (tDs (ls ++ [t]))]) := by
            have g1 : (N ++ [AO.lst (tDs ls), .lst [tD t]])[N.length]? = some (.lst (tDs ls)) := by simp
            have g2 : (N ++ [AO.lst (tDs ls), .lst [tD t]])[N.length + 1]? = some (.lst [tD t]) := by simp
            simp only [addF, g1, g2]
            rw [if_pos (by rw [tDs_len]; show _ + 1 ≤ 16777216; rw [tDs_len] at z1; omega), tDs_app]
            simp
          refine st_seq [some (.int cell), some (.loc ln), some (.int deep), some (.int many), some (tD t), some (.int (left - 8)), some (.int k), some (.loc (N.length + 2)), z] (N ++ [.lst (tDs ls), .lst [tD t], .lst (tDs (ls ++ [t]))]) ?_ ?_
          · simp [wp_v, d20, c, ad]
          · exact rest _ _ (ls ++ [t]) (N.length + 2) (N ++ [.lst (tDs ls), .lst [tD t], .lst (tDs (ls ++ [t]))]) [.lst (tDs ls), .lst [tD t], .lst (tDs (ls ++ [t]))] rfl (by simp) (goodL_snoc lg g) (by simp; omega) (by rw [knotsL_snoc, lk]) (by rw [depthL_snoc]; omega)
        · have ad : addF (.loc (N.length + 1)) (.loc N.length) (N ++ [.lst (tDs ls), .lst [tD t]]) = some (.loc (N.length + 2), N ++ [.lst (tDs ls), .lst [tD t], .lst (tDs (t :: ls))]) := by
            have g1 : (N ++ [AO.lst (tDs ls), .lst [tD t]])[N.length]? = some (.lst (tDs ls)) := by simp
            have g2 : (N ++ [AO.lst (tDs ls), .lst [tD t]])[N.length + 1]? = some (.lst [tD t]) := by simp
            simp only [addF, g1, g2]
            rw [if_pos (by rw [tDs_len]; show 1 + _ ≤ 16777216; rw [tDs_len] at z1; omega)]
            simp [tDs]
          refine st_seq [some (.int cell), some (.loc ln), some (.int deep), some (.int many), some (tD t), some (.int (left - 8)), some (.int k), some (.loc (N.length + 2)), z] (N ++ [.lst (tDs ls), .lst [tD t], .lst (tDs (t :: ls))]) ?_ ?_
          · simp [wp_v, d20, c, ad]
          · exact rest _ _ (t :: ls) (N.length + 2) (N ++ [.lst (tDs ls), .lst [tD t], .lst (tDs (t :: ls))]) [.lst (tDs ls), .lst [tD t], .lst (tDs (t :: ls))] rfl (by simp) ⟨g, lg⟩ (by simp; omega) (by rw [knotsL, lk]; omega) (by rw [depthL]; omega)
    · intro ds h' hj
      rw [hJ] at hj
      obtain ⟨t, left, u, r, x, y, z, g, dp, kn, ul, l1, l2, rfl, rfl⟩ := hj
      rw [List.length_map, List.length_range] at dp kn
      have hu : (u : Int) ≤ (if deep < many then (many : Int) - deep else 0) := by
        have : (0 : Int) ≤ (if 0 < left then left else 0) := by split <;> omega
        omega
      simp [wp_v, noloc_tD]
      refine ⟨t, rfl, g, by omega, ?_⟩
      split at hu <;> omega
  rw [S__law_great]
  obtain ⟨d, h', e, t, rfl, rfl, q⟩ := R.wp_ex main
  exact ⟨t, e, q⟩
end DV
namespace DV
open PySem PySem.Spec PyProof.Rows L2
/-- what is written is read -/
theorem read_txt (n : Nat) (h : Hs) {t : Tr} (g : t.good) (hd : t.depth ≤ 30) (hk : t.knots ≤ 200) (hn : 70 ≤ n) : F_read n [.str (txS t)] h = .ok (tD t) h := by
  have w := read_ok n h (txS t) (txS_ok g (by omega)) hn
  rw [txS_list, rdAll_txt g hd hk] at w
  refine R.wp_eq.mp (R.wp_mono w ?_ ?_)
  · rintro d h' ⟨t', b, e, rfl, rfl⟩
    cases e
    exact ⟨rfl, rfl⟩
  · rintro c h' ⟨e, _⟩
    cases e
end DV
namespace DV
open PySem PySem.Spec PyProof.Rows L2
inductive Md where
  | bg
  | nm (k : Nat)
  | nr (n : Int)
  | en
/-- one sign: the counts (the innermost first), the state, the knots begun -/
inductive Sc where
  | go (cs : List Nat) (m : Md) (b : Nat)
  | no (c : Str)
def bhd (c : Nat) (cs : List Nat) (b : Nat) : Sc := match cs with
  | [] => .no "BadText"
  | k :: cs => if c = 44 then (if k = 9 then .no "BadText" else .go ((k + 1) :: cs) .bg b) else if c = 41 then .go cs .en b else .no "BadText"
def stp (c : Nat) (cs : List Nat) (m : Md) (b : Nat) : Sc := match m with
  | .bg => if badB [c] = true then .no "BadText" else if b = 200 ∨ 30 ≤ cs.length then .no "TooLong" else .go cs (if c = 63 then .nr 0 else .nm 1) (b + 1)
  | .nm k => if nmS c = true then (if 12 < k + 1 then .no "BadText" else .go cs (.nm (k + 1)) b) else if c = 40 then .go (1 :: cs) .bg b else bhd c cs b
  | .nr n => if fg c = true then (if n * 10 + ((c : Int) - 48) = 0 ∨ 1000000000 < n * 10 + ((c : Int) - 48) then .no "BadText" else .go cs (.nr (n * 10 + ((c : Int) - 48))) b) else if n = 0 then .no "BadText" else bhd c cs b
  | .en => bhd c cs b
def fin (cs : List Nat) (m : Md) : Str := match m with
  | .bg => "BadText"
  | .nr n => if n = 0 then "BadText" else if cs = [] then "" else "BadText"
  | _ => if cs = [] then "" else "BadText"
def scn : List Nat → List Nat → Md → Nat → Str
  | [], cs, m, _ => fin cs m
  | c :: r, cs, m, b => match stp c cs m b with
    | .go cs m b => scn r cs m b
    | .no e => e
theorem scn_nm : ∀ (r cs : List Nat) (k b : Nat), k ≤ 12 → scn r cs (.nm k) b = if 12 < k + (r.takeWhile nmS).length then ("BadText" : Str) else if bgn (r.dropWhile nmS) = 40 then scn (r.dropWhile nmS).tail (1 :: cs) .bg b else scn (r.dropWhile nmS) cs .en b
  | [], cs, k, b, hk => by
    have : ¬ 12 < k + 0 := by omega
    show _ = if 12 < k + 0 then ("BadText" : Str) else if 10 = 40 then _ else scn [] cs .en b
    rw [if_neg this]
    rfl
  | c :: r, cs, k, b, hk => by
    rw [scn, stp]
    cases z : nmS c with
    | true =>
      rw [if_pos rfl, List.takeWhile_cons, if_pos z, List.dropWhile_cons, if_pos z, List.length_cons]
      by_cases h : 12 < k + 1
      · rw [if_pos h, if_pos (by omega)]
      · rw [if_neg h]
        show scn r cs (.nm (k + 1)) b = _
        rw [scn_nm r cs (k + 1) b (by omega)]
        rw [show k + 1 + (r.takeWhile nmS).length = k + ((r.takeWhile nmS).length + 1) by omega]
    | false =>
      have zf : ¬ nmS c = true := by rw [z]; exact Bool.false_ne_true
      rw [if_neg Bool.false_ne_true, List.takeWhile_cons, if_neg zf, List.dropWhile_cons, if_neg zf, List.length_nil, bgn_cons, if_neg (show ¬ 12 < k + 0 by omega)]
      clear zf
      by_cases h : c = 40
      · rw [if_pos h, if_pos h]; rfl
      · rw [if_neg h, if_neg h, scn, stp]
theorem scn_nr : ∀ (r cs : List Nat) (n : Int) (b : Nat), scn r cs (.nr n) b = match numL n r with
    | some (_, r') => scn r' cs .en b
    | none => "BadText"
  | [], cs, n, b => by
    unfold numL
    by_cases h : n = 0
    · rw [if_pos h]
      unfold scn fin
      exact if_pos h
    · rw [if_neg h]
      unfold scn fin
      exact if_neg h
  | c :: r, cs, n, b => by
    rw [scn, stp, numL]
    by_cases z : fg c = true
    · rw [if_pos z, if_pos z]
      by_cases y : n * 10 + ((c : Int) - 48) = 0 ∨ 1000000000 < n * 10 + ((c : Int) - 48)
      · rw [if_pos y, if_pos y]
      · rw [if_neg y, if_neg y]
        exact scn_nr r cs _ b
    · rw [if_neg z, if_neg z]
      by_cases y : n = 0
      · rw [if_pos y, if_pos y]
      · rw [if_neg y, if_neg y]
        show _ = scn (c :: r) cs .en b
        rw [scn, stp]
theorem scn_en (r cs : List Nat) (k b : Nat) (L : Nat)
    (hT : ∀ r cs b, b ≤ 200 → L + cs.length = 30 → scn r cs .bg b = match rdT L r b with | .ok _ r' b' => scn r' cs .en b' | .err c => c) :
    ∀ (m : Nat) (r : List Nat) (k b : Nat) (acc : List Tr), k + m = 9 → b ≤ 200 → L + (cs.length + 1) = 30 → scn r (k :: cs) .en b = match rdM (rdT L) m r b acc with | .ok _ r' b' => scn r' cs .en b' | .err c => c
  | m, r, k, b, acc, hk, hb, hL => by
    rw [rdM_m]
    cases r with
    | nil =>
      rw [bgn_nil, if_neg (by decide), if_neg (by decide)]
      rfl
    | cons c r =>
      rw [bgn_cons, List.tail_cons, scn, stp, bhd]
      by_cases c1 : c = 44
      · rw [if_pos c1, if_pos c1]
        cases m with
        | zero => rw [if_pos (by omega)]
        | succ m =>
          rw [if_neg (by omega)]
          show scn r ((k + 1) :: cs) .bg b = _
          rw [hT r ((k + 1) :: cs) b hb (by simpa using hL)]
          simp only
          cases e : rdT L r b with
          | err c => rfl
          | ok t r' b' =>
            simp only
            obtain ⟨_, _, _, h4, _⟩ := rdT_sound L r b t r' b' hb e
            exact scn_en r cs k b L hT m r' (k + 1) b' _ (by omega) h4 hL
      · rw [if_neg c1, if_neg c1]
        by_cases c2 : c = 41
        · rw [if_pos c2, if_pos c2]
        · rw [if_neg c2, if_neg c2]
theorem badB_one (c : Nat) (r : List Nat) : badB (c :: r) = badB [c] := rfl
theorem scn_bg : ∀ (L : Nat) (r cs : List Nat) (b : Nat), b ≤ 200 → L + cs.length = 30 → scn r cs .bg b = match rdT L r b with | .ok _ r' b' => scn r' cs .en b' | .err c => c
  | 0, [], cs, b, _, _ => rfl
  | L + 1, [], cs, b, _, _ => rfl
  | 0, c :: r, cs, b, hb, hL => by
    rw [scn, stp, rdT, badB_one c r]
    by_cases z : badB [c] = true
    · rw [if_pos z, if_pos z]
    · rw [if_neg z, if_neg z, if_pos (.inr (by omega))]
  | L + 1, c :: r, cs, b, hb, hL => by
    rw [scn, stp, rdT, badB_one c r]
    by_cases z : badB [c] = true
    · rw [if_pos z, if_pos z]
    · rw [if_neg z, if_neg z]
      by_cases h2 : b = 200
      · rw [if_pos (.inl h2), if_pos h2]
      · rw [if_neg (by omega), if_neg h2, bgn_cons]
        by_cases q : c = 63
        · rw [if_pos q, if_pos q, List.tail_cons]
          show scn r cs (.nr 0) (b + 1) = _
          rw [scn_nr]
          cases numL 0 r with
          | none => rfl
          | some p => rfl
        · rw [if_neg q, if_neg q]
          show scn r cs (.nm 1) (b + 1) = _
          rw [scn_nm r cs 1 (b + 1) (by decide)]
          have sc : sm c = true := by
            unfold badB at z
            rw [bgn_cons] at z
            simp [q] at z
            exact z
          have nc := sm_nm sc
          unfold rdName
          rw [List.takeWhile_cons, if_pos nc, List.dropWhile_cons, if_pos nc, List.length_cons]
          by_cases l12 : 12 < (r.takeWhile nmS).length + 1
          · rw [if_pos (by omega), if_pos l12]
          · rw [if_neg (by omega), if_neg l12]
            simp only
            by_cases o : bgn (r.dropWhile nmS) = 40
            · rw [if_pos o, if_pos o, rdP]
              rw [scn_bg L _ (1 :: cs) (b + 1) (by omega) (by rw [List.length_cons]; omega)]
              cases e : rdT L (r.dropWhile nmS).tail (b + 1) with
              | err c => rfl
              | ok t r2 b2 =>
                simp only
                obtain ⟨_, _, _, h4, _⟩ := rdT_sound L _ _ t r2 b2 (by omega) e
                rw [scn_en r2 cs 1 b2 L (fun r cs b => scn_bg L r cs b) 8 r2 1 b2 [t] rfl h4 (by omega)]
                cases rdM (rdT L) 8 r2 b2 [t] with
                | ok p r b => rfl
                | err c => rfl
            · rw [if_neg o, if_neg o]
theorem scn_all (s : List Nat) : scn s [] .bg 0 = match rdAll s with | .ok _ _ _ => "" | .err c => c := by
  rw [scn_bg 30 s [] 0 (by decide) rfl, rdAll]
  cases rdT 30 s 0 with
  | err c => rfl
  | ok t r b =>
    cases r with
    | nil => rfl
    | cons c r => rfl
end DV
namespace DV
open PySem PySem.Spec PyProof.Rows L2
def s1 (c : Nat) : Str := ⟨#[c]⟩
theorem eq1 {h : Hs} {c k : Nat} (hc : c < 0x110000) {lit : Str} (hl : lit = ⟨#[k]⟩) (hk : k < 0x110000) : eqF (.str (s1 c)) (.str lit) h = some (.bl (decide (c = k)), h) := by
  rw [hl]
  unfold s1
  rw [eq_strs (one_ok hc) (one_ok hk)]
  congr 3
  exact decide_eq_decide.mpr one_eq
theorem ne1 {h : Hs} {c k : Nat} (hc : c < 0x110000) {lit : Str} (hl : lit = ⟨#[k]⟩) (hk : k < 0x110000) : neF (.str (s1 c)) (.str lit) h = some (.bl (!decide (c = k)), h) := by
  rw [hl]
  unfold s1
  rw [ne_strs (one_ok hc) (one_ok hk)]
  congr 4
  exact decide_eq_decide.mpr one_eq
theorem in36 {h : Hs} {c : Nat} : inF (.str (s1 c)) (.str "abcdefghijklmnopqrstuvwxyz0123456789") h = some (.bl (nmS c), h) := by
  have e : ("abcdefghijklmnopqrstuvwxyz0123456789" : Str).cps.toList = smallS.cps.toList ++ figS.cps.toList := by decide +kernel
  show some (D.bl (decide (c ∈ ("abcdefghijklmnopqrstuvwxyz0123456789" : Str).cps.toList)), h) = _
  have : decide (c ∈ ("abcdefghijklmnopqrstuvwxyz0123456789" : Str).cps.toList) = nmS c := by
    unfold nmS sm fg
    rw [e]
    simp [List.mem_append]
  rw [this]
theorem in10 {h : Hs} {c : Nat} : inF (.str (s1 c)) (.str "0123456789") h = some (.bl (fg c), h) := rfl
theorem nin27 {h : Hs} {c : Nat} : ninF (.str (s1 c)) (.str "abcdefghijklmnopqrstuvwxyz?") h = some (.bl (badB [c]), h) := by
  have e : ("abcdefghijklmnopqrstuvwxyz?" : Str).cps.toList = smallS.cps.toList ++ [63] := by decide +kernel
  show some (D.bl (!decide (c ∈ ("abcdefghijklmnopqrstuvwxyz?" : Str).cps.toList)), h) = _
  have : (!decide (c ∈ ("abcdefghijklmnopqrstuvwxyz?" : Str).cps.toList)) = badB [c] := by
    unfold badB sm
    rw [e, bgn_cons]
    simp [List.mem_append]
    cases decide (c ∈ smallS.cps) <;> simp
  rw [this]
theorem nin2 {h : Hs} {c : Nat} : ninF (.str (s1 c)) (.str ",)") h = some (.bl (!(decide (c = 44) || decide (c = 41))), h) := by
  have e : (",)" : Str).cps.toList = [44, 41] := by decide +kernel
  show some (D.bl (!decide (c ∈ (",)" : Str).cps.toList)), h) = _
  rw [e]
  simp
theorem sok_begin : PyData.strOk "begin" = true := by decide +kernel
theorem sok_name : PyData.strOk "name" = true := by decide +kernel
theorem sok_number : PyData.strOk "number" = true := by decide +kernel
theorem sok_end : PyData.strOk "end" = true := by decide +kernel
theorem sok_bad : PyData.strOk "BadText" = true := by decide +kernel
theorem sok_long : PyData.strOk "TooLong" = true := by decide +kernel
theorem sok_nil : PyData.strOk "" = true := by decide +kernel
section
variable {h : Hs}
theorem st_bb : eqF (.str "begin") (.str "begin") h = some (.bl true, h) := by rw [eq_strs sok_begin sok_begin, decide_eq_true rfl]
theorem st_bm : eqF (.str "begin") (.str "name") h = some (.bl false, h) := by rw [eq_strs sok_begin sok_name, decide_eq_false (by decide +kernel)]
theorem st_br : eqF (.str "begin") (.str "number") h = some (.bl false, h) := by rw [eq_strs sok_begin sok_number, decide_eq_false (by decide +kernel)]
theorem st_mb : eqF (.str "name") (.str "begin") h = some (.bl false, h) := by rw [eq_strs sok_name sok_begin, decide_eq_false (by decide +kernel)]
theorem st_mm : eqF (.str "name") (.str "name") h = some (.bl true, h) := by rw [eq_strs sok_name sok_name, decide_eq_true rfl]
theorem st_mr : eqF (.str "name") (.str "number") h = some (.bl false, h) := by rw [eq_strs sok_name sok_number, decide_eq_false (by decide +kernel)]
theorem st_rb : eqF (.str "number") (.str "begin") h = some (.bl false, h) := by rw [eq_strs sok_number sok_begin, decide_eq_false (by decide +kernel)]
theorem st_rm : eqF (.str "number") (.str "name") h = some (.bl false, h) := by rw [eq_strs sok_number sok_name, decide_eq_false (by decide +kernel)]
theorem st_rr : eqF (.str "number") (.str "number") h = some (.bl true, h) := by rw [eq_strs sok_number sok_number, decide_eq_true rfl]
theorem st_eb : eqF (.str "end") (.str "begin") h = some (.bl false, h) := by rw [eq_strs sok_end sok_begin, decide_eq_false (by decide +kernel)]
theorem st_em : eqF (.str "end") (.str "name") h = some (.bl false, h) := by rw [eq_strs sok_end sok_name, decide_eq_false (by decide +kernel)]
theorem st_er : eqF (.str "end") (.str "number") h = some (.bl false, h) := by rw [eq_strs sok_end sok_number, decide_eq_false (by decide +kernel)]
theorem sv_nn : eqF (.str "") (.str "") h = some (.bl true, h) := by rw [eq_strs sok_nil sok_nil, decide_eq_true rfl]
theorem sv_bn : eqF (.str "BadText") (.str "") h = some (.bl false, h) := by rw [eq_strs sok_bad sok_nil, decide_eq_false (by decide +kernel)]
theorem sv_ln : eqF (.str "TooLong") (.str "") h = some (.bl false, h) := by rw [eq_strs sok_long sok_nil, decide_eq_false (by decide +kernel)]
theorem sw_nn : neF (.str "") (.str "") h = some (.bl false, h) := by rw [ne_strs sok_nil sok_nil, decide_eq_true rfl]; rfl
theorem sw_bn : neF (.str "BadText") (.str "") h = some (.bl true, h) := by rw [ne_strs sok_bad sok_nil, decide_eq_false (by decide +kernel)]; rfl
theorem sw_ln : neF (.str "TooLong") (.str "") h = some (.bl true, h) := by rw [ne_strs sok_long sok_nil, decide_eq_false (by decide +kernel)]; rfl
end
theorem sq_ask {h : Hs} {c : Nat} (hc : c < 0x110000) : eqF (.str (s1 c)) (.str "?") h = some (.bl (decide (c = 63)), h) := eq1 hc lit_ask (by decide)
theorem sn_ask {h : Hs} {c : Nat} (hc : c < 0x110000) : neF (.str (s1 c)) (.str "?") h = some (.bl (!decide (c = 63)), h) := ne1 hc lit_ask (by decide)
theorem sq_open {h : Hs} {c : Nat} (hc : c < 0x110000) : eqF (.str (s1 c)) (.str "(") h = some (.bl (decide (c = 40)), h) := eq1 hc lit_open (by decide)
theorem sq_comma {h : Hs} {c : Nat} (hc : c < 0x110000) : eqF (.str (s1 c)) (.str ",") h = some (.bl (decide (c = 44)), h) := eq1 hc lit_comma (by decide)
/-- the counts, as the program's list keeps them -/
def cD (cs : List Nat) : List D := cs.reverse.map fun k : Nat => D.int (k : Int)
theorem cD_nil : cD [] = [] := rfl
theorem cD_cons (k : Nat) (cs : List Nat) : cD (k :: cs) = cD cs ++ [.int k] := by simp [cD]
theorem cD_len (cs : List Nat) : (cD cs).length = cs.length := by simp [cD]
theorem cD_empty (cs : List Nat) : (cD cs).isEmpty = decide (cs = []) := by
  cases cs with
  | nil => rfl
  | cons k cs => rw [cD_cons]; simp
theorem begun_ok (n : Nat) (h : Hs) (c b l : Nat) (cs : List Nat) (e : h[l]? = some (.lst (cD cs))) : F__law_begun (n + 1) [.str (s1 c), .int b, .loc l] h = .ok (.str (if badB [c] = true then "BadText" else if b = 200 ∨ 30 ≤ cs.length then "TooLong" else "")) h := by
  rw [S__law_begun]
  refine R.wp_eq.mp ?_
  have le := len_lst e
  rw [cD_len] at le
  simp only [wp_pure, wp_run, m__law_begun, startD]
  refine ⟨rfl, ?_⟩
  cases z : badB [c] with
  | true => simp [wp_v, nin27, z, noloc]
  | false =>
    by_cases b2 : b = 200
    · simp [wp_v, nin27, z, noloc, b2]
    · have b3 : ¬ (b : Int) = 200 := by omega
      by_cases l3 : 30 ≤ cs.length
      · have l4 : (30 : Int) ≤ (cs.length : Int) := by omega
        simp [wp_v, nin27, z, noloc, b2, b3, le, l3, l4]
      · have l4 : ¬ (30 : Int) ≤ (cs.length : Int) := by omega
        simp [wp_v, nin27, z, noloc, b2, b3, le, l3, l4]
theorem behind_ok (n : Nat) (h : Hs) (c l : Nat) (cs : List Nat) (hc : c < 0x110000) (e : h[l]? = some (.lst (cD cs))) : F__law_behind (n + 1) [.str (s1 c), .loc l] h = .ok (.str (match bhd c cs 0 with | .no e => e | .go _ _ _ => "")) h := by
  rw [S__law_behind]
  refine R.wp_eq.mp ?_
  have ee := eq_empty e
  simp only [wp_pure, wp_run, m__law_behind, startD]
  refine ⟨rfl, ?_⟩
  cases cs with
  | nil =>
    simp [cD_nil] at ee
    simp [wp_v, ee, noloc, bhd]
  | cons k cs =>
    rw [cD_cons] at ee e
    have ix : ∀ q : Hs, ixF (.loc l) (.int (-1)) (h ++ q) = some (.int k, h ++ q) := fun q => by rw [ix_lst (get_app e), at_last]; rfl
    rw [show (cD cs ++ [D.int (k : Int)]).isEmpty = false by cases cD cs <;> rfl] at ee
    unfold bhd
    by_cases c1 : c = 44
    · by_cases k9 : k = 9
      · have k9' : (k : Int) = 9 := by omega
        simp [wp_v, ee, noloc, nin2, c1, sq_comma, hc, ix, k9, k9']
      · have k9' : ¬ (k : Int) = 9 := by omega
        simp [wp_v, ee, noloc, nin2, c1, sq_comma, hc, ix, k9, k9']
    · by_cases c2 : c = 41
      · simp [wp_v, ee, noloc, nin2, c1, c2, sq_comma, hc, ix]
      · simp [wp_v, ee, noloc, nin2, c1, c2, sq_comma, hc, ix]
end DV
namespace DV
open PySem PySem.Spec PyProof.Rows L2
/-- the heap behind, with the counts in its first new place -/
def Kp (h h' : Hs) (C : List D) : Prop := h'.take h.length = h ∧ h'[h.length]? = some (.lst C)
theorem Kp.lt {h h' : Hs} {C : List D} (k : Kp h h' C) : h.length < h'.length := (List.getElem?_eq_some_iff.mp k.2).1
theorem Kp.app {h h' : Hs} {C : List D} (k : Kp h h' C) (q : Hs) : Kp h (h' ++ q) C := ⟨by rw [List.take_append_of_le_length (Nat.le_of_lt k.lt)]; exact k.1, get_app k.2⟩
theorem Kp.set {h h' : Hs} {C : List D} (k : Kp h h' C) (C' : List D) : Kp h (h'.set h.length (.lst C')) C' := ⟨by rw [List.take_set_of_le (Nat.le_refl _)]; exact k.1, by rw [List.getElem?_set_self k.lt]⟩
theorem pick0 {h : Hs} {a b : D} : ixF (.loc h.length) (.int 0) (h ++ [.lst [a, b]]) = some (a, h ++ [.lst [a, b]]) := by
  rw [ix_lst (xs := [a, b]) (by simp)]; rfl
theorem pick1 {h : Hs} {a b : D} : ixF (.loc h.length) (.int 1) (h ++ [.lst [a, b]]) = some (b, h ++ [.lst [a, b]]) := by
  rw [ix_lst (xs := [a, b]) (by simp)]; rfl
theorem pick0b {h : Hs} {x : AO} {a b : D} : ixF (.loc (h.length + 1)) (.int 0) (h ++ [x, .lst [a, b]]) = some (a, h ++ [x, .lst [a, b]]) := by
  rw [ix_lst (xs := [a, b]) (by simp)]; rfl
theorem set_last {h : Hs} {l : Nat} {xs : List D} {a v : D} (e : h[l]? = some (.lst (xs ++ [a]))) : setAF (.loc l) (.int (-1)) v h = some (h.set l (.lst (xs ++ [v]))) := by
  have e2 : ixN (xs ++ [a]).length (-1) = some xs.length := by
    unfold ixN
    have e1 : ((-1 : Int) + ((xs ++ [a]).length : Int)).toNat = xs.length := by rw [List.length_append, List.length_singleton]; omega
    rw [if_neg (by decide), if_pos (by rw [List.length_append, List.length_singleton]; omega), e1]
  unfold setAF
  simp only [e, e2, Option.map_some]
  simp
theorem pickR0 {h r : Hs} {a b : D} : ixF (.loc h.length) (.int 0) (h ++ (.lst [a, b] :: r)) = some (a, h ++ (.lst [a, b] :: r)) := by
  rw [ix_lst (xs := [a, b]) (by simp)]; rfl
theorem pickR1 {h r : Hs} {a b : D} : ixF (.loc h.length) (.int 1) (h ++ (.lst [a, b] :: r)) = some (b, h ++ (.lst [a, b] :: r)) := by
  rw [ix_lst (xs := [a, b]) (by simp)]; rfl
theorem neempty {h : Hs} {l : Nat} {xs : List D} (e : h[l]? = some (.lst xs)) : neF (.loc l) (.loc h.length) (h ++ [AO.lst []]) = some (.bl (!xs.isEmpty), h ++ [AO.lst []]) := by
  unfold neF
  rw [eqB_empty e]; rfl
theorem pickIf {h : Hs} {a b : D} {p : Prop} [Decidable p] : ixF (.loc h.length) (.int (if p then 1 else 0)) (h ++ [.lst [a, b]]) = some (if p then b else a, h ++ [.lst [a, b]]) := by
  by_cases q : p
  · rw [if_pos q, if_pos q, pick1]
  · rw [if_neg q, if_neg q, pick0]
def mdOk (m : Md) (st : Str) (z : Int) : Prop := match m with
  | .bg => st = "begin"
  | .nm k => st = "name" ∧ z = k ∧ 1 ≤ k ∧ k ≤ 12
  | .nr n => st = "number" ∧ z = n ∧ 0 ≤ n ∧ n ≤ 1000000000
  | .en => st = "end" ∧ 0 < z
theorem scan_ok (n : Nat) (h : Hs) (s : Str) (T : TxOk s) : F__law_scan (n + 2) [.str s] h = .ok (.str (scn s.cps.toList [] .bg 0)) h := by
  rw [S__law_scan]
  refine R.wp_eq.mp ?_
  rw [wp_pure, wp_run]
  refine ⟨rfl, ?_⟩
  unfold m__law_scan
  simp only [startD, List.map_cons, List.map_nil, List.length_cons, List.length_nil]
  generalize hE : scn s.cps.toList [] .bg 0 = E
  refine st_set (.loc h.length) (h ++ [.lst []]) (by simp [wp_v]) ?_
  refine st_set (.str "begin") (h ++ [.lst []]) ⟨rfl, rfl⟩ ?_
  refine st_set (.int 0) (h ++ [.lst []]) ⟨rfl, rfl⟩ ?_
  refine st_set (.int 0) (h ++ [.lst []]) ⟨rfl, rfl⟩ ?_
  simp only [List.set_cons_succ, List.set_cons_zero, List.replicate, List.cons_append, List.nil_append]
  obtain ⟨J, hJ⟩ : ∃ J : Nat → Sl → Hs → Prop, J = fun i ds h' => ∃ (cs : List Nat) (m : Md) (b : Nat) (st : Str) (z : Int) (x y : Option D), scn (s.cps.toList.drop i) cs m b = E ∧ mdOk m st z ∧ Kp h h' (cD cs) ∧ cs.length ≤ 30 + i ∧ ds = [some (.str s), some (.loc h.length), some (.str st), some (.int z), some (.int b), x, y] := ⟨_, rfl⟩
  have stay : ∀ {i : Nat} {cs : List Nat} {m : Md} {b : Nat} {st : Str} {z : Int} {x y : Option D} {h' : Hs}, scn (s.cps.toList.drop i) cs m b = E → mdOk m st z → Kp h h' (cD cs) → cs.length ≤ 30 + i → J i [some (.str s), some (.loc h.length), some (.str st), some (.int z), some (.int b), x, y] h' := by
    intro i cs m b st z x y h' e1 e2 e3 e4
    rw [hJ]
    exact ⟨cs, m, b, st, z, x, y, e1, e2, e3, e4, rfl⟩
  refine st_for (s.cps.toList.map fun c => D.str ⟨#[c]⟩) (fun _ => True) (h ++ [.lst []]) J (by simp [wp_v]) (stay (cs := []) (m := .bg) hE rfl ⟨by simp, by simp [cD_nil]⟩ (by simp)) (fun _ _ _ _ => trivial) ?_ ?_
  · intro i d ds h' hi hj
    rw [hJ] at hj
    obtain ⟨cs, m, b, st, z, x, y, e1, e2, e3, e4, rfl⟩ := hj
    rw [List.getElem?_map] at hi
    cases hc : s.cps.toList[i]? with
    | none => rw [hc] at hi; cases hi
    | some c =>
      rw [hc] at hi
      cases hi
      obtain ⟨il, ic⟩ := List.getElem?_eq_some_iff.mp hc
      have cl : c < 0x110000 := T.sg c (by rw [← ic]; exact List.getElem_mem _)
      rw [drop_head il, ic, scn] at e1
      have sl := str_len s
      have iz : i ≤ 50000 := by have := T.len; omega
      simp only [ws_nameG, List.set_cons_succ, List.set_cons_zero]
      refine st_set (.str "") h' ⟨rfl, rfl⟩ ?_
      simp only [List.set_cons_succ, List.set_cons_zero]
      show (seqM _ _ [some (.str s), some (.loc h.length), some (.str st), some (.int z), some (.int b), some (.str (s1 c)), some (.str "")] h').wp _ _ _
      have ck := ck_lst e3.2
      have bo := fun (q : Hs) => behind_ok n (h' ++ q) c h.length cs cl (get_app e3.2)
      have bo0 := behind_ok n h' c h.length cs cl e3.2
      have tk : ∀ q : Hs, (h' ++ q).take h.length = h := fun q => (e3.app q).1
      have k0 : ∀ q : Hs, q.length = 0 + q.length := by intro q; omega
      cases m with
      | bg =>
        obtain rfl := e2
        have bg := begun_ok n h' c b h.length cs e3.2
        simp only [stp] at e1
        by_cases z1 : badB [c] = true
        · rw [if_pos z1] at e1 bg
          simp only at e1
          simp [wp_v, st_bm, st_br, st_bb, bg, sq_ask, sn_ask, cl, sw_bn, sv_bn, noloc, tk, pick0, pick0b, pickIf, ← e1]
        · rw [if_neg z1] at e1 bg
          by_cases z2 : b = 200 ∨ 30 ≤ cs.length
          · rw [if_pos z2] at e1 bg
            simp only at e1
            simp [wp_v, st_bm, st_br, st_bb, bg, sq_ask, sn_ask, cl, sw_ln, sv_ln, noloc, tk, pick0, pick0b, pickIf, ← e1]
          · rw [if_neg z2] at e1 bg
            simp only at e1
            by_cases z3 : c = 63
            · rw [if_pos z3] at e1
              subst z3
              have fin := stay (x := some (.str (s1 63))) (y := some (.str "")) (z := 0) (st := "number") e1 ⟨rfl, rfl, by decide, by decide⟩ (e3.app [.lst [.str "name", .str "number"]]) (by omega)
              simp [wp_v, st_bm, st_br, st_bb, bg, sq_ask, sn_ask, cl, sw_nn, sv_nn, noloc, tk, pick0, pick1, st_rr]
              exact fin
            · rw [if_neg z3] at e1
              have fin := stay (x := some (.str (s1 c))) (y := some (.str "")) (z := 1) (st := "name") e1 ⟨rfl, rfl, by decide, by decide⟩ (e3.app [.lst [.str "name", .str "number"]]) (by omega)
              simp [wp_v, st_bm, st_br, st_bb, bg, sq_ask, sn_ask, cl, sw_nn, sv_nn, noloc, tk, pick0, pick1, z3, st_mr]
              exact fin
      | nm k =>
        obtain ⟨rfl, rfl, k1, k2⟩ := e2
        simp only [stp] at e1
        by_cases z1 : nmS c = true
        · rw [if_pos z1] at e1
          by_cases z2 : 12 < k + 1
          · rw [if_pos z2] at e1
            simp only at e1
            have z3 : (12 : Int) < (k : Int) + 1 := by omega
            simp [wp_v, st_mm, in36, z1, z3, noloc, e3.1, ← e1]
          · rw [if_neg z2] at e1
            simp only at e1
            have z3 : ¬ (12 : Int) < (k : Int) + 1 := by omega
            have fin := stay (x := some (.str (s1 c))) (y := some (.str "")) (z := (k : Int) + 1) (st := "name") e1 ⟨rfl, by omega, by omega, by omega⟩ e3 (by omega)
            simp [wp_v, st_mm, in36, z1, z3, sw_nn, st_mr, fin]
        · rw [if_neg z1] at e1
          have z1' : nmS c = false := by simpa using z1
          by_cases z2 : c = 40
          · rw [if_pos z2] at e1
            subst z2
            simp only at e1
            have ap := append_lst (v := .int 1) e3.2 (by rw [cD_len]; omega)
            have k3 := e3.set (cD cs ++ [.int 1])
            rw [show cD cs ++ [D.int 1] = cD (1 :: cs) from (cD_cons 1 cs).symm] at k3 ap
            have fin := stay (x := some (.str (s1 40))) (y := some (.str "")) (z := (k : Int)) (st := "begin") e1 rfl k3 (by rw [List.length_cons]; omega)
            simp [wp_v, st_mm, in36, z1', sw_nn, st_mr, st_mb, st_br, sq_open, cl, ck, ap]
            exact fin
          · rw [if_neg z2] at e1
            have k0' : 0 < k := by omega
            cases cs with
            | nil =>
              simp only [bhd] at e1 bo0
              simp [wp_v, st_mm, st_mr, st_mb, in36, z1', sq_open, cl, z2, bo0, sv_bn, sw_bn, noloc, e3.1, pick0, tk, ← e1]
            | cons q cs =>
              have e5 := e3.2
              rw [cD_cons] at e5
              have ixl : ixF (.loc h.length) (.int (-1)) h' = some (.int q, h') := by rw [ix_lst e5, at_last]; rfl
              by_cases c1 : c = 44
              · subst c1
                by_cases q9 : q = 9
                · simp only [bhd, if_true, if_pos q9] at e1 bo0
                  simp [wp_v, st_mm, st_mr, st_mb, in36, z1', sq_open, cl, z2, bo0, sv_bn, sw_bn, noloc, e3.1, pick0, tk, ← e1]
                · simp only [bhd, if_true, if_neg q9] at e1 bo0
                  have sl := set_last (v := .int ((q : Int) + 1)) e5
                  rw [show cD cs ++ [D.int ((q : Int) + 1)] = cD ((q + 1) :: cs) from (cD_cons (q + 1) cs).symm] at sl
                  have fin := stay (x := some (.str (s1 44))) (y := some (.str "")) (z := (k : Int)) (st := "begin") e1 rfl (e3.set _) (by rw [List.length_cons] at e4 ⊢; omega)
                  simp [wp_v, st_mm, st_mr, st_mb, in36, z1', sq_open, cl, z2, bo0, sv_nn, sw_nn, st_br, noloc, k0', sq_comma, cl, ixl, sl]
                  exact fin
              · by_cases c2 : c = 41
                · subst c2
                  simp only [bhd, if_true, if_neg c1] at e1 bo0
                  have pp := pop_lst e5
                  have fin := stay (x := some (.str (s1 41))) (y := some (.str "")) (z := (k : Int)) (st := "end") e1 ⟨rfl, by omega⟩ (e3.set _) (by rw [List.length_cons] at e4; omega)
                  simp [wp_v, st_mm, st_mr, st_mb, in36, z1', sq_open, cl, z2, bo0, sv_nn, sw_nn, st_er, noloc, k0', sq_comma, cl, ck, pp]
                  exact fin
                · simp only [bhd, if_neg c1, if_neg c2] at e1 bo0
                  simp [wp_v, st_mm, st_mr, st_mb, in36, z1', sq_open, cl, z2, bo0, sv_bn, sw_bn, noloc, e3.1, pick0, tk, ← e1]
      | nr m =>
        obtain ⟨rfl, rfl, k1, k2⟩ := e2
        simp only [stp] at e1
        by_cases z1 : fg c = true
        · rw [if_pos z1] at e1
          obtain ⟨c48, c57⟩ := (fg_iff c).mp z1
          have ff := find_fig z1
          have w9 : cPow 10 9 = true := cPow_of (by decide) (by decide) (by decide)
          have m10 : cMul z 10 = true := cMul_r (by decide) (by decide)
          have ck2 : ∀ h, ckStr (.str "0123456789") h = true := fun h => rfl
          have fn : ∀ h, findF (.str "0123456789") [.str (s1 c)] h = some (.int ((c : Int) - 48), h) := fun h => by
            unfold findF s1
            show some (D.int (Txt.find figS ⟨#[c]⟩), h) = _
            rw [ff]
          by_cases z2 : z * 10 + ((c : Int) - 48) = 0 ∨ 1000000000 < z * 10 + ((c : Int) - 48)
          · rw [if_pos z2] at e1
            simp only at e1
            by_cases z3 : z * 10 + ((c : Int) - 48) = 0
            · simp [wp_v, st_rr, st_rm, in10, z1, z3, noloc, e3.1, ← e1, m10, w9, ck2, fn]
            · have z4 : 1000000000 < z * 10 + ((c : Int) - 48) := by omega
              simp [wp_v, st_rr, st_rm, in10, z1, z3, z4, noloc, e3.1, ← e1, m10, w9, ck2, fn]
          · rw [if_neg z2] at e1
            simp only at e1
            have z3 : ¬ z * 10 + ((c : Int) - 48) = 0 := fun q => z2 (.inl q)
            have z4 : ¬ 1000000000 < z * 10 + ((c : Int) - 48) := fun q => z2 (.inr q)
            have fin := stay (x := some (.str (s1 c))) (y := some (.str "")) (z := z * 10 + ((c : Int) - 48)) (st := "number") e1 ⟨rfl, rfl, by omega, by omega⟩ e3 (by omega)
            simp [wp_v, st_rr, st_rm, in10, z1, z3, z4, noloc, m10, w9, ck2, fn, sw_nn, fin]
        · rw [if_neg z1] at e1
          have z1' : fg c = false := by simpa using z1
          by_cases z0 : z = 0
          · rw [if_pos z0] at e1
            subst z0
            cases cs with
            | nil =>
              simp only [bhd] at bo0
              simp [wp_v, st_rm, st_rr, st_rb, in10, z1', bo0, sv_bn, sw_bn, noloc, e3.1, pick0, tk, ← e1]
            | cons q cs =>
              by_cases c1 : c = 44
              · subst c1
                by_cases q9 : q = 9
                · simp only [bhd, if_true, if_pos q9] at bo0
                  simp [wp_v, st_rm, st_rr, st_rb, in10, z1', bo0, sv_bn, sw_bn, noloc, e3.1, pick0, tk, ← e1]
                · simp only [bhd, if_true, if_neg q9] at bo0
                  simp [wp_v, st_rm, st_rr, st_rb, in10, z1', bo0, sv_nn, sw_nn, noloc, e3.1, pick1, tk, ← e1, sn_ask, cl]
              · by_cases c2 : c = 41
                · subst c2
                  simp only [bhd, if_true, if_neg c1] at bo0
                  simp [wp_v, st_rm, st_rr, st_rb, in10, z1', bo0, sv_nn, sw_nn, noloc, e3.1, pick1, tk, ← e1, sn_ask, cl]
                · simp only [bhd, if_neg c1, if_neg c2] at bo0
                  simp [wp_v, st_rm, st_rr, st_rb, in10, z1', bo0, sv_bn, sw_bn, noloc, e3.1, pick0, tk, ← e1]
          · rw [if_neg z0] at e1
            have k0' : (0 : Int) < z := by omega
            cases cs with
            | nil =>
              simp only [bhd] at e1 bo0
              simp [wp_v, st_rm, st_rr, st_rb, in10, z1', bo0, sv_bn, sw_bn, noloc, e3.1, pick0, tk, ← e1]
            | cons q cs =>
              have e5 := e3.2
              rw [cD_cons] at e5
              have ixl : ixF (.loc h.length) (.int (-1)) h' = some (.int q, h') := by rw [ix_lst e5, at_last]; rfl
              by_cases c1 : c = 44
              · subst c1
                by_cases q9 : q = 9
                · simp only [bhd, if_true, if_pos q9] at e1 bo0
                  simp [wp_v, st_rm, st_rr, st_rb, in10, z1', bo0, sv_bn, sw_bn, noloc, e3.1, pick0, tk, ← e1]
                · simp only [bhd, if_true, if_neg q9] at e1 bo0
                  have sl := set_last (v := .int ((q : Int) + 1)) e5
                  rw [show cD cs ++ [D.int ((q : Int) + 1)] = cD ((q + 1) :: cs) from (cD_cons (q + 1) cs).symm] at sl
                  have fin := stay (x := some (.str (s1 44))) (y := some (.str "")) (z := z) (st := "begin") e1 rfl (e3.set _) (by rw [List.length_cons] at e4 ⊢; omega)
                  simp [wp_v, st_rm, st_rr, st_rb, in10, z1', bo0, sv_nn, sw_nn, st_br, noloc, k0', sq_comma, cl, ixl, sl]
                  exact fin
              · by_cases c2 : c = 41
                · subst c2
                  simp only [bhd, if_true, if_neg c1] at e1 bo0
                  have pp := pop_lst e5
                  have fin := stay (x := some (.str (s1 41))) (y := some (.str "")) (z := z) (st := "end") e1 ⟨rfl, by omega⟩ (e3.set _) (by rw [List.length_cons] at e4; omega)
                  simp [wp_v, st_rm, st_rr, st_rb, in10, z1', bo0, sv_nn, sw_nn, st_er, noloc, k0', sq_comma, cl, ck, pp]
                  exact fin
                · simp only [bhd, if_neg c1, if_neg c2] at e1 bo0
                  simp [wp_v, st_rm, st_rr, st_rb, in10, z1', bo0, sv_bn, sw_bn, noloc, e3.1, pick0, tk, ← e1]
      | en =>
        obtain ⟨rfl, k1⟩ := e2
        simp only [stp] at e1
        cases cs with
        | nil =>
          simp only [bhd] at e1 bo0
          simp [wp_v, st_em, st_er, st_eb, bo0, sv_bn, sw_bn, noloc, e3.1, pick0, tk, ← e1]
        | cons q cs =>
          have e5 := e3.2
          rw [cD_cons] at e5
          have ixl : ixF (.loc h.length) (.int (-1)) h' = some (.int q, h') := by rw [ix_lst e5, at_last]; rfl
          by_cases c1 : c = 44
          · subst c1
            by_cases q9 : q = 9
            · simp only [bhd, if_true, if_pos q9] at e1 bo0
              simp [wp_v, st_em, st_er, st_eb, bo0, sv_bn, sw_bn, noloc, e3.1, pick0, tk, ← e1]
            · simp only [bhd, if_true, if_neg q9] at e1 bo0
              have sl := set_last (v := .int ((q : Int) + 1)) e5
              rw [show cD cs ++ [D.int ((q : Int) + 1)] = cD ((q + 1) :: cs) from (cD_cons (q + 1) cs).symm] at sl
              have fin := stay (x := some (.str (s1 44))) (y := some (.str "")) (z := z) (st := "begin") e1 rfl (e3.set _) (by rw [List.length_cons] at e4 ⊢; omega)
              simp [wp_v, st_em, st_er, st_eb, bo0, sv_nn, sw_nn, st_br, noloc, k1, sq_comma, cl, ixl, sl]
              exact fin
          · by_cases c2 : c = 41
            · subst c2
              simp only [bhd, if_true, if_neg c1] at e1 bo0
              have pp := pop_lst e5
              have fin := stay (x := some (.str (s1 41))) (y := some (.str "")) (z := z) (st := "end") e1 ⟨rfl, by omega⟩ (e3.set _) (by rw [List.length_cons] at e4; omega)
              simp [wp_v, st_em, st_er, st_eb, bo0, sv_nn, sw_nn, st_er, noloc, k1, sq_comma, cl, ck, pp]
              exact fin
            · simp only [bhd, if_neg c1, if_neg c2] at e1 bo0
              simp [wp_v, st_em, st_er, st_eb, bo0, sv_bn, sw_bn, noloc, e3.1, pick0, tk, ← e1]
  · intro ds h' hj
    rw [hJ] at hj
    obtain ⟨cs, m, b, st, z, x, y, e1, e2, e3, e4, rfl⟩ := hj
    rw [List.length_map, List.drop_length, scn] at e1
    have ne := neempty (e3.app [.lst [.str "", .str "BadText"]]).2
    have kk : ∀ q : Hs, (h' ++ q).take h.length = h := fun q => (e3.app q).1
    rw [cD_empty] at ne
    unfold DV.fin at e1
    cases m with
    | bg =>
      obtain rfl := e2
      simp only at e1
      by_cases c0 : cs = []
      · rw [decide_eq_true c0] at ne
        simp at ne
        simp [wp_v, ne, st_bb, noloc, ← e1, kk, pickR1]
      · rw [decide_eq_false c0] at ne
        simp at ne
        simp [wp_v, ne, st_bb, noloc, ← e1, kk, pickR1]
    | nm k =>
      obtain ⟨rfl, rfl, k1, k2⟩ := e2
      simp only at e1
      have k3 : ¬ k = 0 := by omega
      by_cases c0 : cs = []
      · rw [if_pos c0] at e1
        rw [decide_eq_true c0] at ne
        simp at ne
        simp [wp_v, ne, st_mb, noloc, ← e1, kk, pickR0, k3]
      · rw [if_neg c0] at e1
        rw [decide_eq_false c0] at ne
        simp at ne
        simp [wp_v, ne, st_mb, noloc, ← e1, kk, pickR1]
    | nr m =>
      obtain ⟨rfl, rfl, k1, k2⟩ := e2
      simp only at e1
      by_cases c0 : cs = []
      · rw [decide_eq_true c0] at ne
        simp at ne
        rw [if_pos c0] at e1
        by_cases z0 : z = 0
        · rw [if_pos z0] at e1
          simp [wp_v, ne, st_rb, noloc, ← e1, kk, pickR1, z0]
        · rw [if_neg z0] at e1
          simp [wp_v, ne, st_rb, noloc, ← e1, kk, pickR0, z0]
      · rw [decide_eq_false c0] at ne
        simp at ne
        have e2 : E = "BadText" := by rw [← e1, if_neg c0]; split <;> rfl
        simp [wp_v, ne, st_rb, noloc, e2, kk, pickR1]
    | en =>
      obtain ⟨rfl, k1⟩ := e2
      simp only at e1
      have k3 : ¬ z = 0 := by omega
      by_cases c0 : cs = []
      · rw [if_pos c0] at e1
        rw [decide_eq_true c0] at ne
        simp at ne
        simp [wp_v, ne, st_eb, noloc, ← e1, kk, pickR0, k3]
      · rw [if_neg c0] at e1
        rw [decide_eq_false c0] at ne
        simp at ne
        simp [wp_v, ne, st_eb, noloc, ← e1, kk, pickR1]
end DV
namespace DV
open PySem PySem.Spec PyProof.Rows L2
end DV
namespace DV
open PySem PySem.Spec PyProof.Rows L2
noncomputable def m__law_refusal_x (f_read : Fm) : SM :=
  seqM (setM 1 (argM lstF (nilA))) (seqM (tryM (some 2) [("FormError", true), ("NoPlace", true), ("BadText", true), ("TooLong", true), ("BadPaper", true), ("BadName", true), ("Twice", true), ("NoForm", true)] (exprM (callM f_read (consA (vM 0) nilA))) (seqM (setM 1 (argM lstF (consA (unM (isXF [("FormError", false), ("NoPlace", false), ("BadText", true), ("TooLong", false), ("BadPaper", false), ("BadName", false), ("Twice", false), ("NoForm", false)]) (vM 2)) (consA (unM (isXF [("FormError", false), ("NoPlace", false), ("BadText", false), ("TooLong", true), ("BadPaper", false), ("BadName", false), ("Twice", false), ("NoForm", false)]) (vM 2)) (consA (unM (isXF [("FormError", true), ("NoPlace", true), ("BadText", true), ("TooLong", true), ("BadPaper", true), ("BadName", true), ("Twice", true), ("NoForm", true)]) (vM 2)) nilA))))) (seqM (setM 1 (binM addF (vM 1) (argM lstF (consA (orV (unM (isXF [("FormError", false), ("NoPlace", true), ("BadText", false), ("TooLong", false), ("BadPaper", false), ("BadName", false), ("Twice", false), ("NoForm", false)]) (vM 2)) (orV (unM (isXF [("FormError", false), ("NoPlace", false), ("BadText", false), ("TooLong", false), ("BadPaper", true), ("BadName", false), ("Twice", false), ("NoForm", false)]) (vM 2)) (unM (isXF [("FormError", false), ("NoPlace", false), ("BadText", false), ("TooLong", false), ("BadPaper", false), ("BadName", true), ("Twice", false), ("NoForm", false)]) (vM 2)))) nilA)))) (setM 1 (binM addF (vM 1) (argM lstF (consA (orV (unM (isXF [("FormError", false), ("NoPlace", false), ("BadText", false), ("TooLong", false), ("BadPaper", false), ("BadName", false), ("Twice", true), ("NoForm", false)]) (vM 2)) (unM (isXF [("FormError", false), ("NoPlace", false), ("BadText", false), ("TooLong", false), ("BadPaper", false), ("BadName", false), ("Twice", false), ("NoForm", true)]) (vM 2))) nilA))))))) (retM (vM 1)))
noncomputable def F__law_refusal_x : Nat → Fm
  | 0 => fun _ _ => .bad
  | n + 1 => kNew.f (runM 1 3 (m__law_refusal_x (F_read n)))
theorem S__law_refusal_x (n : Nat) : F__law_refusal_x (n + 1) = kNew.f (runM 1 3 (m__law_refusal_x (F_read n))) := rfl
noncomputable def m_law_k11x (f__law_is_tree f__law_text f_read f__law_refusal f__law_scan f__law_spoiled f__law_draw f__law_cell_at f__law_odd_leaf f__law_names f__law_great f__law_tree : Fm) : SM :=
  seqM (setM 1 (callM f__law_cell_at (consA (vM 0) (consA (cM (.int 0)) nilA)))) (seqM (setM 2 (callM f__law_tree (consA (slM (vM 0) (someP (cM (.int 1))) (noP)) (consA (vM 1) (consA (callM f__law_draw (consA (vM 1) (consA (cM (.int 50)) (consA (cM (.int 4)) nilA)))) nilA))))) (seqM (ifM (tbM (binM eqF (callM f__law_draw (consA (vM 1) (consA (cM (.int 51)) (consA (cM (.int 3)) nilA)))) (cM (.int 1)))) (setM 2 (callM f__law_great (consA (vM 1) (consA (callM f__law_names (consA (vM 1) nilA)) (consA (binM addF (cM (.int 1)) (callM f__law_draw (consA (vM 1) (consA (cM (.int 52)) (consA (cM (.int 33)) nilA))))) (consA (binM addF (cM (.int 197)) (callM f__law_draw (consA (vM 1) (consA (cM (.int 53)) (consA (cM (.int 8)) nilA))))) nilA)))))) (passM)) (seqM (setM 3 (callM f__law_text (consA (vM 2) nilA))) (seqM (ifM (tbM (binM eqF (callM f__law_draw (consA (vM 1) (consA (cM (.int 47)) (consA (cM (.int 3)) nilA)))) (cM (.int 1)))) (setM 3 (callM f__law_odd_leaf (consA (vM 3) (consA (callM f__law_cell_at (consA (vM 0) (consA (cM (.int 1)) nilA))) nilA)))) (passM)) (seqM (setM 3 (callM f__law_spoiled (consA (vM 3) (consA (slM (vM 0) (someP (cM (.int 1))) (noP)) (consA (vM 1) nilA))))) (seqM (setM 4 (callM f__law_scan (consA (vM 3) nilA))) (seqM (setM 5 (callM f__law_refusal (consA (vM 3) nilA))) (seqM (ifM (tbM (binM neF (vM 4) (cM (.str "")))) (retM (binM eqF (vM 5) (argM lstF (consA (binM eqF (vM 4) (cM (.str "BadText"))) (consA (binM eqF (vM 4) (cM (.str "TooLong"))) (consA (cM (.bl true)) (consA (cM (.bl false)) (consA (cM (.bl false)) nilA)))))))) (passM)) (seqM (ifM (tbM (binM neF (vM 5) (argM lstF (nilA)))) (retM (cM (.bl false))) (passM)) (seqM (setM 6 (callM f_read (consA (vM 3) nilA))) (retM (andV (callM f__law_is_tree (consA (vM 6) nilA)) (binM eqF (callM f__law_text (consA (vM 6) nilA)) (vM 3))))))))))))))
noncomputable def F_law_k11x : Nat → Fm
  | 0 => fun _ _ => .bad
  | n + 1 => kPure.f (runM 1 7 (m_law_k11x (F__law_is_tree n) (F__law_text n) (F_read n) (F__law_refusal_x n) (F__law_scan n) (F__law_spoiled n) (F__law_draw n) (F__law_cell_at n) (F__law_odd_leaf n) (F__law_names n) (F__law_great n) (F__law_tree n)))
theorem S_law_k11x (n : Nat) : F_law_k11x (n + 1) = kPure.f (runM 1 7 (m_law_k11x (F__law_is_tree n) (F__law_text n) (F_read n) (F__law_refusal_x n) (F__law_scan n) (F__law_spoiled n) (F__law_draw n) (F__law_cell_at n) (F__law_odd_leaf n) (F__law_names n) (F__law_great n) (F__law_tree n))) := rfl
end DV
namespace DV
open PySem PySem.Spec PyProof.Rows L2
theorem rdT_err : ∀ (L : Nat) (r : List Nat) (b : Nat) (c : Str), rdT L r b = .err c → c = "BadText" ∨ c = "TooLong"
  | 0, r, b, c, h => by
    rw [rdT] at h
    split at h
    · cases h; exact .inl rfl
    · cases h; exact .inr rfl
  | L + 1, r, b, c, h => by
    have ih := rdT_err L
    have hM : ∀ (m : Nat) (r : List Nat) (b : Nat) (acc : List Tr) (c : Str), rdM (rdT L) m r b acc = .err c → c = "BadText" ∨ c = "TooLong" := by
      intro m
      induction m with
      | zero =>
        intro r b acc c h
        rw [rdM_m] at h
        split at h
        · cases h; exact .inl rfl
        · split at h
          · cases h
          · cases h; exact .inl rfl
      | succ m im =>
        intro r b acc c h
        rw [rdM_m] at h
        split at h
        · simp only at h
          cases e : rdT L r.tail b with
          | ok t r' b' => rw [e] at h; exact im _ _ _ _ h
          | err c' => rw [e] at h; cases h; exact ih _ _ _ e
        · split at h
          · cases h
          · cases h; exact .inl rfl
    rw [rdT] at h
    split at h
    · cases h; exact .inl rfl
    · split at h
      · cases h; exact .inr rfl
      · split at h
        · cases e : numL 0 r.tail with
          | none => rw [e] at h; cases h; exact .inl rfl
          | some p => rw [e] at h; cases h
        · cases e : rdName r with
          | none => rw [e] at h; cases h; exact .inl rfl
          | some p =>
            obtain ⟨w, r'⟩ := p
            rw [e] at h
            simp only at h
            split at h
            · unfold rdP at h
              cases e2 : rdT L r'.tail (b + 1) with
              | err c' => rw [e2] at h; cases h; exact ih _ _ _ e2
              | ok t r2 b2 =>
                rw [e2] at h
                simp only at h
                cases e3 : rdM (rdT L) 8 r2 b2 [t] with
                | ok ps r3 b3 => rw [e3] at h; cases h
                | err c' => rw [e3] at h; cases h; exact hM _ _ _ _ _ e3
            · cases h
theorem rdAll_err {s : List Nat} {c : Str} (h : rdAll s = .err c) : c = "BadText" ∨ c = "TooLong" := by
  unfold rdAll at h
  cases e : rdT 30 s 0 with
  | err c' => rw [e] at h; cases h; exact rdT_err _ _ _ _ e
  | ok t r b =>
    rw [e] at h
    cases r with
    | nil => cases h
    | cons x r => cases h; exact .inl rfl
theorem rdAll_ok {s r : List Nat} {t : Tr} {b : Nat} (h : rdAll s = .ok t r b) : r = [] := by
  unfold rdAll at h
  cases e : rdT 30 s 0 with
  | err c' => rw [e] at h; cases h
  | ok t r b =>
    rw [e] at h
    cases r with
    | nil => cases h; rfl
    | cons x r => cases h
theorem is_tt {xs : List D} {h : Hs} : isF "tuple" (.tup xs) h = some (.bl true, h) := rfl
theorem is_ii {i : Int} {h : Hs} : isF "int" (.int i) h = some (.bl true, h) := rfl
theorem is_bi {i : Int} {h : Hs} : isF "bool" (.int i) h = some (.bl false, h) := rfl
theorem is_ss {s : Str} {h : Hs} : isF "str" (.str s) h = some (.bl true, h) := rfl
theorem knots_memL {u : Tr} : ∀ {ps : List Tr}, u ∈ ps → u.knots ≤ knotsL ps
  | t :: ts, h => by
    rw [knotsL]
    rcases List.mem_cons.mp h with rfl | h
    · omega
    · have := knots_memL h; omega
theorem nbk {h : Hs} : neF (.str "block") (.str "block") h = some (.bl false, h) := by rw [ne_strs ok_block ok_block, decide_eq_true rfl]; rfl
theorem depth_bk {s : Str} {ps : List Tr} : (Tr.bk s ps).depth = 1 + depthL ps := rfl
theorem is_tree_ok : ∀ (n : Nat) (h : Hs) (t : Tr), t.good → t.depth ≤ n → t.knots ≤ 100000 → F__law_is_tree n [tD t] h = .ok (.bl true) h
  | 0, h, t, g, hd, _ => by
    have := depth_parts t
    omega
  | n + 1, h, .bl k, g, hd, _ => by
    rw [S__law_is_tree]
    refine R.wp_eq.mp ?_
    simp only [wp_pure, wp_run, m__law_is_tree, startD]
    refine ⟨rfl, ?_⟩
    simp [wp_v, tD, is_tt, is_ii, is_bi, noloc, truD]
  | n + 1, h, .bk s ps, g, hd, hk => by
    rw [S__law_is_tree]
    refine R.wp_eq.mp ?_
    simp only [wp_pure, wp_run, m__law_is_tree, startD]
    refine ⟨rfl, ?_⟩
    have pk := g.2.1
    have kk := knots_parts (.bk s ps)
    simp only [Tr.parts] at kk
    have lc := fun (ds : Sl) (h1 : 1 < ds.length) => lc_loop (h0 := h) (gd := fun _ => True) (T := nameG 1) (C := notM (truM (callM (F__law_is_tree n) (consA (vM 1) nilA)))) (A := vM 1) (ds := ds)
      (tDs ps) (ps.map fun _ => none) (by simp) [] (by simp; omega) (fun _ => trivial) (fun k d o acc e3 e4 => by
        obtain ⟨u, eu, rfl⟩ := tDs_get e3
        rw [List.getElem?_map, eu] at e4
        cases e4
        have um : u ∈ ps := List.mem_of_getElem? eu
        have ih := is_tree_ok n (h ++ [.lst acc]) u (goodL_iff.mp g.2.2 u um) (by have := depth_mem um; rw [depth_bk] at hd; omega) (by have := knots_memL um; omega)
        unfold LcTurn
        simp [wp_v, h1, ih, truD])
    have fm : (ps.map fun _ => (none : Option D)).filterMap id = [] := by
      rw [List.filterMap_map]; simp
    rw [fm] at lc
    have ee := eq_empty (h := h ++ [AO.lst []]) (l := h.length) (xs := []) (by simp)
    simp at ee
    simp [wp_v, tD, is_tt, is_ss, nbk, noloc, truD]
    rw [lc _ (by simp)]
    simp [ee, noloc]
end DV
namespace DV
open PySem PySem.Spec PyProof.Rows L2
def refL (c : Str) : List Bool := [decide (c = "BadText"), decide (c = "TooLong"), true, false, false]
def refW (r : RR Tr) : List Bool := match r with
  | .ok _ _ _ => []
  | .err c => refL c
theorem refusal_ok (n : Nat) (h : Hs) (s : Str) (T : TxOk s) (hn : 70 ≤ n) : F__law_refusal_x (n + 1) [.str s] h = .ok (.loc h.length) (h ++ [.lst ((refW (rdAll s.cps.toList)).map D.bl)]) := by
  rw [S__law_refusal_x]
  refine R.wp_eq.mp ?_
  refine wp_new ?_
  rw [wp_run]
  refine ⟨rfl, ?_⟩
  unfold m__law_refusal_x
  simp only [startD, List.map_cons, List.map_nil, List.length_cons, List.length_nil]
  refine st_set (.loc h.length) (h ++ [.lst []]) (by simp [wp_v]) ?_
  simp only [List.set_cons_succ, List.set_cons_zero, List.replicate, List.cons_append, List.nil_append]
  have rd := read_ok n (h ++ [.lst []]) s T hn
  cases e : rdAll s.cps.toList with
  | ok t r b =>
    obtain rfl := rdAll_ok e
    have re : F_read n [.str s] (h ++ [.lst []]) = .ok (tD t) (h ++ [.lst []]) := by
      rw [e] at rd
      refine R.wp_eq.mp (R.wp_mono rd ?_ ?_)
      · rintro d h' ⟨t', b', e', rfl, rfl⟩
        cases e'
        exact ⟨rfl, rfl⟩
      · rintro c h' ⟨e', _⟩
        cases e'
    refine st_seq [some (.str s), some (.loc h.length), none] (h ++ [.lst []]) ?_ ?_
    · rw [ws_try]
      simp [wp_v, exprM, callM, consA, nilA, vM, lift, re]
      exact ⟨rfl, rfl⟩
    · simp [wp_v, refW]
      rfl
  | err c =>
    have re : F_read n [.str s] (h ++ [.lst []]) = .exc c (h ++ [.lst []]) := by
      rw [e] at rd
      cases q : F_read n [.str s] (h ++ [.lst []]) with
      | ok d h' =>
        rw [q] at rd
        obtain ⟨t', b', e', _⟩ := rd
        cases e'
      | exc c' h' =>
        rw [q] at rd
        obtain ⟨e', rfl⟩ := rd
        cases e'
        rfl
      | bad => rw [q] at rd; exact rd.elim
    rcases rdAll_err e with rfl | rfl
    · simp [wp_v, ws_try, exprM, callM, consA, nilA, vM, lift, re]
      refine ws_suite _ _ ?_
      simp [wp_v, nameM, dropS, addF]
      exact ⟨by omega, rfl, by simp [refW, refL]⟩
    · simp [wp_v, ws_try, exprM, callM, consA, nilA, vM, lift, re]
      refine ws_suite _ _ ?_
      simp [wp_v, nameM, dropS, addF]
      exact ⟨by omega, rfl, by simp [refW, refL]⟩
theorem strOk_tx {s : Str} (T : TxOk s) : PyData.strOk s = true := by
  unfold PyData.strOk
  rw [Array.all_eq_true]
  intro i hi
  exact decide_eq_true (T.sg _ (by simp))
theorem ev_bb {h : Hs} : eqF (.str "BadText") (.str "BadText") h = some (.bl true, h) := by rw [eq_strs sok_bad sok_bad, decide_eq_true rfl]
theorem ev_bl {h : Hs} : eqF (.str "BadText") (.str "TooLong") h = some (.bl false, h) := by rw [eq_strs sok_bad sok_long, decide_eq_false (by decide +kernel)]
theorem ev_lb {h : Hs} : eqF (.str "TooLong") (.str "BadText") h = some (.bl false, h) := by rw [eq_strs sok_long sok_bad, decide_eq_false (by decide +kernel)]
theorem ev_ll {h : Hs} : eqF (.str "TooLong") (.str "TooLong") h = some (.bl true, h) := by rw [eq_strs sok_long sok_long, decide_eq_true rfl]
end DV
namespace DV
open PySem PySem.Spec PyProof.Rows L2
end DV
namespace DV
open PySem PySem.Spec PyProof.Rows L2
structure SgOk (N : Nat) (s : Str) : Prop where
  len : s.length ≤ N
  sg : ∀ c ∈ s.cps.toList, c < 0x110000
theorem SgOk.tx {N : Nat} {s : Str} (h : SgOk N s) (hN : N ≤ 50000) : TxOk s := ⟨by have := h.len; omega, h.sg⟩
theorem SgOk.mono {N M : Nat} {s : Str} (h : SgOk N s) (hN : N ≤ M) : SgOk M s := ⟨by have := h.len; omega, h.sg⟩
theorem SgOk.app {N M : Nat} {a b : Str} (h : SgOk N a) (k : SgOk M b) : SgOk (N + M) (a ++ b) := ⟨by rw [app_len]; have := h.len; have := k.len; omega, fun c hc => by
  rw [app_list] at hc
  rcases List.mem_append.mp hc with hc | hc
  · exact h.sg c hc
  · exact k.sg c hc⟩
theorem cut_list (s : Str) (lo hi : Option Int) : (cutS s lo hi).cps.toList = cutL s.cps.toList lo hi := by
  unfold cutL
  simp [cutS]
  rfl
theorem SgOk.cut {N : Nat} {s : Str} (h : SgOk N s) (lo hi : Option Int) : SgOk N (cutS s lo hi) := by
  have sl := str_len s
  refine ⟨?_, fun c hc => ?_⟩
  · rw [str_len, cut_list]
    unfold cutL
    have := h.len
    rw [List.length_take, List.length_drop]
    omega
  · rw [cut_list] at hc
    unfold cutL at hc
    exact h.sg c (List.mem_of_mem_drop (List.mem_of_mem_take hc))
theorem sgOk1 {c : Nat} (h : c < 0x110000) : SgOk 1 (s1 c) := ⟨Nat.le_refl _, fun d hd => by
  have : d = c := by simpa [s1] using hd
  rw [this]; exact h⟩
theorem sl_str {h : Hs} {s : Str} {lo hi : Option Int} (z : s.length ≤ 16777216) : slF (.str s) lo hi h = some (.str (cutS s lo hi), h) := by
  unfold slF
  simp only [hL, if_pos z]
end DV
namespace DV
open PySem PySem.Spec PyProof.Rows L2
theorem digN_len2 (n : Nat) (h : n ≤ 2000000000) : (digN n).length ≤ 11 := by
  rw [digN_eq]
  split
  · simp
  · rw [List.length_append]
    have := digN_len (n / 10) (by omega)
    simp; omega
theorem str_sg {k : Int} (h1 : 0 ≤ k) (h2 : k ≤ 2000000000) : ∃ s, (∀ h, strT [.int k] h = some (.str s, h)) ∧ SgOk 11 s := by
  obtain ⟨m, rfl⟩ := Int.eq_ofNat_of_zero_le h1
  have e : ((toString ((m : Nat) : Int) : String) : Str) = mkS (digN m) := str_ext (by rw [mkS_list]; exact str_num m)
  have lg : m.log2 < 1920 := by
    have h3 : m < 2 ^ 1920 := by
      have : (2000000000 : Nat) < 2 ^ 1920 := by decide +kernel
      have : m ≤ 2000000000 := by omega
      omega
    by_cases c : m = 0
    · subst c; decide
    · exact (Nat.log2_lt c).mpr h3
  refine ⟨mkS (digN m), fun h => ?_, by rw [mkS_len]; exact digN_len2 m (by omega), fun c hc => by rw [mkS_list] at hc; have := digN_sg m c hc; omega⟩
  show (if ((m : Nat) : Int).natAbs.log2 < 1920 then some (D.str ((toString ((m : Nat) : Int) : String) : Str), h) else none) = _
  have : ((m : Nat) : Int).natAbs = m := rfl
  rw [if_pos (by rw [this]; exact lg), e]
theorem lit_sg {s : Str} {N : Nat} (h : (decide (s.length ≤ N) && s.cps.toList.all (fun c => decide (c < 0x110000))) = true) : SgOk N s := by
  rw [Bool.and_eq_true, decide_eq_true_eq] at h
  exact ⟨h.1, fun c hc => of_decide_eq_true (List.all_eq_true.mp h.2 c hc)⟩
theorem rep_list (s : Str) (k : Nat) : (repS s k).cps.toList = (List.replicate k s.cps.toList).flatten := rfl
theorem SgOk.rep {N : Nat} {s : Str} (h : SgOk N s) (k : Nat) : SgOk (k * N) (repS s k) := by
  refine ⟨?_, fun c hc => ?_⟩
  · rw [str_len, rep_list]
    have := h.len
    rw [str_len] at this
    rw [List.length_flatten, List.map_replicate, List.sum_replicate_nat]
    exact Nat.mul_le_mul_left _ this
  · rw [rep_list] at hc
    obtain ⟨l, hl, hc⟩ := List.mem_flatten.mp hc
    rw [(List.mem_replicate.mp hl).2] at hc
    exact h.sg c hc
theorem mulS {h : Hs} {a : Str} {j : Int} (h1 : -1000000 ≤ j) (h2 : j ≤ 1000000) (h3 : a.length ≤ 10) : mulXF (.str a) (.int j) h = some (.str (repS a j.toNat), h) := by
  rw [mulX_str, if_pos]
  refine cB_of ⟨h1, h2, by omega, ?_⟩
  have : a.length * j.toNat ≤ 10 * 1000000 := Nat.mul_le_mul h3 (by omega)
  show _ ≤ 16777216
  omega
theorem addS {h : Hs} {a b : Str} {N M : Nat} (ga : SgOk N a) (gb : SgOk M b) (z : N + M ≤ 16777216) : addF (.str a) (.str b) h = some (.str (a ++ b), h) := by
  have := ga.len
  have := gb.len
  show (if a.length + b.length ≤ 16777216 then some (D.str (a ++ b), h) else none) = _
  rw [if_pos (by omega)]
theorem ix_some {h : Hs} {l : Nat} {ss : List Str} {k : Int} (e : h[l]? = some (.lst (ss.map D.str))) (h0 : 0 ≤ k) (h1 : k < ss.length) : ∃ s, ixF (.loc l) (.int k) h = some (.str s, h) ∧ s ∈ ss := by
  obtain ⟨n, rfl⟩ := Int.eq_ofNat_of_zero_le h0
  have hn : n < ss.length := by omega
  refine ⟨ss[n], ?_, List.getElem_mem _⟩
  rw [ix_lst e, atI_nat (by rw [List.length_map]; exact hn), List.getElem?_map, List.getElem?_eq_getElem hn]
  rfl
theorem ix_int {h : Hs} {l : Nat} {ss : List Int} {k : Int} (e : h[l]? = some (.lst (ss.map D.int))) (h0 : 0 ≤ k) (h1 : k < ss.length) : ∃ s, ixF (.loc l) (.int k) h = some (.int s, h) ∧ s ∈ ss := by
  obtain ⟨n, rfl⟩ := Int.eq_ofNat_of_zero_le h0
  have hn : n < ss.length := by omega
  refine ⟨ss[n], ?_, List.getElem_mem _⟩
  rw [ix_lst e, atI_nat (by rw [List.length_map]; exact hn), List.getElem?_map, List.getElem?_eq_getElem hn]
  rfl
theorem cut_sum (s : Str) (a : Int) : (cutS s none (some a)).length + (cutS s (some a) none).length ≤ s.length := by
  have sl := str_len s
  rw [str_len, str_len, cut_list, cut_list, sl]
  unfold cutL
  have e1 : HT.sIx s.cps.toList.length 0 none = 0 := rfl
  have e2 : HT.sIx s.cps.toList.length s.cps.toList.length none = s.cps.toList.length := rfl
  rw [e1, e2]
  simp only [List.length_take, List.length_drop]
  have : HT.sIx s.cps.toList.length 0 (some a) = HT.sIx s.cps.toList.length s.cps.toList.length (some a) := rfl
  omega
def OddQ (d : D) : Prop := ∃ s, d = .str s ∧ SgOk 3000 s
theorem odd_ok (n : Nat) (h : Hs) (s : Str) (cell : Int) (g : SgOk 2860 s) : (F__law_odd_leaf (n + 2) [.str s, .int cell] h).wp (fun d h' => h' = h ∧ OddQ d) xF := by
  have dr : ∀ (k many : Int) (h : Hs), 0 < many → -1000000 ≤ k ∧ k ≤ 1000000 → F__law_draw (n + 1) [.int cell, .int k, .int many] h = .ok (.int (drawI cell k many)) h := fun k many h a b => draw_ok n h cell k many a b
  rw [show F__law_odd_leaf (n + 2) = _ from S__law_odd_leaf (n + 1)]
  rw [wp_pure, wp_run]
  refine ⟨rfl, ?_⟩
  unfold m__law_odd_leaf
  simp only [startD, List.map_cons, List.map_nil, List.length_cons, List.length_nil]
  have w6 : cPow 10 6 = true := cPow_of (by decide) (by decide) (by decide)
  have w9 : cPow 10 9 = true := cPow_of (by decide) (by decide) (by decide)
  have d43 := fun h => dr 43 1000000 h (by decide) (by decide)
  obtain ⟨x0, x1⟩ := drawI_lt cell 43 (by decide : (0 : Int) < 1000000)
  generalize drawI cell 43 1000000 = x at d43 x0 x1
  refine st_set (.int x) h (by simp [wp_v, w6, d43]) ?_
  simp only [List.set_cons_succ, List.set_cons_zero, List.replicate, List.cons_append, List.nil_append]
  have d46 := fun h => dr 46 8 h (by decide) (by decide)
  have gbb : SgOk 1 "b" := lit_sg (by decide +kernel)
  have gq : SgOk 1 "?" := lit_sg (by decide +kernel)
  have gq0 : SgOk 2 "?0" := lit_sg (by decide +kernel)
  have ga : SgOk 1 "a" := lit_sg (by decide +kernel)
  have gcm : SgOk 1 "," := lit_sg (by decide +kernel)
  rw [ws_seq, ws_if]
  by_cases c1 : drawI cell 46 8 = 1
  · have m6 : ∀ i, cMod i 600 = true := fun _ => cMod_of (by decide)
    have m2 : ∀ i, cMod i 2 = true := fun _ => cMod_of (by decide)
    have f6 : ∀ i, cDiv i 600 = true := fun _ => cDiv_of (by decide) (by decide)
    have b1 := Int.emod_nonneg x (b := 600) (by decide)
    have b2 := Int.emod_lt_of_pos x (b := 600) (by decide)
    have b3 := Int.emod_nonneg (x / 600) (b := 2) (by decide)
    have b4 := Int.emod_lt_of_pos (x / 600) (b := 2) (by decide)
    generalize hdp : (29 + x % 600) = dp
    have r1 := fun h => mulS (h := h) (a := "a(") (j := dp) (by omega) (by omega) (by decide +kernel)
    have r2 := fun h => mulS (h := h) (a := ")") (j := dp - x / 600 % 2) (by omega) (by omega) (by decide +kernel)
    have g1 : SgOk 1256 (repS "a(" dp.toNat) := ((lit_sg (by decide +kernel) : SgOk 2 "a(").rep dp.toNat).mono (by omega)
    have g2 : SgOk 628 (repS ")" (dp - x / 600 % 2).toNat) := ((lit_sg (by decide +kernel) : SgOk 1 ")").rep (dp - x / 600 % 2).toNat).mono (by omega)
    generalize repS "a(" dp.toNat = A1 at r1 g1
    generalize repS ")" (dp - x / 600 % 2).toNat = A2 at r2 g2
    have a1 := fun h => addS (h := h) g1 gbb (by decide)
    have a2 := fun h => addS (h := h) (g1.app gbb) g2 (by decide)
    have fin : OddQ (.str (A1 ++ "b" ++ A2)) := ⟨_, rfl, ((g1.app gbb).app g2).mono (by decide)⟩
    simp [-mulX_str, -add_strs, wp_v, d46, c1, m6, m2, f6, hdp, r1, r2, a1, a2, noloc, fin]
  · have tst : (tbM (binM eqF (callM (F__law_draw (n + 1)) (consA (vM 1) (consA (cM (.int 46)) (consA (cM (.int 8)) nilA)))) (cM (.int 1))) [some (.str s), some (.int cell), some (.int x), none, none, none, none, none] h).wp (fun b h' => b = false ∧ h' = h) xF := by
      simp [wp_v, d46, c1]
    rw [R.wp_eq.mp tst]
    simp only [wp_ok, Bool.false_eq_true, if_false, ws_pass]
    have m2 : ∀ i, cMod i 2 = true := fun _ => cMod_of (by decide)
    obtain ⟨S1, t1, u1⟩ := str_sg (k := x) (by omega) (by omega)
    obtain ⟨S2, t2, u2⟩ := str_sg (k := 1000000001 + x) (by omega) (by omega)
    obtain ⟨S3, t3, u3⟩ := str_sg (k := 1000000000 - x) (by omega) (by omega)
    have b3 := Int.emod_nonneg x (b := 2) (by decide)
    have b4 := Int.emod_lt_of_pos x (b := 2) (by decide)
    obtain ⟨B, ib, ub⟩ : ∃ B, (∀ h, ixF (.str "b7") (.int (x % 2)) h = some (.str B, h)) ∧ SgOk 1 B := by
      have : x % 2 = 0 ∨ x % 2 = 1 := by omega
      rcases this with q | q
      · rw [q]; exact ⟨"b", fun h => rfl, lit_sg (by decide +kernel)⟩
      · rw [q]; exact ⟨"7", fun h => rfl, lit_sg (by decide +kernel)⟩
    have r12 := fun h => mulS (h := h) (a := "a") (j := 12) (by decide) (by decide) (by decide +kernel)
    have r11 := fun h => mulS (h := h) (a := "a") (j := 11) (by decide) (by decide) (by decide +kernel)
    have u12 : SgOk 12 (repS "a" (12 : Int).toNat) := ga.rep 12
    have u11 : SgOk 11 (repS "a" (11 : Int).toNat) := ga.rep 11
    generalize repS "a" (12 : Int).toNat = A12 at r12 u12
    generalize repS "a" (11 : Int).toNat = A11 at r11 u11
    have a1 := fun h => addS (h := h) gq0 u1 (by decide)
    have a2 := fun h => addS (h := h) gq u2 (by decide)
    have a3 := fun h => addS (h := h) gq u3 (by decide)
    have a4 := fun h => addS (h := h) u12 ub (by decide)
    have a5 := fun h => addS (h := h) u11 ub (by decide)
    obtain ⟨F4, hF4⟩ : ∃ F4 : List Str, F4 = ["?0" ++ S1, "?" ++ S2, "?" ++ S3, A12 ++ B] := ⟨_, rfl⟩
    have gF4 : ∀ f ∈ F4, SgOk 30 f := by
      rw [hF4]
      intro f hf
      simp only [List.mem_cons, List.not_mem_nil, or_false] at hf
      rcases hf with rfl | rfl | rfl | rfl
      · exact (gq0.app u1).mono (by decide)
      · exact (gq.app u2).mono (by decide)
      · exact (gq.app u3).mono (by decide)
      · exact (u12.app ub).mono (by decide)
    have l4 : F4.length = 4 := by rw [hF4]; rfl
    refine st_set (.loc h.length) (h ++ [.lst (F4.map D.str)]) ?_ ?_
    · simp [-mulX_str, -add_strs, -ix_str', wp_v, t1, t2, t3, w9, a1, a2, a3, a4, r12, ib, m2, hF4]
    simp only [List.set_cons_succ, List.set_cons_zero]
    obtain ⟨F8, hF8⟩ : ∃ F8 : List Str, F8 = [A11 ++ B, "b,b,b,b,b,b,b,b,b", "a()", "?", "b(c", "?1(b)", "b(c,)", "7"] := ⟨_, rfl⟩
    have gF8 : ∀ f ∈ F8, SgOk 30 f := by
      rw [hF8]
      intro f hf
      simp only [List.mem_cons, List.not_mem_nil, or_false] at hf
      rcases hf with rfl | rfl | rfl | rfl | rfl | rfl | rfl | rfl
      · exact (u11.app ub).mono (by decide)
      all_goals exact lit_sg (by decide +kernel)
    have l8 : F8.length = 8 := by rw [hF8]; rfl
    have al := add_lsts (h := h ++ [AO.lst (F4.map D.str), AO.lst (F8.map D.str)]) (i := h.length) (j := h.length + 1) (xs := F4.map D.str) (ys := F8.map D.str) (by simp) (by simp) (by simp; omega)
    rw [← List.map_append] at al
    obtain ⟨F, hF⟩ : ∃ F, F = F4 ++ F8 := ⟨_, rfl⟩
    rw [← hF] at al
    have gF : ∀ f ∈ F, SgOk 30 f := by
      rw [hF]
      intro f hf
      rcases List.mem_append.mp hf with hf | hf
      · exact gF4 f hf
      · exact gF8 f hf
    have lF : F.length = 12 := by rw [hF, List.length_append, l4, l8]
    refine st_set (.loc (h.length + 2)) (h ++ [.lst (F4.map D.str), .lst (F8.map D.str), .lst (F.map D.str)]) ?_ ?_
    · simp at al
      rw [hF8] at al ⊢
      simp at al
      simp [-mulX_str, -add_strs, -ix_str', wp_v, a5, r11, ib, m2, al]
    simp only [List.set_cons_succ, List.set_cons_zero]
    clear al
    obtain ⟨H, hH⟩ : ∃ H : Hs, H = h ++ [.lst (F4.map D.str), .lst (F8.map D.str), .lst (F.map D.str)] := ⟨_, rfl⟩
    have H2 : ∀ q : Hs, (H ++ q)[h.length + 2]? = some (.lst (F.map D.str)) := fun q => by rw [hH]; simp
    have Ht : ∀ q : Hs, (H ++ q).take h.length = h := fun q => by rw [hH, List.append_assoc, List.take_left]
    rw [← hH]
    have sl := str_len s
    have sz : s.length ≤ 2860 := g.len
    have sz2 : s.length ≤ 16777216 := by omega
    obtain ⟨p, hp⟩ : ∃ p : Nat → Bool, p = fun k => decide (s.cps.toList.getD k 0 ∈ ("(," : Str).cps.toList) := ⟨_, rfl⟩
    have lc := lc_loop (h0 := H ++ [.lst [.int 0]]) (gd := fun _ => True) (T := nameG 6) (C := tbM (binM inF (binM ixF (vM 0) (vM 6)) (cM (.str "(,")))) (A := binM addF (vM 6) (cM (.int 1))) (ds := [some (.str s), some (.int cell), some (.int x), none, some (.loc (h.length + 2)), none, none, none])
      ((List.range s.length).map fun i : Nat => D.int i) ((List.range s.length).map fun k => if p k then some (.int ((k : Int) + 1)) else none) (by simp) [] (by simp; omega) (fun _ => trivial) (fun k d o acc e3 e4 => by
        have kl : k < s.length := by
          have := (List.getElem?_eq_some_iff.mp e3).1
          rw [List.length_map, List.length_range] at this
          exact this
        rw [List.getElem?_map, List.getElem?_range kl] at e3 e4
        cases e3
        cases e4
        have ix : ∀ h, ixF (.str s) (.int k) h = some (.str ⟨#[s.cps.toList.getD k 0]⟩, h) := fun h => by
          rw [ix_str', if_pos sz2, atI_nat (by omega), List.getD_eq_getElem?_getD, List.getElem?_eq_getElem (by omega)]
          rfl
        have ii : ∀ h, inF (.str ⟨#[s.cps.toList.getD k 0]⟩) (.str "(,") h = some (.bl (p k), h) := fun h => by rw [hp]; rfl
        have pk : p k = decide (s.cps.toList.getD k 0 ∈ ("(," : Str).cps.toList) := by rw [hp]
        generalize s.cps.toList.getD k 0 = cc at ix ii pk
        unfold LcTurn
        cases q : p k with
        | true =>
          rw [q] at pk
          have mm : cc ∈ ("(," : Str).cps := Array.mem_toList_iff.mp (of_decide_eq_true pk.symm)
          simp [-ix_str', wp_v, ix, mm, q]
        | false =>
          rw [q] at pk
          have mm : ¬ cc ∈ ("(," : Str).cps := fun z => of_decide_eq_false pk.symm (Array.mem_toList_iff.mpr z)
          simp [-ix_str', wp_v, ix, mm, q])
    rw [filterMap_if, List.nil_append] at lc
    obtain ⟨Z, hZ⟩ : ∃ Z : List Int, Z = ((List.range s.length).filter p).map fun k : Nat => (k : Int) + 1 := ⟨_, rfl⟩
    have eZ : ((List.range s.length).filter p).map (fun q : Nat => D.int ((q : Int) + 1)) = Z.map D.int := by rw [hZ, List.map_map]; rfl
    have lZ : Z.length ≤ s.length := by
      rw [hZ, List.length_map]
      exact Nat.le_trans (List.length_filter_le _ _) (by rw [List.length_range]; omega)
    rw [eZ] at lc
    have al := add_lsts (h := H ++ [AO.lst [.int 0], AO.lst (Z.map D.int)]) (i := H.length) (j := H.length + 1) (xs := [.int 0]) (ys := Z.map D.int) (by simp) (by simp) (by simp; omega)
    rw [show [D.int 0] ++ Z.map D.int = (0 :: Z).map D.int from rfl] at al
    have ir : inR (s.length : Int) = true := inR_of (by omega) (by omega)
    refine st_set (.loc (H.length + 2)) (H ++ [.lst [.int 0], .lst (Z.map D.int), .lst ((0 :: Z).map D.int)]) ?_ ?_
    · simp at al lc
      simp [wp_v, sz2, ir, wipeD, lc, al]
    simp only [List.set_cons_succ, List.set_cons_zero]
    generalize hZZ : (0 :: Z) = ZZ
    have lZZ : ZZ.length = Z.length + 1 := by rw [← hZZ]; rfl
    obtain ⟨K, hK⟩ : ∃ K : Hs, K = H ++ [.lst [.int 0], .lst (Z.map D.int), .lst (ZZ.map D.int)] := ⟨_, rfl⟩
    have K1 : K[H.length + 2]? = some (.lst (ZZ.map D.int)) := by rw [hK]; simp
    have K2 : K[h.length + 2]? = some (.lst (F.map D.str)) := by rw [hK]; exact H2 _
    have Kt : K.take h.length = h := by rw [hK]; exact Ht _
    rw [← hK]
    have d44 := dr 44 (ZZ.length : Int) K (by omega) (by decide)
    obtain ⟨y0, y1⟩ := drawI_lt cell 44 (show (0 : Int) < (ZZ.length : Int) by omega)
    generalize drawI cell 44 (ZZ.length : Int) = y at d44 y0 y1
    obtain ⟨at_, iy, _⟩ := ix_int K1 y0 y1
    have le1 := len_lst K1
    rw [List.length_map] at le1
    refine st_set (.int at_) K (by simp [wp_v, le1, d44, iy]) ?_
    simp only [List.set_cons_succ, List.set_cons_zero]
    have d45 := dr 45 (F.length : Int) K (by omega) (by decide)
    obtain ⟨v0, v1⟩ := drawI_lt cell 45 (show (0 : Int) < (F.length : Int) by omega)
    generalize drawI cell 45 (F.length : Int) = v at d45 v0 v1
    obtain ⟨f, iv, hf⟩ := ix_some K2 v0 v1
    have le2 := len_lst K2
    rw [List.length_map] at le2
    have gf := gF f hf
    have sc : ∀ h lo hi, slF (.str s) lo hi h = some (.str (cutS s lo hi), h) := fun h lo hi => sl_str sz2
    have g1 := g.cut none (some at_)
    have g2 := g.cut (some at_) none
    have cl1 := cut_sum s at_
    have q1 := fun h => addS (h := h) g1 gf (by decide)
    have q2 := fun h => addS (h := h) (g1.app gf) gcm (by decide)
    have q3 := fun h => addS (h := h) ((g1.app gf).app gcm) g2 (by decide)
    have fin : OddQ (.str (cutS s none (some at_) ++ f ++ "," ++ cutS s (some at_) none)) := by
      refine ⟨_, rfl, ?_, (((g1.app gf).app gcm).app g2).sg⟩
      rw [app_len, app_len, app_len]
      have := gf.len
      have := gcm.len
      omega
    simp [-add_strs, wp_v, le2, d45, iv, sc, q1, q2, q3, noloc, Kt, fin]
end DV
namespace DV
open PySem PySem.Spec PyProof.Rows L2
def S53 : Str := "abz?0123456789(),(),,)) !\"#$&'*+-./:;<=>@AZ[\\]^_`{|}~"
theorem S53_sg : SgOk 60 S53 := lit_sg (by decide +kernel)
theorem S53_pos : 0 < S53.length := by decide +kernel
theorem ix53 {h : Hs} {k : Int} (h0 : 0 ≤ k) (h1 : k < S53.length) : ∃ c, ixF (.str S53) (.int k) h = some (.str (s1 c), h) ∧ c < 0x110000 := by
  obtain ⟨n, rfl⟩ := Int.eq_ofNat_of_zero_le h0
  have sl := str_len S53
  have hn : n < S53.cps.toList.length := by omega
  refine ⟨S53.cps.toList[n], ?_, S53_sg.sg _ (List.getElem_mem _)⟩
  rw [ix_str', if_pos (by have := S53_sg.len; show S53.length ≤ 16777216; omega), atI_nat hn, List.getElem?_eq_getElem hn]
  rfl
def SpQ (d : D) : Prop := ∃ s, d = .str s ∧ SgOk 30000 s
theorem spoiled_ok (n : Nat) (h : Hs) (s : Str) (l : Nat) (cells : List Int) (first : Int) (g : SgOk 3000 s) (e : h[l]? = some (.lst (cells.map D.int))) : (F__law_spoiled (n + 2) [.str s, .loc l, .int first] h).wp (fun d h' => h' = h ∧ SpQ d) xF := by
  have dr : ∀ (cell k many : Int) (h : Hs), 0 < many → -1000000 ≤ k ∧ k ≤ 1000000 → F__law_draw (n + 1) [.int cell, .int k, .int many] h = .ok (.int (drawI cell k many)) h := fun cell k many h a b => draw_ok n h cell k many a b
  rw [show F__law_spoiled (n + 2) = _ from S__law_spoiled (n + 1)]
  rw [wp_pure, wp_run]
  refine ⟨rfl, ?_⟩
  unfold m__law_spoiled
  simp only [startD, List.map_cons, List.map_nil, List.length_cons, List.length_nil]
  have d54 := dr first 54 4 h (by decide) (by decide)
  obtain ⟨r0, r1⟩ := drawI_lt first 54 (by decide : (0 : Int) < 4)
  generalize drawI first 54 4 = r at d54 r0 r1
  refine st_set (.int r) h (by simp [wp_v, d54]) ?_
  simp only [List.set_cons_succ, List.set_cons_zero, List.replicate, List.cons_append, List.nil_append]
  obtain ⟨C, hC⟩ : ∃ C, C = cutL (cells.map D.int) none (some r) := ⟨_, rfl⟩
  have Cl : C.length ≤ 3 := by
    obtain ⟨m, rfl⟩ := Int.eq_ofNat_of_zero_le r0
    rw [hC]
    unfold cutL
    have e1 : HT.sIx (cells.map D.int).length 0 none = 0 := rfl
    have e2 : HT.sIx (cells.map D.int).length (cells.map D.int).length (some (m : Int)) = min m (cells.map D.int).length := HT.sIx_nat _ _ m
    rw [e1, e2, List.length_take]
    omega
  have Cm : ∀ d ∈ C, ∃ c, d = .int c := fun d hd => by
    rw [hC] at hd
    unfold cutL at hd
    obtain ⟨c, _, rfl⟩ := List.mem_map.mp (List.mem_of_mem_drop (List.mem_of_mem_take hd))
    exact ⟨c, rfl⟩
  have sll : slF (.loc l) none (some r) h = some (.loc h.length, h ++ [.lst C]) := by rw [slF_lst e, ← hC]
  obtain ⟨H, hH⟩ : ∃ H : Hs, H = h ++ [.lst C] := ⟨_, rfl⟩
  have HC : H[h.length]? = some (.lst C) := by rw [hH]; simp
  rw [← hH] at sll
  obtain ⟨J, hJ⟩ : ∃ J : Nat → Sl → Hs → Prop, J = fun i ds h' => ∃ (t : Str) (x y z w v : Option D), SgOk (2 ^ i * 3001 - 1) t ∧ H = h' ∧ ds = [some (.str t), some (.loc l), some (.int first), some (.int r), x, y, z, w, v] := ⟨_, rfl⟩
  refine st_for C (fun h' => h'[h.length]? = some (.lst C)) H J ?_ (by rw [hJ]; exact ⟨s, none, none, none, none, none, g.mono (by decide), rfl, rfl⟩) ?_ ?_ ?_
  · simp [wp_v, sll, its_lst HC]
  · intro i ds h' hj
    rw [hJ] at hj
    obtain ⟨t, x, y, z, w, v, gt, rfl, rfl⟩ := hj
    exact HC
  · intro i d ds h' hi hj
    rw [hJ] at hj
    obtain ⟨t, x, y, z, w, v, gt, rfl, rfl⟩ := hj
    obtain ⟨c, rfl⟩ := Cm d (List.mem_of_getElem? hi)
    have il : i < 3 := by
      have := (List.getElem?_eq_some_iff.mp hi).1
      omega
    have pw : 2 ^ i ≤ 4 := by
      have : i = 0 ∨ i = 1 ∨ i = 2 := by omega
      rcases this with rfl | rfl | rfl <;> decide
    have pw2 : 2 ^ (i + 1) = 2 * 2 ^ i := by rw [Nat.pow_succ]; omega
    have pw1 : 1 ≤ 2 ^ i := Nat.one_le_two_pow
    generalize hP : 2 ^ i = P at pw pw1 pw2 gt
    have tl : t.length ≤ 20004 := by have := gt.len; omega
    have tz : t.length ≤ 16777216 := by omega
    have sz : S53.length ≤ 16777216 := by have := S53_sg.len; omega
    have d40 := dr c 40 (S53.length : Int) H (by have := S53_pos; omega) (by decide)
    obtain ⟨v0, v1⟩ := drawI_lt c 40 (show (0 : Int) < (S53.length : Int) by have := S53_pos; omega)
    obtain ⟨k, ik, kc⟩ := ix53 (h := H) v0 v1
    generalize drawI c 40 (S53.length : Int) = v' at d40 ik
    have d41 := dr c 41 ((t.length : Int) + 1) H (by omega) (by decide)
    generalize drawI c 41 ((t.length : Int) + 1) = at_ at d41
    have d42 := dr c 42 3 H (by decide) (by decide)
    generalize drawI c 42 3 = way at d42
    have sl : ∀ h lo hi, slF (.str t) lo hi h = some (.str (cutS t lo hi), h) := fun h lo hi => sl_str tz
    have gc := fun lo hi => gt.cut lo hi
    have gk := sgOk1 kc
    have q1 := fun h lo hi lo2 hi2 => addS (h := h) (gc lo hi) (gc lo2 hi2) (by omega)
    have q2 := fun h lo hi => addS (h := h) (gc lo hi) gk (by omega)
    have q3 := fun h lo hi lo2 hi2 => addS (h := h) ((gc lo hi).app gk) (gc lo2 hi2) (by omega)
    have fin : ∀ (u : Str) (x y z w v : Option D), SgOk (P * 3001 - 1 + 1 + (P * 3001 - 1)) u → J (i + 1) [some (.str u), some (.loc l), some (.int first), some (.int r), x, y, z, w, v] H := fun u x y z w v gu => by
      rw [hJ]
      exact ⟨u, x, y, z, w, v, gu.mono (by rw [pw2]; omega), rfl, rfl⟩
    simp only [ws_nameG, List.set_cons_succ, List.set_cons_zero]
    refine st_set (.str S53) H ⟨rfl, rfl⟩ ?_
    simp only [List.set_cons_succ, List.set_cons_zero]
    have lS : ∀ h, lenF [.str S53] h = some (.int (S53.length : Int), h) := fun h => if_pos (c := S53.length ≤ LIM) (e := none) sz
    refine st_set (.str (s1 k)) H (by simp [-ix_str', wp_v, sz, lS, d40, ik]) ?_
    simp only [List.set_cons_succ, List.set_cons_zero]
    refine st_set (.int at_) H (by simp [wp_v, tz, d41]) ?_
    simp only [List.set_cons_succ, List.set_cons_zero]
    refine st_set (.int way) H (by simp [wp_v, d42]) ?_
    simp only [List.set_cons_succ, List.set_cons_zero]
    by_cases w0 : way = 0
    · have f := fun x y z w v => fin _ x y z w v (((gc none (some at_)).app gk).app (gc (some at_) none))
      simp [-add_strs, wp_v, w0, sl, q2, q3, f]
    · by_cases w1 : way = 1
      · have f := fun x y z w v => fin _ x y z w v (((gc none (some at_)).app (gc (some (at_ + 1)) none)).mono (by omega))
        simp [-add_strs, wp_v, w0, w1, sl, q1, f]
      · have f := fun x y z w v => fin _ x y z w v (((gc none (some at_)).app gk).app (gc (some (at_ + 1)) none))
        simp [-add_strs, wp_v, w0, w1, sl, q2, q3, f]
  · intro ds h' hj
    rw [hJ] at hj
    obtain ⟨t, x, y, z, w, v, gt, rfl, rfl⟩ := hj
    have gf : SgOk 30000 t := gt.mono (by
      have : 2 ^ C.length ≤ 2 ^ 3 := Nat.pow_le_pow_right (by decide) Cl
      omega)
    have fin : SpQ (.str t) := ⟨t, rfl, gf⟩
    simp [wp_v, noloc, fin, hH]
end DV
namespace DV
open PySem PySem.Spec PyProof.Rows L2
theorem law_k11_ok (ns : List Int) (hl : ns.length ≤ 63) : ∃ h, F_law_k11x 230 [.ro ns] [] = .ok (.bl true) h := by
  have w : (F_law_k11x (229 + 1) [.ro ns] []).wp (fun d _ => d = .bl true) xF := by
    rw [S_law_k11x]
    have dr : ∀ (cell k many : Int) (h : Hs), 0 < many → -1000000 ≤ k ∧ k ≤ 1000000 → F__law_draw 229 [.int cell, .int k, .int many] h = .ok (.int (drawI cell k many)) h := fun cell k many h a b => draw_ok 228 h cell k many a b
    obtain ⟨t0, et, g0, k0, d0⟩ := start_tree 226 [AO.lst ((ns.drop 1).map D.int)] 0 (ns.drop 1) (cellI ns 0) (drawI (cellI ns 0) 50 4) rfl
    have c0 := fun h => cell0_ok 228 h ns
    have c1' := fun h => cell_ok 228 h ns 1
    have c1 : ∀ h, F__law_cell_at 229 [.ro ns, .int 1] h = .ok (.int (cellI ns 1)) h := c1'
    generalize cellI ns 0 = first at c0 et dr
    rw [wp_pure, wp_run]
    refine ⟨rfl, ?_⟩
    unfold m_law_k11x
    simp only [startD, List.map_cons, List.map_nil, List.length_cons, List.length_nil]
    refine st_set (.int first) [] (by simp [wp_v, c0]) ?_
    refine st_set (tD t0) [AO.lst ((ns.drop 1).map D.int)] ?_ ?_
    · simp [wp_v, slF_ro, drop1, dr]
      simp at et
      simp [et]
    clear et
    generalize AO.lst ((ns.drop 1).map D.int) = b0
    simp only [List.set_cons_succ, List.set_cons_zero, List.replicate, List.cons_append, List.nil_append]
    have d51 := fun h => dr first 51 3 h (by decide) (by decide)
    -- the last part
    have last : ∀ (s : Str) (td : D) (N : Hs) (Nn : Sl → Hs → Prop), TxOk s →
        (seqM (setM 4 (callM (F__law_scan 229) (consA (vM 3) nilA))) (seqM (setM 5 (callM (F__law_refusal_x 229) (consA (vM 3) nilA))) (seqM (ifM (tbM (binM neF (vM 4) (cM (.str "")))) (retM (binM eqF (vM 5) (argM lstF (consA (binM eqF (vM 4) (cM (.str "BadText"))) (consA (binM eqF (vM 4) (cM (.str "TooLong"))) (consA (cM (.bl true)) (consA (cM (.bl false)) (consA (cM (.bl false)) nilA)))))))) (passM)) (seqM (ifM (tbM (binM neF (vM 5) (argM lstF (nilA)))) (retM (cM (.bl false))) (passM)) (seqM (setM 6 (callM (F_read 229) (consA (vM 3) nilA))) (retM (andV (callM (F__law_is_tree 229) (consA (vM 6) nilA)) (binM eqF (callM (F__law_text 229) (consA (vM 6) nilA)) (vM 3))))))))
          [some (.ro ns), some (.int first), some td, some (.str s), none, none, none] N).wp Nn (fun d h' => (noloc d = true ∧ h'.take ([] : Hs).length = []) ∧ d = .bl true) (fun c h' => h'.take ([] : Hs).length = [] ∧ xF c h') := by
      intro s td h Nn T
      have sc := fun h => scan_ok 227 h s T
      obtain ⟨E, hE⟩ : ∃ E, E = scn s.cps.toList [] .bg 0 := ⟨_, rfl⟩
      rw [← hE] at sc
      rw [scn_all] at hE
      refine st_set (.str E) h (by simp [wp_v, sc]) ?_
      have rf := refusal_ok 228 h s T (by decide)
      refine st_set (.loc h.length) (h ++ [.lst ((refW (rdAll s.cps.toList)).map D.bl)]) (by simp [wp_v, rf]) ?_
      simp only [List.set_cons_succ, List.set_cons_zero, List.replicate, List.cons_append, List.nil_append]
      cases e : rdAll s.cps.toList with
      | err c =>
        rw [e] at hE
        simp only at hE
        subst hE
        rcases rdAll_err e with rfl | rfl
        · have eb := eq_bools (h := h ++ [AO.lst ((refL "BadText").map D.bl), AO.lst ([true, false, true, false, false].map D.bl)]) (i := h.length) (j := h.length + 1) (bs := refL "BadText") (cs := [true, false, true, false, false]) (by simp) (by simp)
          simp [refL] at eb
          simp [wp_v, sw_bn, ev_bb, ev_bl, refW, refL, eb, noloc]
        · have eb := eq_bools (h := h ++ [AO.lst ((refL "TooLong").map D.bl), AO.lst ([false, true, true, false, false].map D.bl)]) (i := h.length) (j := h.length + 1) (bs := refL "TooLong") (cs := [false, true, true, false, false]) (by simp) (by simp)
          simp [refL] at eb
          simp [wp_v, sw_ln, ev_lb, ev_ll, refW, refL, eb, noloc]
      | ok t r b =>
        obtain rfl := rdAll_ok e
        rw [e] at hE
        simp only at hE
        subst hE
        obtain ⟨et, g, kn, dp⟩ := rdAll_sound e
        obtain rfl : s = txS t := str_ext et
        have ne := neempty (h := h ++ [AO.lst []]) (l := h.length) (xs := []) (by simp)
        simp at ne
        have rd := fun h => read_txt 229 h g dp kn (by decide)
        have it := fun h => is_tree_ok 229 h t g (by omega) (by omega)
        have lt := fun h => law_text_ok 229 h t g (by omega) (by omega)
        have so := strOk_tx T
        have eq := fun h => eq_strs (h := h) so so
        simp [wp_v, sw_nn, refW, ne, rd, it, lt, eq, noloc]
    -- the text is spoiled
    have mid : ∀ (s : Str) (td : D) (N : Hs) (Nn : Sl → Hs → Prop), SgOk 3000 s →
        (seqM (setM 3 (callM (F__law_spoiled 229) (consA (vM 3) (consA (slM (vM 0) (someP (cM (.int 1))) (noP)) (consA (vM 1) nilA))))) (seqM (setM 4 (callM (F__law_scan 229) (consA (vM 3) nilA))) (seqM (setM 5 (callM (F__law_refusal_x 229) (consA (vM 3) nilA))) (seqM (ifM (tbM (binM neF (vM 4) (cM (.str "")))) (retM (binM eqF (vM 5) (argM lstF (consA (binM eqF (vM 4) (cM (.str "BadText"))) (consA (binM eqF (vM 4) (cM (.str "TooLong"))) (consA (cM (.bl true)) (consA (cM (.bl false)) (consA (cM (.bl false)) nilA)))))))) (passM)) (seqM (ifM (tbM (binM neF (vM 5) (argM lstF (nilA)))) (retM (cM (.bl false))) (passM)) (seqM (setM 6 (callM (F_read 229) (consA (vM 3) nilA))) (retM (andV (callM (F__law_is_tree 229) (consA (vM 6) nilA)) (binM eqF (callM (F__law_text 229) (consA (vM 6) nilA)) (vM 3)))))))))
          [some (.ro ns), some (.int first), some td, some (.str s), none, none, none] N).wp Nn (fun d h' => (noloc d = true ∧ h'.take ([] : Hs).length = []) ∧ d = .bl true) (fun c h' => h'.take ([] : Hs).length = [] ∧ xF c h') := by
      intro s td N Nn g
      obtain ⟨d, h', e, rfl, s2, rfl, g2⟩ := R.wp_ex (spoiled_ok 227 (N ++ [.lst ((ns.drop 1).map D.int)]) s N.length (ns.drop 1) first g (by simp))
      refine st_set (.str s2) (N ++ [.lst ((ns.drop 1).map D.int)]) ?_ ?_
      · simp at e
        simp [wp_v, slF_ro, drop1, e]
      · simp only [List.set_cons_succ, List.set_cons_zero]
        exact last s2 td _ _ (g2.tx (by decide))
    -- the tree written
    have rest : ∀ (t : Tr) (N : Hs) (Nn : Sl → Hs → Prop), t.good → t.knots ≤ 204 → t.depth ≤ 40 →
        (seqM (setM 3 (callM (F__law_text 229) (consA (vM 2) nilA))) (seqM (ifM (tbM (binM eqF (callM (F__law_draw 229) (consA (vM 1) (consA (cM (.int 47)) (consA (cM (.int 3)) nilA)))) (cM (.int 1)))) (setM 3 (callM (F__law_odd_leaf 229) (consA (vM 3) (consA (callM (F__law_cell_at 229) (consA (vM 0) (consA (cM (.int 1)) nilA))) nilA)))) (passM)) (seqM (setM 3 (callM (F__law_spoiled 229) (consA (vM 3) (consA (slM (vM 0) (someP (cM (.int 1))) (noP)) (consA (vM 1) nilA))))) (seqM (setM 4 (callM (F__law_scan 229) (consA (vM 3) nilA))) (seqM (setM 5 (callM (F__law_refusal_x 229) (consA (vM 3) nilA))) (seqM (ifM (tbM (binM neF (vM 4) (cM (.str "")))) (retM (binM eqF (vM 5) (argM lstF (consA (binM eqF (vM 4) (cM (.str "BadText"))) (consA (binM eqF (vM 4) (cM (.str "TooLong"))) (consA (cM (.bl true)) (consA (cM (.bl false)) (consA (cM (.bl false)) nilA)))))))) (passM)) (seqM (ifM (tbM (binM neF (vM 5) (argM lstF (nilA)))) (retM (cM (.bl false))) (passM)) (seqM (setM 6 (callM (F_read 229) (consA (vM 3) nilA))) (retM (andV (callM (F__law_is_tree 229) (consA (vM 6) nilA)) (binM eqF (callM (F__law_text 229) (consA (vM 6) nilA)) (vM 3)))))))))))
          [some (.ro ns), some (.int first), some (tD t), none, none, none, none] N).wp Nn (fun d h' => (noloc d = true ∧ h'.take ([] : Hs).length = []) ∧ d = .bl true) (fun c h' => h'.take ([] : Hs).length = [] ∧ xF c h') := by
      intro t N Nn g hk hd
      have lt := fun h => law_text_ok 229 h t g (by omega) (by omega)
      have T := txS_ok g (by omega)
      have gs : SgOk 2860 (txS t) := ⟨by have := txt_len t g; rw [txS_len]; omega, T.sg⟩
      refine st_set (.str (txS t)) N (by simp [wp_v, lt]) ?_
      simp only [List.set_cons_succ, List.set_cons_zero]
      have d47 := fun h => dr first 47 3 h (by decide) (by decide)
      by_cases c : drawI first 47 3 = 1
      · obtain ⟨d, h', e, rfl, s, rfl, g2⟩ := R.wp_ex (odd_ok 227 N (txS t) (cellI ns 1) gs)
        refine st_seq [some (.ro ns), some (.int first), some (tD t), some (.str s), none, none, none] h' ?_ ?_
        · simp [wp_v, d47, c, c1, e]
        · exact mid s _ _ _ g2
      · refine st_guard N (by simp [wp_v, d47, c]) ?_
        exact mid _ _ _ _ (gs.mono (by decide))
    by_cases c2 : drawI first 51 3 = 1
    · obtain ⟨d, h', e, nm, rfl, rfl, n4, ng⟩ := R.wp_ex (names_ok 227 [b0] first)
      have d52 := fun h => dr first 52 33 h (by decide) (by decide)
      have d53 := fun h => dr first 53 8 h (by decide) (by decide)
      obtain ⟨r0, r1⟩ := drawI_lt first 52 (by decide : (0 : Int) < 33)
      obtain ⟨q0, q1⟩ := drawI_lt first 53 (by decide : (0 : Int) < 8)
      generalize drawI first 52 33 = r at d52 r0 r1
      generalize drawI first 53 8 = q at d53 q0 q1
      obtain ⟨a, ea⟩ : ∃ a : Nat, 1 + r = (a : Int) := ⟨(1 + r).toNat, by omega⟩
      obtain ⟨b, eb⟩ : ∃ b : Nat, 197 + q = (b : Int) := ⟨(197 + q).toNat, by omega⟩
      obtain ⟨t, egr, g, td, tk⟩ := great_ok 227 ([b0] ++ [.lst (nm.map D.str)]) 1 nm first a b rfl n4 ng (by omega) (by omega)
      refine st_seq [some (.ro ns), some (.int first), some (tD t), none, none, none, none] [b0, .lst (nm.map D.str)] ?_ ?_
      · simp at e egr
        simp [wp_v, d51, c2, e, d52, d53, ea, eb, egr]
      · exact rest t _ _ g (by omega) (by omega)
    · refine st_guard [b0] (by simp [wp_v, d51, c2]) ?_
      exact rest t0 _ _ g0 (by omega) (by omega)
  obtain ⟨d, h, e, rfl⟩ := R.wp_ex w
  exact ⟨h, e⟩
end DV
namespace Hd
open PySem PySem.Spec PyProof.Rows L2 DV
def top (i : Nat) : Stmt := PySem.Challenge.pw_commonform_k11_whole_texts_read_or_refus.main.body.getD i (.Pass ⟨0, 0, 0, 0⟩)
abbrev s_TreeReader___init__ : Stmt := inClass (top 17) 0
def d_TreeReader___init__ : He.DefD := ⟨("TreeReader", some "__init__"), "__init__", "TreeReader.__init__", defArgs s_TreeReader___init__, defBody s_TreeReader___init__, defScope s_TreeReader___init__, [], []⟩
abbrev s_TreeReader_sign : Stmt := inClass (top 17) 1
def d_TreeReader_sign : He.DefD := ⟨("TreeReader", some "sign"), "sign", "TreeReader.sign", defArgs s_TreeReader_sign, defBody s_TreeReader_sign, defScope s_TreeReader_sign, [], []⟩
abbrev s_TreeReader_read_name : Stmt := inClass (top 17) 2
def d_TreeReader_read_name : He.DefD := ⟨("TreeReader", some "read_name"), "read_name", "TreeReader.read_name", defArgs s_TreeReader_read_name, defBody s_TreeReader_read_name, defScope s_TreeReader_read_name, [], []⟩
abbrev s_TreeReader_read_number : Stmt := inClass (top 17) 3
def d_TreeReader_read_number : He.DefD := ⟨("TreeReader", some "read_number"), "read_number", "TreeReader.read_number", defArgs s_TreeReader_read_number, defBody s_TreeReader_read_number, defScope s_TreeReader_read_number, [], []⟩
abbrev s_TreeReader_read_parts : Stmt := inClass (top 17) 4
def d_TreeReader_read_parts : He.DefD := ⟨("TreeReader", some "read_parts"), "read_parts", "TreeReader.read_parts", defArgs s_TreeReader_read_parts, defBody s_TreeReader_read_parts, defScope s_TreeReader_read_parts, [], []⟩
abbrev s_TreeReader_read_tree : Stmt := inClass (top 17) 5
def d_TreeReader_read_tree : He.DefD := ⟨("TreeReader", some "read_tree"), "read_tree", "TreeReader.read_tree", defArgs s_TreeReader_read_tree, defBody s_TreeReader_read_tree, defScope s_TreeReader_read_tree, [], []⟩
abbrev s_read : Stmt := top 18
def d_read : He.DefD := ⟨("read", none), "read", "read", defArgs s_read, defBody s_read, defScope s_read, [], []⟩
abbrev s__law_cell_at : Stmt := top 20
def d__law_cell_at : He.DefD := ⟨("_law_cell_at", none), "_law_cell_at", "_law_cell_at", defArgs s__law_cell_at, defBody s__law_cell_at, defScope s__law_cell_at, [], []⟩
abbrev s__law_draw : Stmt := top 21
def d__law_draw : He.DefD := ⟨("_law_draw", none), "_law_draw", "_law_draw", defArgs s__law_draw, defBody s__law_draw, defScope s__law_draw, [], []⟩
abbrev s__law_names : Stmt := top 22
def d__law_names : He.DefD := ⟨("_law_names", none), "_law_names", "_law_names", defArgs s__law_names, defBody s__law_names, defScope s__law_names, [], []⟩
abbrev s__law_leaf : Stmt := top 23
def d__law_leaf : He.DefD := ⟨("_law_leaf", none), "_law_leaf", "_law_leaf", defArgs s__law_leaf, defBody s__law_leaf, defScope s__law_leaf, [], []⟩
abbrev s__law_tree : Stmt := top 24
def d__law_tree : He.DefD := ⟨("_law_tree", none), "_law_tree", "_law_tree", defArgs s__law_tree, defBody s__law_tree, defScope s__law_tree, [], []⟩
abbrev s__law_great : Stmt := top 25
def d__law_great : He.DefD := ⟨("_law_great", none), "_law_great", "_law_great", defArgs s__law_great, defBody s__law_great, defScope s__law_great, [], []⟩
abbrev s__law_text : Stmt := top 26
def d__law_text : He.DefD := ⟨("_law_text", none), "_law_text", "_law_text", defArgs s__law_text, defBody s__law_text, defScope s__law_text, [], []⟩
abbrev s__law_begun : Stmt := top 27
def d__law_begun : He.DefD := ⟨("_law_begun", none), "_law_begun", "_law_begun", defArgs s__law_begun, defBody s__law_begun, defScope s__law_begun, [], []⟩
abbrev s__law_behind : Stmt := top 28
def d__law_behind : He.DefD := ⟨("_law_behind", none), "_law_behind", "_law_behind", defArgs s__law_behind, defBody s__law_behind, defScope s__law_behind, [], []⟩
abbrev s__law_scan : Stmt := top 29
def d__law_scan : He.DefD := ⟨("_law_scan", none), "_law_scan", "_law_scan", defArgs s__law_scan, defBody s__law_scan, defScope s__law_scan, [], []⟩
abbrev s__law_spoiled : Stmt := top 30
def d__law_spoiled : He.DefD := ⟨("_law_spoiled", none), "_law_spoiled", "_law_spoiled", defArgs s__law_spoiled, defBody s__law_spoiled, defScope s__law_spoiled, [], []⟩
abbrev s__law_odd_leaf : Stmt := top 31
def d__law_odd_leaf : He.DefD := ⟨("_law_odd_leaf", none), "_law_odd_leaf", "_law_odd_leaf", defArgs s__law_odd_leaf, defBody s__law_odd_leaf, defScope s__law_odd_leaf, [], []⟩
abbrev s__law_is_tree : Stmt := top 32
def d__law_is_tree : He.DefD := ⟨("_law_is_tree", none), "_law_is_tree", "_law_is_tree", defArgs s__law_is_tree, defBody s__law_is_tree, defScope s__law_is_tree, [], []⟩
abbrev s__law_refusal : Stmt := top 33
def d__law_refusal : He.DefD := ⟨("_law_refusal", none), "_law_refusal", "_law_refusal", defArgs s__law_refusal, defBody s__law_refusal, defScope s__law_refusal, [], []⟩
abbrev s_law : Stmt := top 34
def d_law : He.DefD := ⟨("law", none), "law", "law", defArgs s_law, defBody s_law, defScope s_law, [], []⟩
def fn : List He.DefD := [d_TreeReader___init__, d_TreeReader_sign, d_TreeReader_read_name, d_TreeReader_read_number, d_TreeReader_read_parts, d_TreeReader_read_tree, d_read, d__law_cell_at, d__law_draw, d__law_names, d__law_leaf, d__law_tree, d__law_great, d__law_text, d__law_begun, d__law_behind, d__law_scan, d__law_spoiled, d__law_odd_leaf, d__law_is_tree, d__law_refusal, d_law]
def fa : List Fx := [.he (.glo "read"), .he (.glo "_law_cell_at"), .he (.glo "_law_draw"), .he (.glo "_law_names"), .he (.glo "_law_leaf"), .he (.glo "_law_tree"), .he (.glo "_law_great"), .he (.glo "_law_text"), .he (.glo "_law_begun"), .he (.glo "_law_behind"), .he (.glo "_law_scan"), .he (.glo "_law_spoiled"), .he (.glo "_law_odd_leaf"), .he (.glo "_law_is_tree"), .he (.glo "_law_refusal"), .he (.glo "law"), .he (.glo "FormError"), .he (.glo "NoPlace"), .he (.glo "BadText"), .he (.glo "TooLong"), .he (.glo "BadPaper"), .he (.glo "BadName"), .he (.glo "Twice"), .he (.glo "NoForm"), .he (.glo "TreeReader"), .he (.free "len"), .he (.free "range"), .he (.free "int"), .he (.free "str"), .he (.free "sum"), .he (.free "max"), .he (.free "min"), .he (.free "enumerate"), .he (.free "isinstance"), .he (.free "tuple"), .he (.free "list"), .he (.free "dict"), .he (.free "sorted"), .he (.free "abs"), .he (.free "all"), .he (.free "set"), .he (.free "bool"), .he (.free "ValueError"), .he (.str "SMALL" "abcdefghijklmnopqrstuvwxyz"), .he (.str "FIGURES" "0123456789"), .he (.int "LONGEST" (12)), .he (.int "MOST_READ" (200)), .he (.int "DEEPEST_READ" (30)), .he (.int "MOST_PARTS" (9)), .he (.int "GREATEST" (1000000000)), .he (.exc "FormError"), .kx "FormError", .he (.exm "FormError" "FormError" true), .ix "FormError" "BadText" false, .ix "FormError" "TooLong" false, .ib "FormError" "ValueError" true, .ix "FormError" "NoPlace" false, .ix "FormError" "BadPaper" false, .ix "FormError" "BadName" false, .ix "FormError" "Twice" false, .ix "FormError" "NoForm" false, .he (.exc "NoPlace"), .kx "NoPlace", .he (.exm "NoPlace" "FormError" true), .ix "NoPlace" "BadText" false, .ix "NoPlace" "TooLong" false, .ib "NoPlace" "ValueError" true, .ix "NoPlace" "NoPlace" true, .ix "NoPlace" "BadPaper" false, .ix "NoPlace" "BadName" false, .ix "NoPlace" "Twice" false, .ix "NoPlace" "NoForm" false, .he (.exc "BadText"), .kx "BadText", .he (.exm "BadText" "FormError" true), .ix "BadText" "BadText" true, .ix "BadText" "TooLong" false, .ib "BadText" "ValueError" true, .ix "BadText" "NoPlace" false, .ix "BadText" "BadPaper" false, .ix "BadText" "BadName" false, .ix "BadText" "Twice" false, .ix "BadText" "NoForm" false, .he (.exc "TooLong"), .kx "TooLong", .he (.exm "TooLong" "FormError" true), .ix "TooLong" "BadText" false, .ix "TooLong" "TooLong" true, .ib "TooLong" "ValueError" true, .ix "TooLong" "NoPlace" false, .ix "TooLong" "BadPaper" false, .ix "TooLong" "BadName" false, .ix "TooLong" "Twice" false, .ix "TooLong" "NoForm" false, .he (.exc "BadPaper"), .kx "BadPaper", .he (.exm "BadPaper" "FormError" true), .ix "BadPaper" "BadText" false, .ix "BadPaper" "TooLong" false, .ib "BadPaper" "ValueError" true, .ix "BadPaper" "NoPlace" false, .ix "BadPaper" "BadPaper" true, .ix "BadPaper" "BadName" false, .ix "BadPaper" "Twice" false, .ix "BadPaper" "NoForm" false, .he (.exc "BadName"), .kx "BadName", .he (.exm "BadName" "FormError" true), .ix "BadName" "BadText" false, .ix "BadName" "TooLong" false, .ib "BadName" "ValueError" true, .ix "BadName" "NoPlace" false, .ix "BadName" "BadPaper" false, .ix "BadName" "BadName" true, .ix "BadName" "Twice" false, .ix "BadName" "NoForm" false, .he (.exc "Twice"), .kx "Twice", .he (.exm "Twice" "FormError" true), .ix "Twice" "BadText" false, .ix "Twice" "TooLong" false, .ib "Twice" "ValueError" true, .ix "Twice" "NoPlace" false, .ix "Twice" "BadPaper" false, .ix "Twice" "BadName" false, .ix "Twice" "Twice" true, .ix "Twice" "NoForm" false, .he (.exc "NoForm"), .kx "NoForm", .he (.exm "NoForm" "FormError" true), .ix "NoForm" "BadText" false, .ix "NoForm" "TooLong" false, .ib "NoForm" "ValueError" true, .ix "NoForm" "NoPlace" false, .ix "NoForm" "BadPaper" false, .ix "NoForm" "BadName" false, .ix "NoForm" "Twice" false, .ix "NoForm" "NoForm" true, .he (.cls "TreeReader"), .he (.noat "TreeReader" "text"), .he (.noat "TreeReader" "at"), .he (.noat "TreeReader" "begun"), .he (.meth "TreeReader" "__init__"), .he (.meth "TreeReader" "sign"), .he (.meth "TreeReader" "read_name"), .he (.meth "TreeReader" "read_number"), .he (.meth "TreeReader" "read_parts"), .he (.meth "TreeReader" "read_tree"), .he (.mkr "TreeReader")]
abbrev R : PySem.W.OpenRow := PySem.W.OpenLaw.row PySem.Challenge.rw_commonform_k11_whole_texts_read_or_refus
abbrev hk : PySem.W.Hook := hookX 5 fa fn
def ob (s : PySem.W.SharedT) : He.AlD := obsXG 5 fa fn (HandSHeadRun.getT s)
theorem ob_eq (s : PySem.W.SharedT) : ob s = hk.obs s.abs := obsXG_eq (HandSHeadRun.getT_eq s)
def ls0 : List PySem.Str := ["FormError", "NoPlace", "BadText", "TooLong", "BadPaper", "BadName", "Twice", "NoForm", "SMALL", "FIGURES", "LONGEST", "MOST_READ", "DEEPEST_READ", "MOST_PARTS", "GREATEST", "TreeReader", "read", "_law_cell_at", "_law_draw", "_law_names", "_law_leaf", "_law_tree", "_law_great", "_law_text", "_law_begun", "_law_behind", "_law_scan", "_law_spoiled", "_law_odd_leaf", "_law_is_tree"]
def ls1 : List PySem.Str := ["_law_refusal"]
def ls : List PySem.Str := ls0 ++ ls1
theorem run (w : World) : HandSHeadRun.RunEq R (PySem.W.view R.prog [34]) hk ob 7570 ls w := by
  intro os
  kernel_rfl
end Hd
namespace Wk
open PySem PySem.Spec PyProof.Rows L2 DV Hd
section
variable {P : Program} {w : World} {K : PySem.W.Frag} {mg : Str → Option Value} {base : Heap} {n : Nat} {f : Addr} {fd : FuncData}
theorem sc_TreeReader___init__ : FnScope ["self", "text"] ["self", "text"] (defScope s_TreeReader___init__) := ⟨rfl, rfl, rfl, by decide +kernel, rfl, by decide +kernel, by decide +kernel⟩
theorem ok_TreeReader___init__ (F : FunD K "__init__" "TreeReader.__init__" (defArgs s_TreeReader___init__) (defBody s_TreeReader___init__) (defScope s_TreeReader___init__) [] [] f fd) (B : Blt mg) (i_TreeReader : InsF K "TreeReader" ["text", "at", "begun"]) :
    FnOk P w K mg base (L2.CX P w) (n + 1) f fd ["self", "text"] (spM K 2 (kEff.f (runM 2 2 (m_TreeReader___init__)))) :=
  def_ok (N := ["self", "text"]) kEff F sc_TreeReader___init__ fun cdv A outer s H E W hr tk =>
    sms_cons (sm_fld rfl i_TreeReader (by decide) (em_v (pv 0)) (em_v (pv 1)))
    (sms_cons (sm_fld rfl i_TreeReader (by decide) (em_v (pv 0)) (em_int))
    (sms_one (sm_fld rfl i_TreeReader (by decide) (em_v (pv 0)) (em_int))))
theorem sc_TreeReader_sign : FnScope ["self"] ["self"] (defScope s_TreeReader_sign) := ⟨rfl, rfl, rfl, by decide +kernel, rfl, by decide +kernel, by decide +kernel⟩
theorem ok_TreeReader_sign (F : FunD K "sign" "TreeReader.sign" (defArgs s_TreeReader_sign) (defBody s_TreeReader_sign) (defScope s_TreeReader_sign) [] [] f fd) (B : Blt mg) (i_TreeReader : InsF K "TreeReader" ["text", "at", "begun"]) :
    FnOk P w K mg base (L2.CX P w) (n + 1) f fd ["self"] (spM K 1 (kPure.f (runM 1 1 (m_TreeReader_sign)))) :=
  def_ok (N := ["self"]) kPure F sc_TreeReader_sign fun cdv A outer s H E W hr tk =>
    sms_cons (sm_if (tm_cmp o_lt (em_fld rfl i_TreeReader (by decide) (em_v (pv 0))) (em_callB c_len rfl B.z_len (by decide +kernel) (am_cons (em_fld rfl i_TreeReader (by decide) (em_v (pv 0))) (am_nil))) (nomark _)) (sms_one (sm_ret (em_ix (o_ix (hu1 hr)) (em_fld rfl i_TreeReader (by decide) (em_v (pv 0))) (em_fld rfl i_TreeReader (by decide) (em_v (pv 0))) (fun _ _ => rfl)))) (sms_nil))
    (sms_one (sm_ret (em_str)))
theorem sc_TreeReader_read_name : FnScope ["self", "start"] ["self"] (defScope s_TreeReader_read_name) := ⟨rfl, rfl, rfl, by decide +kernel, rfl, by decide +kernel, by decide +kernel⟩
theorem ok_TreeReader_read_name (F : FunD K "read_name" "TreeReader.read_name" (defArgs s_TreeReader_read_name) (defBody s_TreeReader_read_name) (defScope s_TreeReader_read_name) [] [] f fd) (B : Blt mg) (c_SMALL : ∃ t, mg "SMALL" = some (.str "abcdefghijklmnopqrstuvwxyz" t)) (c_FIGURES : ∃ t, mg "FIGURES" = some (.str "0123456789" t)) (c_LONGEST : ∃ t, mg "LONGEST" = some (.int 12 t)) (x_BadText : ExcF K mg "BadText") (i_TreeReader : InsF K "TreeReader" ["text", "at", "begun"]) {f_TreeReader_sign : Fm} (A_TreeReader_sign : MtAt P w K mg base n "TreeReader" "sign" ["self"] f_TreeReader_sign) :
    FnOk P w K mg base (L2.CX P w) (n + 1) f fd ["self"] (spM K 1 (kEff.f (runM 1 2 (m_TreeReader_read_name f_TreeReader_sign)))) :=
  def_ok (N := ["self", "start"]) kEff F sc_TreeReader_read_name fun cdv A outer s H E W hr tk =>
    sms_cons (sm_set (i := 1) sc_TreeReader_read_name.nd rfl (by first | exact Or.inl rfl | exact Or.inr rfl) (em_fld rfl i_TreeReader (by decide) (em_v (pv 0))))
    (sms_cons (sm_while FUEL (passes_of rfl) (PW.pt (tm_or (tm_cmp (o_in (hu195 hr)) (em_meth0 A_TreeReader_sign rfl hr tk (em_v (pv 0))) (em_gstr rfl c_SMALL) rfl) (tm_or1 (tm_cmp (o_in (hu195 hr)) (em_meth0 A_TreeReader_sign rfl hr tk (em_v (pv 0))) (em_gstr rfl c_FIGURES) rfl)))) (sms_cons (sm_fld rfl i_TreeReader (by decide) (em_v (pv 0)) (em_bin o_add (em_fld rfl i_TreeReader (by decide) (em_v (pv 0))) (em_int)))
    (sms_one (sm_if (tm_cmp o_gt (em_bin o_sub (em_fld rfl i_TreeReader (by decide) (em_v (pv 0))) (em_v (pv 1))) (em_gint rfl c_LONGEST) (nomark _)) (sms_one (sm_raise x_BadText rfl rfl tk rfl)) (sms_nil)))))
    (sms_one (sm_ret (em_slice rfl (em_fld rfl i_TreeReader (by decide) (em_v (pv 0))) (pm_some (em_v (pv 1))) (pm_some (em_fld rfl i_TreeReader (by decide) (em_v (pv 0))))))))
theorem sc_TreeReader_read_number : FnScope ["self", "number"] ["self"] (defScope s_TreeReader_read_number) := ⟨rfl, rfl, rfl, by decide +kernel, rfl, by decide +kernel, by decide +kernel⟩
theorem ok_TreeReader_read_number (F : FunD K "read_number" "TreeReader.read_number" (defArgs s_TreeReader_read_number) (defBody s_TreeReader_read_number) (defScope s_TreeReader_read_number) [] [] f fd) (B : Blt mg) (c_FIGURES : ∃ t, mg "FIGURES" = some (.str "0123456789" t)) (c_GREATEST : ∃ t, mg "GREATEST" = some (.int 1000000000 t)) (x_BadText : ExcF K mg "BadText") (i_TreeReader : InsF K "TreeReader" ["text", "at", "begun"]) {f_TreeReader_sign : Fm} (A_TreeReader_sign : MtAt P w K mg base n "TreeReader" "sign" ["self"] f_TreeReader_sign) :
    FnOk P w K mg base (L2.CX P w) (n + 1) f fd ["self"] (spM K 1 (kEff.f (runM 1 2 (m_TreeReader_read_number f_TreeReader_sign)))) :=
  def_ok (N := ["self", "number"]) kEff F sc_TreeReader_read_number fun cdv A outer s H E W hr tk =>
    sms_cons (sm_set (i := 1) sc_TreeReader_read_number.nd rfl (by first | exact Or.inl rfl | exact Or.inr rfl) (em_int))
    (sms_cons (sm_while FUEL (passes_of rfl) (tm_cmp (o_in (hu195 hr)) (em_meth0 A_TreeReader_sign rfl hr tk (em_v (pv 0))) (em_gstr rfl c_FIGURES) rfl) (sms_cons (sm_set (i := 1) sc_TreeReader_read_number.nd rfl (by first | exact Or.inl rfl | exact Or.inr rfl) (em_bin o_add (em_bin o_mulX (em_v (pv 1)) (em_int)) (em_bm rfl PySem.F.plainAttrs_str PySem.F.slot_str_find PySem.F.type_str_find k_find (fun _ _ _ _ _ r _ c => ckStr_ty r c) (em_gstr rfl c_FIGURES) (am_cons (em_meth0 A_TreeReader_sign rfl hr tk (em_v (pv 0))) (am_nil)))))
    (sms_cons (sm_if (PW.pt (tm_or (tm_cmp (o_eq (hu195 hr)) (em_v (pv 1)) (em_int) (nomark _)) (tm_or1 (tm_cmp o_gt (em_v (pv 1)) (em_gint rfl c_GREATEST) (nomark _))))) (sms_one (sm_raise x_BadText rfl rfl tk rfl)) (sms_nil))
    (sms_one (sm_fld rfl i_TreeReader (by decide) (em_v (pv 0)) (em_bin o_add (em_fld rfl i_TreeReader (by decide) (em_v (pv 0))) (em_int)))))))
    (sms_cons (sm_if (tm_cmp (o_eq (hu195 hr)) (em_v (pv 1)) (em_int) (nomark _)) (sms_one (sm_raise x_BadText rfl rfl tk rfl)) (sms_nil))
    (sms_one (sm_ret (em_v (pv 1))))))
theorem sc_TreeReader_read_parts : FnScope ["self", "deep", "parts"] ["self", "deep"] (defScope s_TreeReader_read_parts) := ⟨rfl, rfl, rfl, by decide +kernel, rfl, by decide +kernel, by decide +kernel⟩
theorem ok_TreeReader_read_parts (F : FunD K "read_parts" "TreeReader.read_parts" (defArgs s_TreeReader_read_parts) (defBody s_TreeReader_read_parts) (defScope s_TreeReader_read_parts) [] [] f fd) (B : Blt mg) (c_MOST_PARTS : ∃ t, mg "MOST_PARTS" = some (.int 9 t)) (x_BadText : ExcF K mg "BadText") (i_TreeReader : InsF K "TreeReader" ["text", "at", "begun"]) {f_TreeReader_sign f_TreeReader_read_tree : Fm} (A_TreeReader_sign : MtAt P w K mg base n "TreeReader" "sign" ["self"] f_TreeReader_sign) (A_TreeReader_read_tree : MtAt P w K mg base n "TreeReader" "read_tree" ["self", "deep"] f_TreeReader_read_tree) :
    FnOk P w K mg base (L2.CX P w) (n + 1) f fd ["self", "deep"] (spM K 2 (kEff.f (runM 2 3 (m_TreeReader_read_parts f_TreeReader_sign f_TreeReader_read_tree)))) :=
  def_ok (N := ["self", "deep", "parts"]) kEff F sc_TreeReader_read_parts fun cdv A outer s H E W hr tk =>
    sms_cons (sm_fld rfl i_TreeReader (by decide) (em_v (pv 0)) (em_bin o_add (em_fld rfl i_TreeReader (by decide) (em_v (pv 0))) (em_int)))
    (sms_cons (sm_set (i := 2) sc_TreeReader_read_parts.nd rfl (by first | exact Or.inl rfl | exact Or.inr rfl) (em_lst (am_cons (em_meth A_TreeReader_read_tree rfl hr tk (em_v (pv 0)) (am_cons (em_v (pv 1)) (am_nil))) (am_nil))))
    (sms_cons (sm_while FUEL (passes_of rfl) (tm_cmp (o_eq (hu195 hr)) (em_meth0 A_TreeReader_sign rfl hr tk (em_v (pv 0))) (em_str) (nomark _)) (sms_cons (sm_if (tm_cmp (o_eq (hu195 hr)) (em_callB c_len rfl B.z_len (by decide +kernel) (am_cons (em_v (pv 2)) (am_nil))) (em_gint rfl c_MOST_PARTS) (nomark _)) (sms_one (sm_raise x_BadText rfl rfl tk rfl)) (sms_nil))
    (sms_cons (sm_fld rfl i_TreeReader (by decide) (em_v (pv 0)) (em_bin o_add (em_fld rfl i_TreeReader (by decide) (em_v (pv 0))) (em_int)))
    (sms_one (sm_expr (em_bm rfl PySem.F.plainAttrs_list PySem.F.slot_list_append PySem.F.type_list_append k_append (fun _ _ _ _ _ => ckList_ty) (em_v (pv 2)) (am_cons (em_meth A_TreeReader_read_tree rfl hr tk (em_v (pv 0)) (am_cons (em_v (pv 1)) (am_nil))) (am_nil))))))))
    (sms_cons (sm_if (tm_cmp (o_ne (hu195 hr)) (em_meth0 A_TreeReader_sign rfl hr tk (em_v (pv 0))) (em_str) (nomark _)) (sms_one (sm_raise x_BadText rfl rfl tk rfl)) (sms_nil))
    (sms_cons (sm_fld rfl i_TreeReader (by decide) (em_v (pv 0)) (em_bin o_add (em_fld rfl i_TreeReader (by decide) (em_v (pv 0))) (em_int)))
    (sms_one (sm_ret (em_callTy c_tuple rfl B.z_tuple (by decide +kernel) (am_cons (em_v (pv 2)) (am_nil)))))))))
theorem sc_TreeReader_read_tree : FnScope ["self", "deep", "sign", "name"] ["self", "deep"] (defScope s_TreeReader_read_tree) := ⟨rfl, rfl, rfl, by decide +kernel, rfl, by decide +kernel, by decide +kernel⟩
theorem ok_TreeReader_read_tree (F : FunD K "read_tree" "TreeReader.read_tree" (defArgs s_TreeReader_read_tree) (defBody s_TreeReader_read_tree) (defScope s_TreeReader_read_tree) [] [] f fd) (B : Blt mg) (c_MOST_READ : ∃ t, mg "MOST_READ" = some (.int 200 t)) (c_DEEPEST_READ : ∃ t, mg "DEEPEST_READ" = some (.int 30 t)) (c_SMALL : ∃ t, mg "SMALL" = some (.str "abcdefghijklmnopqrstuvwxyz" t)) (x_TooLong : ExcF K mg "TooLong") (x_BadText : ExcF K mg "BadText") (i_TreeReader : InsF K "TreeReader" ["text", "at", "begun"]) {f_TreeReader_sign f_TreeReader_read_parts f_TreeReader_read_name f_TreeReader_read_number : Fm} (A_TreeReader_sign : MtAt P w K mg base n "TreeReader" "sign" ["self"] f_TreeReader_sign) (A_TreeReader_read_parts : MtAt P w K mg base n "TreeReader" "read_parts" ["self", "deep"] f_TreeReader_read_parts) (A_TreeReader_read_name : MtAt P w K mg base n "TreeReader" "read_name" ["self"] f_TreeReader_read_name) (A_TreeReader_read_number : MtAt P w K mg base n "TreeReader" "read_number" ["self"] f_TreeReader_read_number) :
    FnOk P w K mg base (L2.CX P w) (n + 1) f fd ["self", "deep"] (spM K 2 (kEff.f (runM 2 4 (m_TreeReader_read_tree f_TreeReader_sign f_TreeReader_read_parts f_TreeReader_read_name f_TreeReader_read_number)))) :=
  def_ok (N := ["self", "deep", "sign", "name"]) kEff F sc_TreeReader_read_tree fun cdv A outer s H E W hr tk =>
    sms_cons (sm_set (i := 2) sc_TreeReader_read_tree.nd rfl (by first | exact Or.inl rfl | exact Or.inr rfl) (em_meth0 A_TreeReader_sign rfl hr tk (em_v (pv 0))))
    (sms_cons (sm_if (PW.pt (tm_and (tm_cmp (o_ne (hu195 hr)) (em_v (pv 2)) (em_str) (nomark _)) (tm_and1 (tm_cmp (o_nin (hu195 hr)) (em_v (pv 2)) (em_gstr rfl c_SMALL) rfl)))) (sms_one (sm_raise x_BadText rfl rfl tk rfl)) (sms_nil))
    (sms_cons (sm_if (PW.pt (tm_or (tm_cmp (o_eq (hu195 hr)) (em_fld rfl i_TreeReader (by decide) (em_v (pv 0))) (em_gint rfl c_MOST_READ) (nomark _)) (tm_or1 (tm_cmp o_gt (em_v (pv 1)) (em_gint rfl c_DEEPEST_READ) (nomark _))))) (sms_one (sm_raise x_TooLong rfl rfl tk rfl)) (sms_nil))
    (sms_cons (sm_fld rfl i_TreeReader (by decide) (em_v (pv 0)) (em_bin o_add (em_fld rfl i_TreeReader (by decide) (em_v (pv 0))) (em_int)))
    (sms_cons (sm_if (tm_cmp (o_eq (hu195 hr)) (em_v (pv 2)) (em_str) (nomark _)) (sms_cons (sm_fld rfl i_TreeReader (by decide) (em_v (pv 0)) (em_bin o_add (em_fld rfl i_TreeReader (by decide) (em_v (pv 0))) (em_int)))
    (sms_one (sm_ret (em_tup (am_cons (em_str) (am_cons (em_meth0 A_TreeReader_read_number rfl hr tk (em_v (pv 0))) (am_nil))))))) (sms_nil))
    (sms_cons (sm_set (i := 3) sc_TreeReader_read_tree.nd rfl (by first | exact Or.inl rfl | exact Or.inr rfl) (em_meth0 A_TreeReader_read_name rfl hr tk (em_v (pv 0))))
    (sms_cons (sm_if (tm_cmp (o_eq (hu195 hr)) (em_meth0 A_TreeReader_sign rfl hr tk (em_v (pv 0))) (em_str) (nomark _)) (sms_one (sm_ret (em_tup (am_cons (em_str) (am_cons (em_v (pv 3)) (am_cons (em_meth A_TreeReader_read_parts rfl hr tk (em_v (pv 0)) (am_cons (em_bin o_add (em_v (pv 1)) (em_int)) (am_nil))) (am_nil))))))) (sms_nil))
    (sms_one (sm_ret (em_tup (am_cons (em_str) (am_cons (em_v (pv 3)) (am_cons (em_tup (am_nil)) (am_nil)))))))))))))
theorem sc_read : FnScope ["text", "reader", "tree"] ["text"] (defScope s_read) := ⟨rfl, rfl, rfl, by decide +kernel, rfl, by decide +kernel, by decide +kernel⟩
theorem ok_read (F : FunD K "read" "read" (defArgs s_read) (defBody s_read) (defScope s_read) [] [] f fd) (B : Blt mg) (x_BadText : ExcF K mg "BadText") (i_TreeReader : InsF K "TreeReader" ["text", "at", "begun"]) {f_TreeReader_read_tree f_TreeReader___init__ : Fm} (A_TreeReader_read_tree : MtAt P w K mg base n "TreeReader" "read_tree" ["self", "deep"] f_TreeReader_read_tree) (A_TreeReader___init__ : MkN P w K mg base n "TreeReader" ["self", "text"] f_TreeReader___init__) :
    FnOk P w K mg base (L2.CX P w) (n + 1) f fd ["text"] (spM K 1 (kPure.f (runM 1 3 (m_read f_TreeReader_read_tree f_TreeReader___init__)))) :=
  def_ok (N := ["text", "reader", "tree"]) kPure F sc_read fun cdv A outer s H E W hr tk =>
    sms_cons (sm_set (i := 1) sc_read.nd rfl (by first | exact Or.inl rfl | exact Or.inr rfl) (em_newN A_TreeReader___init__ rfl hr rfl (am_cons (em_v (pv 0)) (am_nil)) (ne_exc_v 0)))
    (sms_cons (sm_set (i := 2) sc_read.nd rfl (by first | exact Or.inl rfl | exact Or.inr rfl) (em_meth A_TreeReader_read_tree rfl hr tk (em_v (pv 1)) (am_cons (em_int) (am_nil))))
    (sms_cons (sm_if (tm_cmp o_lt (em_fld rfl i_TreeReader (by decide) (em_v (pv 1))) (em_callB c_len rfl B.z_len (by decide +kernel) (am_cons (em_v (pv 0)) (am_nil))) (nomark _)) (sms_one (sm_raise x_BadText rfl rfl tk rfl)) (sms_nil))
    (sms_one (sm_ret (em_v (pv 2))))))
theorem sc__law_cell_at : FnScope ["script", "k"] ["script", "k"] (defScope s__law_cell_at) := ⟨rfl, rfl, rfl, by decide +kernel, rfl, by decide +kernel, by decide +kernel⟩
theorem ok__law_cell_at (F : FunD K "_law_cell_at" "_law_cell_at" (defArgs s__law_cell_at) (defBody s__law_cell_at) (defScope s__law_cell_at) [] [] f fd) (B : Blt mg) :
    FnOk P w K mg base (L2.CX P w) (n + 1) f fd ["script", "k"] (spM K 2 (kPure.f (runM 2 2 (m__law_cell_at)))) :=
  def_ok (N := ["script", "k"]) kPure F sc__law_cell_at fun cdv A outer s H E W hr tk =>
    sms_cons (sm_if (tm_cmp o_lt (em_v (pv 1)) (em_callB c_len rfl B.z_len (by decide +kernel) (am_cons (em_v (pv 0)) (am_nil))) (nomark _)) (sms_one (sm_ret (em_ix (o_ix (hu1 hr)) (em_v (pv 0)) (em_v (pv 1)) (fun _ _ => rfl)))) (sms_nil))
    (sms_one (sm_ret (em_int)))
theorem sc__law_draw : FnScope ["cell", "k", "many", "number"] ["cell", "k", "many"] (defScope s__law_draw) := ⟨rfl, rfl, rfl, by decide +kernel, rfl, by decide +kernel, by decide +kernel⟩
theorem ok__law_draw (F : FunD K "_law_draw" "_law_draw" (defArgs s__law_draw) (defBody s__law_draw) (defScope s__law_draw) [] [] f fd) (B : Blt mg) :
    FnOk P w K mg base (L2.CX P w) (n + 1) f fd ["cell", "k", "many"] (spM K 3 (kPure.f (runM 3 4 (m__law_draw)))) :=
  def_ok (N := ["cell", "k", "many", "number"]) kPure F sc__law_draw fun cdv A outer s H E W hr tk =>
    sms_cons (sm_set (i := 3) sc__law_draw.nd rfl (by first | exact Or.inl rfl | exact Or.inr rfl) (em_bin o_mod (em_bin o_mulX (em_bin o_add (em_v (pv 0)) (em_int)) (em_bin o_add (em_int) (em_bin o_mulX (em_bin o_mulX (em_int) (em_v (pv 1))) (em_v (pv 1))))) (em_int)))
    (sms_one (sm_ret (em_bin o_mod (em_bin o_fdiv (em_bin o_mod (em_bin o_mulX (em_v (pv 3)) (em_v (pv 3))) (em_int)) (em_int)) (em_v (pv 2)))))
theorem sc__law_names : FnScope ["cell", "some", "size", "at", "names", "j", "many", "here", "step", "k", "sign"] ["cell"] (defScope s__law_names) := ⟨rfl, rfl, rfl, by decide +kernel, rfl, by decide +kernel, by decide +kernel⟩
theorem ok__law_names (F : FunD K "_law_names" "_law_names" (defArgs s__law_names) (defBody s__law_names) (defScope s__law_names) [] [] f fd) (B : Blt mg) {f__law_draw : Fm} (A__law_draw : FnAt P w K mg base n "_law_draw" ["cell", "k", "many"] f__law_draw) :
    FnOk P w K mg base (L2.CX P w) (n + 1) f fd ["cell"] (spM K 1 (kNew.f (runM 1 11 (m__law_names f__law_draw)))) :=
  def_ok (N := ["cell", "some", "size", "at", "names", "j", "many", "here", "step", "k", "sign"]) kNew F sc__law_names fun cdv A outer s H E W hr tk =>
    sms_cons (sm_set (i := 1) sc__law_names.nd rfl (by first | exact Or.inl rfl | exact Or.inr rfl) (em_str))
    (sms_cons (sm_set (i := 2) sc__law_names.nd rfl (by first | exact Or.inl rfl | exact Or.inr rfl) (em_bin o_add (em_int) (em_call A__law_draw rfl hr tk rfl (am_cons (em_v (pv 0)) (am_cons (em_int) (am_cons (em_int) (am_nil)))))))
    (sms_cons (sm_set (i := 3) sc__law_names.nd rfl (by first | exact Or.inl rfl | exact Or.inr rfl) (em_call A__law_draw rfl hr tk rfl (am_cons (em_v (pv 0)) (am_cons (em_int) (am_cons (em_v (pv 2)) (am_nil))))))
    (sms_cons (sm_set (i := 4) sc__law_names.nd rfl (by first | exact Or.inl rfl | exact Or.inr rfl) (em_lst (am_cons (em_str) (am_cons (em_str) (am_cons (em_str) (am_cons (em_str) (am_nil)))))))
    (sms_cons (sm_for (passes_of rfl) rfl (im_rng1 (by rfl) B.z_range (am_cons (em_v (pv 2)) (am_nil))) (gm_name (i := 5) (pg_name (i := 5) sc__law_names.nd rfl (by first | exact Or.inl rfl | exact Or.inr rfl))) (sms_cons (sm_set (i := 6) sc__law_names.nd rfl (by first | exact Or.inl rfl | exact Or.inr rfl) (em_bin o_add (em_int) (em_bin o_mulX (em_int) (em_callTy c_int rfl B.z_int (by decide +kernel) (am_cons (em_cmp o_gt (em_v (pv 5)) (em_int) (nomark _)) (am_nil))))))
    (sms_cons (sm_set (i := 7) sc__law_names.nd rfl (by first | exact Or.inl rfl | exact Or.inr rfl) (em_call A__law_draw rfl hr tk rfl (am_cons (em_v (pv 0)) (am_cons (em_bin o_add (em_int) (em_v (pv 5))) (am_cons (em_v (pv 6)) (am_nil))))))
    (sms_cons (sm_set (i := 8) sc__law_names.nd rfl (by first | exact Or.inl rfl | exact Or.inr rfl) (em_callTy c_int rfl B.z_int (by decide +kernel) (am_cons (em_cmp (o_eq (hu195 hr)) (em_v (pv 5)) (em_v (pv 3)) (nomark _)) (am_nil))))
    (sms_one (sm_for (passes_of rfl) rfl (im_rng1 (by rfl) B.z_range (am_cons (em_int) (am_nil))) (gm_name (i := 9) (pg_name (i := 9) sc__law_names.nd rfl (by first | exact Or.inl rfl | exact Or.inr rfl))) (sms_cons (sm_set (i := 10) sc__law_names.nd rfl (by first | exact Or.inl rfl | exact Or.inr rfl) (em_ix (o_ix (hu1 hr)) (em_v (pv 1)) (em_bin o_mod (em_bin o_add (em_v (pv 7)) (em_bin o_mulX (em_v (pv 9)) (em_v (pv 8)))) (em_v (pv 6))) (fun _ _ => rfl)))
    (sms_one (sm_setIx (s_any (hu1 hr)) (em_bin o_add (em_ix (o_ix (hu1 hr)) (em_v (pv 4)) (em_v (pv 9)) (fun _ _ => rfl)) (em_v (pv 10))) (em_v (pv 4)) (em_v (pv 9)))))))))))
    (sms_one (sm_ret (em_v (pv 4))))))))
theorem sc__law_leaf : FnScope ["cell", "first", "names", "shares", "numbers"] ["cell", "first", "names", "shares"] (defScope s__law_leaf) := ⟨rfl, rfl, rfl, by decide +kernel, rfl, by decide +kernel, by decide +kernel⟩
theorem ok__law_leaf (F : FunD K "_law_leaf" "_law_leaf" (defArgs s__law_leaf) (defBody s__law_leaf) (defScope s__law_leaf) [] [] f fd) (B : Blt mg) {f__law_draw : Fm} (A__law_draw : FnAt P w K mg base n "_law_draw" ["cell", "k", "many"] f__law_draw) :
    FnOk P w K mg base (L2.CX P w) (n + 1) f fd ["cell", "first", "names", "shares"] (spM K 4 (kPure.f (runM 4 5 (m__law_leaf f__law_draw)))) :=
  def_ok (N := ["cell", "first", "names", "shares", "numbers"]) kPure F sc__law_leaf fun cdv A outer s H E W hr tk =>
    sms_cons (sm_if (tm_cmp o_lt (em_call A__law_draw rfl hr tk rfl (am_cons (em_v (pv 0)) (am_cons (em_int) (am_cons (em_int) (am_nil))))) (em_v (pv 3)) (nomark _)) (sms_cons (sm_set (i := 4) sc__law_leaf.nd rfl (by first | exact Or.inl rfl | exact Or.inr rfl) (em_lst (am_cons (em_int) (am_cons (em_int) (am_cons (em_int) (am_cons (em_bin o_pow (em_int) (em_int)) (am_cons (em_bin o_add (em_int) (em_bin o_mod (em_v (pv 1)) (em_bin o_pow (em_int) (em_int)))) (am_nil))))))))
    (sms_one (sm_ret (em_tup (am_cons (em_str) (am_cons (em_ix (o_ix (hu1 hr)) (em_v (pv 4)) (em_call A__law_draw rfl hr tk rfl (am_cons (em_v (pv 0)) (am_cons (em_int) (am_cons (em_int) (am_nil))))) (fun _ _ => rfl)) (am_nil))))))) (sms_nil))
    (sms_one (sm_ret (em_tup (am_cons (em_str) (am_cons (em_ix (o_ix (hu1 hr)) (em_v (pv 2)) (em_call A__law_draw rfl hr tk rfl (am_cons (em_v (pv 0)) (am_cons (em_int) (am_cons (em_int) (am_nil))))) (fun _ _ => rfl)) (am_cons (em_tup (am_nil)) (am_nil)))))))
theorem sc__law_tree : FnScope ["cells", "first", "shares", "names", "frames", "cell", "way", "top", "parts", "whole", "time"] ["cells", "first", "shares"] (defScope s__law_tree) := ⟨rfl, rfl, rfl, by decide +kernel, rfl, by decide +kernel, by decide +kernel⟩
theorem ok__law_tree (F : FunD K "_law_tree" "_law_tree" (defArgs s__law_tree) (defBody s__law_tree) (defScope s__law_tree) [] [] f fd) (B : Blt mg) {f__law_draw f__law_leaf f__law_names : Fm} (A__law_draw : FnAt P w K mg base n "_law_draw" ["cell", "k", "many"] f__law_draw) (A__law_leaf : FnAt P w K mg base n "_law_leaf" ["cell", "first", "names", "shares"] f__law_leaf) (A__law_names : FnAt P w K mg base n "_law_names" ["cell"] f__law_names) :
    FnOk P w K mg base (L2.CX P w) (n + 1) f fd ["cells", "first", "shares"] (spM K 3 (kPure.f (runM 3 11 (m__law_tree f__law_draw f__law_leaf f__law_names)))) :=
  def_ok (N := ["cells", "first", "shares", "names", "frames", "cell", "way", "top", "parts", "whole", "time"]) kPure F sc__law_tree fun cdv A outer s H E W hr tk =>
    sms_cons (sm_set (i := 3) sc__law_tree.nd rfl (by first | exact Or.inl rfl | exact Or.inr rfl) (em_call A__law_names rfl hr tk rfl (am_cons (em_v (pv 1)) (am_nil))))
    (sms_cons (sm_set (i := 4) sc__law_tree.nd rfl (by first | exact Or.inl rfl | exact Or.inr rfl) (em_lst (am_cons (em_tup (am_cons (em_ix (o_ix (hu1 hr)) (em_v (pv 3)) (em_int) (fun _ _ => rfl)) (am_cons (em_lst (am_nil)) (am_nil)))) (am_nil))))
    (sms_cons (sm_for (passes_of rfl) rfl (im_val rfl (em_slice rfl (em_v (pv 0)) (pm_no) (pm_some (em_int)))) (gm_name (i := 5) (pg_name (i := 5) sc__law_tree.nd rfl (by first | exact Or.inl rfl | exact Or.inr rfl))) (sms_cons (sm_set (i := 6) sc__law_tree.nd rfl (by first | exact Or.inl rfl | exact Or.inr rfl) (em_call A__law_draw rfl hr tk rfl (am_cons (em_v (pv 5)) (am_cons (em_int) (am_cons (em_int) (am_nil))))))
    (sms_one (sm_if (PW.pt (tm_or (tm_cmp (o_eq (hu195 hr)) (em_callB c_len rfl B.z_len (by decide +kernel) (am_cons (em_ix (o_ix (hu1 hr)) (em_ix (o_ix (hu1 hr)) (em_v (pv 4)) (em_neg (em_int)) (fun _ _ => rfl)) (em_int) (fun _ _ => rfl)) (am_nil))) (em_int) (nomark _)) (tm_or1 (PW.pt (tm_and (tm_cmp (o_eq (hu195 hr)) (em_v (pv 6)) (em_int) (nomark _)) (tm_and1 (tm_cmp o_gt (em_callB c_len rfl B.z_len (by decide +kernel) (am_cons (em_v (pv 4)) (am_nil))) (em_int) (nomark _)))))))) (sms_cons (sm_asg (em_bm0 rfl PySem.F.plainAttrs_list PySem.F.slot_list_pop PySem.F.type_list_pop k_pop (fun _ _ _ _ _ => ckList_ty) (em_v (pv 4))) (gm_tup rfl (gms_cons (gm_name (i := 7) (pg_name (i := 7) sc__law_tree.nd rfl (by first | exact Or.inl rfl | exact Or.inr rfl))) (gms_cons (gm_name (i := 8) (pg_name (i := 8) sc__law_tree.nd rfl (by first | exact Or.inl rfl | exact Or.inr rfl))) (gms_nil))) rfl))
    (sms_cons (sm_set (i := 9) sc__law_tree.nd rfl (by first | exact Or.inl rfl | exact Or.inr rfl) (em_tup (am_cons (em_str) (am_cons (em_v (pv 7)) (am_cons (em_callTy c_tuple rfl B.z_tuple (by decide +kernel) (am_cons (em_v (pv 8)) (am_nil))) (am_nil))))))
    (sms_one (sm_if (tm_cmp (o_eq (hu195 hr)) (em_v (pv 4)) (em_lst (am_nil)) (nomark _)) (sms_one (sm_expr (em_bm rfl PySem.F.plainAttrs_list PySem.F.slot_list_append PySem.F.type_list_append k_append (fun _ _ _ _ _ => ckList_ty) (em_v (pv 4)) (am_cons (em_tup (am_cons (em_ix (o_ix (hu1 hr)) (em_v (pv 3)) (em_call A__law_draw rfl hr tk rfl (am_cons (em_v (pv 5)) (am_cons (em_int) (am_cons (em_int) (am_nil))))) (fun _ _ => rfl)) (am_cons (em_lst (am_cons (em_v (pv 9)) (am_nil))) (am_nil)))) (am_nil))))) (sms_one (sm_expr (em_bm rfl PySem.F.plainAttrs_list PySem.F.slot_list_append PySem.F.type_list_append k_append (fun _ _ _ _ _ => ckList_ty) (em_ix (o_ix (hu1 hr)) (em_ix (o_ix (hu1 hr)) (em_v (pv 4)) (em_neg (em_int)) (fun _ _ => rfl)) (em_int) (fun _ _ => rfl)) (am_cons (em_v (pv 9)) (am_nil))))))))) (sms_one (sm_if (PW.pt (tm_and (tm_cmp o_lt (em_v (pv 6)) (em_int) (nomark _)) (tm_and1 (tm_cmp o_lt (em_callB c_len rfl B.z_len (by decide +kernel) (am_cons (em_v (pv 4)) (am_nil))) (em_int) (nomark _))))) (sms_one (sm_expr (em_bm rfl PySem.F.plainAttrs_list PySem.F.slot_list_append PySem.F.type_list_append k_append (fun _ _ _ _ _ => ckList_ty) (em_v (pv 4)) (am_cons (em_tup (am_cons (em_ix (o_ix (hu1 hr)) (em_v (pv 3)) (em_call A__law_draw rfl hr tk rfl (am_cons (em_v (pv 5)) (am_cons (em_int) (am_cons (em_int) (am_nil))))) (fun _ _ => rfl)) (am_cons (em_lst (am_nil)) (am_nil)))) (am_nil))))) (sms_one (sm_for (passes_of rfl) rfl (im_rng1 (by rfl) B.z_range (am_cons (em_callB (c_min2 rfl) rfl B.z_min (by decide +kernel) (am_cons (em_bin o_add (em_int) (em_call A__law_draw rfl hr tk rfl (am_cons (em_v (pv 5)) (am_cons (em_int) (am_cons (em_int) (am_nil)))))) (am_cons (em_bin o_sub (em_int) (em_callB c_len rfl B.z_len (by decide +kernel) (am_cons (em_ix (o_ix (hu1 hr)) (em_ix (o_ix (hu1 hr)) (em_v (pv 4)) (em_neg (em_int)) (fun _ _ => rfl)) (em_int) (fun _ _ => rfl)) (am_nil)))) (am_nil)))) (am_nil))) (gm_name (i := 10) (pg_name (i := 10) sc__law_tree.nd rfl (by first | exact Or.inl rfl | exact Or.inr rfl))) (sms_one (sm_expr (em_bm rfl PySem.F.plainAttrs_list PySem.F.slot_list_append PySem.F.type_list_append k_append (fun _ _ _ _ _ => ckList_ty) (em_ix (o_ix (hu1 hr)) (em_ix (o_ix (hu1 hr)) (em_v (pv 4)) (em_neg (em_int)) (fun _ _ => rfl)) (em_int) (fun _ _ => rfl)) (am_cons (em_call A__law_leaf rfl hr tk rfl (am_cons (em_bin o_add (em_v (pv 5)) (em_v (pv 10))) (am_cons (em_v (pv 1)) (am_cons (em_v (pv 3)) (am_cons (em_v (pv 2)) (am_nil)))))) (am_nil)))))))))))))
    (sms_cons (sm_while FUEL (passes_of rfl) (tm_cmp o_gt (em_callB c_len rfl B.z_len (by decide +kernel) (am_cons (em_v (pv 4)) (am_nil))) (em_int) (nomark _)) (sms_cons (sm_asg (em_bm0 rfl PySem.F.plainAttrs_list PySem.F.slot_list_pop PySem.F.type_list_pop k_pop (fun _ _ _ _ _ => ckList_ty) (em_v (pv 4))) (gm_tup rfl (gms_cons (gm_name (i := 7) (pg_name (i := 7) sc__law_tree.nd rfl (by first | exact Or.inl rfl | exact Or.inr rfl))) (gms_cons (gm_name (i := 8) (pg_name (i := 8) sc__law_tree.nd rfl (by first | exact Or.inl rfl | exact Or.inr rfl))) (gms_nil))) rfl))
    (sms_one (sm_expr (em_bm rfl PySem.F.plainAttrs_list PySem.F.slot_list_append PySem.F.type_list_append k_append (fun _ _ _ _ _ => ckList_ty) (em_ix (o_ix (hu1 hr)) (em_ix (o_ix (hu1 hr)) (em_v (pv 4)) (em_neg (em_int)) (fun _ _ => rfl)) (em_int) (fun _ _ => rfl)) (am_cons (em_tup (am_cons (em_str) (am_cons (em_v (pv 7)) (am_cons (em_callTy c_tuple rfl B.z_tuple (by decide +kernel) (am_cons (em_v (pv 8)) (am_nil))) (am_nil))))) (am_nil)))))))
    (sms_one (sm_ret (em_tup (am_cons (em_str) (am_cons (em_ix (o_ix (hu1 hr)) (em_ix (o_ix (hu1 hr)) (em_v (pv 4)) (em_int) (fun _ _ => rfl)) (em_int) (fun _ _ => rfl)) (am_cons (em_callTy c_tuple rfl B.z_tuple (by decide +kernel) (am_cons (em_ix (o_ix (hu1 hr)) (em_ix (o_ix (hu1 hr)) (em_v (pv 4)) (em_int) (fun _ _ => rfl)) (em_int) (fun _ _ => rfl)) (am_nil))) (am_nil))))))))))
theorem sc__law_great : FnScope ["cell", "names", "deep", "many", "tree", "left", "level", "leaves", "k"] ["cell", "names", "deep", "many"] (defScope s__law_great) := ⟨rfl, rfl, rfl, by decide +kernel, rfl, by decide +kernel, by decide +kernel⟩
theorem ok__law_great (F : FunD K "_law_great" "_law_great" (defArgs s__law_great) (defBody s__law_great) (defScope s__law_great) [] [] f fd) (B : Blt mg) {f__law_draw : Fm} (A__law_draw : FnAt P w K mg base n "_law_draw" ["cell", "k", "many"] f__law_draw) :
    FnOk P w K mg base (L2.CX P w) (n + 1) f fd ["cell", "names", "deep", "many"] (spM K 4 (kPure.f (runM 4 9 (m__law_great f__law_draw)))) :=
  def_ok (N := ["cell", "names", "deep", "many", "tree", "left", "level", "leaves", "k"]) kPure F sc__law_great fun cdv A outer s H E W hr tk =>
    sms_cons (sm_set (i := 4) sc__law_great.nd rfl (by first | exact Or.inl rfl | exact Or.inr rfl) (em_tup (am_cons (em_str) (am_cons (em_ix (o_ix (hu1 hr)) (em_v (pv 1)) (em_int) (fun _ _ => rfl)) (am_cons (em_tup (am_nil)) (am_nil))))))
    (sms_cons (sm_set (i := 5) sc__law_great.nd rfl (by first | exact Or.inl rfl | exact Or.inr rfl) (em_bin o_sub (em_v (pv 3)) (em_v (pv 2))))
    (sms_cons (sm_for (passes_of rfl) rfl (im_rng1 (by rfl) B.z_range (am_cons (em_bin o_sub (em_v (pv 2)) (em_int)) (am_nil))) (gm_name (i := 6) (pg_name (i := 6) sc__law_great.nd rfl (by first | exact Or.inl rfl | exact Or.inr rfl))) (sms_cons (sm_set (i := 7) sc__law_great.nd rfl (by first | exact Or.inl rfl | exact Or.inr rfl) (em_lst (am_nil)))
    (sms_cons (sm_for (passes_of rfl) rfl (im_rng1 (by rfl) B.z_range (am_cons (em_callB (c_max2 rfl) rfl B.z_max (by decide +kernel) (am_cons (em_int) (am_cons (em_callB (c_min2 rfl) rfl B.z_min (by decide +kernel) (am_cons (em_int) (am_cons (em_v (pv 5)) (am_nil)))) (am_nil)))) (am_nil))) (gm_name (i := 8) (pg_name (i := 8) sc__law_great.nd rfl (by first | exact Or.inl rfl | exact Or.inr rfl))) (sms_one (sm_expr (em_bm rfl PySem.F.plainAttrs_list PySem.F.slot_list_append PySem.F.type_list_append k_append (fun _ _ _ _ _ => ckList_ty) (em_v (pv 7)) (am_cons (em_tup (am_cons (em_str) (am_cons (em_bin o_sub (em_bin o_pow (em_int) (em_int)) (em_bin o_mulX (em_v (pv 8)) (em_call A__law_draw rfl hr tk rfl (am_cons (em_v (pv 0)) (am_cons (em_int) (am_cons (em_bin o_pow (em_int) (em_int)) (am_nil))))))) (am_nil)))) (am_nil))))))
    (sms_cons (sm_set (i := 5) sc__law_great.nd rfl (by first | exact Or.inl rfl | exact Or.inr rfl) (em_bin o_sub (em_v (pv 5)) (em_int)))
    (sms_cons (sm_if (tm_cmp (o_eq (hu195 hr)) (em_call A__law_draw rfl hr tk rfl (am_cons (em_v (pv 0)) (am_cons (em_bin o_add (em_int) (em_v (pv 6))) (am_cons (em_int) (am_nil))))) (em_int) (nomark _)) (sms_one (sm_set (i := 7) sc__law_great.nd rfl (by first | exact Or.inl rfl | exact Or.inr rfl) (em_bin o_add (em_v (pv 7)) (em_lst (am_cons (em_v (pv 4)) (am_nil)))))) (sms_one (sm_set (i := 7) sc__law_great.nd rfl (by first | exact Or.inl rfl | exact Or.inr rfl) (em_bin o_add (em_lst (am_cons (em_v (pv 4)) (am_nil))) (em_v (pv 7))))))
    (sms_one (sm_set (i := 4) sc__law_great.nd rfl (by first | exact Or.inl rfl | exact Or.inr rfl) (em_tup (am_cons (em_str) (am_cons (em_ix (o_ix (hu1 hr)) (em_v (pv 1)) (em_bin o_mod (em_v (pv 6)) (em_int)) (fun _ _ => rfl)) (am_cons (em_callTy c_tuple rfl B.z_tuple (by decide +kernel) (am_cons (em_v (pv 7)) (am_nil))) (am_nil))))))))))))
    (sms_one (sm_ret (em_v (pv 4))))))
theorem sc__law_text : FnScope ["tree", "text", "k"] ["tree"] (defScope s__law_text) := ⟨rfl, rfl, rfl, by decide +kernel, rfl, by decide +kernel, by decide +kernel⟩
theorem ok__law_text (F : FunD K "_law_text" "_law_text" (defArgs s__law_text) (defBody s__law_text) (defScope s__law_text) [] [] f fd) (B : Blt mg) {f__law_text : Fm} (A__law_text : FnAt P w K mg base n "_law_text" ["tree"] f__law_text) :
    FnOk P w K mg base (L2.CX P w) (n + 1) f fd ["tree"] (spM K 1 (kPure.f (runM 1 3 (m__law_text f__law_text)))) :=
  def_ok (N := ["tree", "text", "k"]) kPure F sc__law_text fun cdv A outer s H E W hr tk =>
    sms_cons (sm_if (tm_cmp (o_eq (hu195 hr)) (em_ix (o_ix (hu1 hr)) (em_v (pv 0)) (em_int) (fun _ _ => rfl)) (em_str) (nomark _)) (sms_one (sm_ret (em_bin o_add (em_str) (em_callTy c_str rfl B.z_str (by decide +kernel) (am_cons (em_ix (o_ix (hu1 hr)) (em_v (pv 0)) (em_int) (fun _ _ => rfl)) (am_nil)))))) (sms_nil))
    (sms_cons (sm_set (i := 1) sc__law_text.nd rfl (by first | exact Or.inl rfl | exact Or.inr rfl) (em_ix (o_ix (hu1 hr)) (em_v (pv 0)) (em_int) (fun _ _ => rfl)))
    (sms_cons (sm_for (passes_of rfl) rfl (im_rng1 (by rfl) B.z_range (am_cons (em_callB c_len rfl B.z_len (by decide +kernel) (am_cons (em_ix (o_ix (hu1 hr)) (em_v (pv 0)) (em_int) (fun _ _ => rfl)) (am_nil))) (am_nil))) (gm_name (i := 2) (pg_name (i := 2) sc__law_text.nd rfl (by first | exact Or.inl rfl | exact Or.inr rfl))) (sms_one (sm_set (i := 1) sc__law_text.nd rfl (by first | exact Or.inl rfl | exact Or.inr rfl) (em_bin o_add (em_bin o_add (em_v (pv 1)) (em_ix (o_ix (hu1 hr)) (em_str) (em_callTy c_int rfl B.z_int (by decide +kernel) (am_cons (em_cmp o_gt (em_v (pv 2)) (em_int) (nomark _)) (am_nil))) (fun _ _ => rfl))) (em_call A__law_text rfl hr tk rfl (am_cons (em_ix (o_ix (hu1 hr)) (em_ix (o_ix (hu1 hr)) (em_v (pv 0)) (em_int) (fun _ _ => rfl)) (em_v (pv 2)) (fun _ _ => rfl)) (am_nil)))))))
    (sms_cons (sm_if (tm_cmp o_gt (em_callB c_len rfl B.z_len (by decide +kernel) (am_cons (em_ix (o_ix (hu1 hr)) (em_v (pv 0)) (em_int) (fun _ _ => rfl)) (am_nil))) (em_int) (nomark _)) (sms_one (sm_ret (em_bin o_add (em_v (pv 1)) (em_str)))) (sms_nil))
    (sms_one (sm_ret (em_v (pv 1)))))))
theorem sc__law_begun : FnScope ["sign", "many", "counts"] ["sign", "many", "counts"] (defScope s__law_begun) := ⟨rfl, rfl, rfl, by decide +kernel, rfl, by decide +kernel, by decide +kernel⟩
theorem ok__law_begun (F : FunD K "_law_begun" "_law_begun" (defArgs s__law_begun) (defBody s__law_begun) (defScope s__law_begun) [] [] f fd) (B : Blt mg) :
    FnOk P w K mg base (L2.CX P w) (n + 1) f fd ["sign", "many", "counts"] (spM K 3 (kPure.f (runM 3 3 (m__law_begun)))) :=
  def_ok (N := ["sign", "many", "counts"]) kPure F sc__law_begun fun cdv A outer s H E W hr tk =>
    sms_cons (sm_if (tm_cmp (o_nin (hu195 hr)) (em_v (pv 0)) (em_str) rfl) (sms_one (sm_ret (em_str))) (sms_nil))
    (sms_cons (sm_if (PW.pt (tm_or (tm_cmp (o_eq (hu195 hr)) (em_v (pv 1)) (em_int) (nomark _)) (tm_or1 (tm_cmp o_ge (em_callB c_len rfl B.z_len (by decide +kernel) (am_cons (em_v (pv 2)) (am_nil))) (em_int) (nomark _))))) (sms_one (sm_ret (em_str))) (sms_nil))
    (sms_one (sm_ret (em_str))))
theorem sc__law_behind : FnScope ["sign", "counts"] ["sign", "counts"] (defScope s__law_behind) := ⟨rfl, rfl, rfl, by decide +kernel, rfl, by decide +kernel, by decide +kernel⟩
theorem ok__law_behind (F : FunD K "_law_behind" "_law_behind" (defArgs s__law_behind) (defBody s__law_behind) (defScope s__law_behind) [] [] f fd) (B : Blt mg) :
    FnOk P w K mg base (L2.CX P w) (n + 1) f fd ["sign", "counts"] (spM K 2 (kPure.f (runM 2 2 (m__law_behind)))) :=
  def_ok (N := ["sign", "counts"]) kPure F sc__law_behind fun cdv A outer s H E W hr tk =>
    sms_cons (sm_if (PW.pt (tm_or (tm_cmp (o_eq (hu195 hr)) (em_v (pv 1)) (em_lst (am_nil)) (nomark _)) (tm_or (tm_cmp (o_nin (hu195 hr)) (em_v (pv 0)) (em_str) rfl) (tm_or1 (PW.pt (tm_and (tm_cmp (o_eq (hu195 hr)) (em_v (pv 0)) (em_str) (nomark _)) (tm_and1 (tm_cmp (o_eq (hu195 hr)) (em_ix (o_ix (hu1 hr)) (em_v (pv 1)) (em_neg (em_int)) (fun _ _ => rfl)) (em_int) (nomark _))))))))) (sms_one (sm_ret (em_str))) (sms_nil))
    (sms_one (sm_ret (em_str)))
theorem sc__law_scan : FnScope ["text", "counts", "state", "size", "many", "sign", "bad"] ["text"] (defScope s__law_scan) := ⟨rfl, rfl, rfl, by decide +kernel, rfl, by decide +kernel, by decide +kernel⟩
theorem ok__law_scan (F : FunD K "_law_scan" "_law_scan" (defArgs s__law_scan) (defBody s__law_scan) (defScope s__law_scan) [] [] f fd) (B : Blt mg) {f__law_begun f__law_behind : Fm} (A__law_begun : FnAt P w K mg base n "_law_begun" ["sign", "many", "counts"] f__law_begun) (A__law_behind : FnAt P w K mg base n "_law_behind" ["sign", "counts"] f__law_behind) :
    FnOk P w K mg base (L2.CX P w) (n + 1) f fd ["text"] (spM K 1 (kPure.f (runM 1 7 (m__law_scan f__law_begun f__law_behind)))) :=
  def_ok (N := ["text", "counts", "state", "size", "many", "sign", "bad"]) kPure F sc__law_scan fun cdv A outer s H E W hr tk =>
    sms_cons (sm_set (i := 1) sc__law_scan.nd rfl (by first | exact Or.inl rfl | exact Or.inr rfl) (em_lst (am_nil)))
    (sms_cons (sm_set (i := 2) sc__law_scan.nd rfl (by first | exact Or.inl rfl | exact Or.inr rfl) (em_str))
    (sms_cons (sm_set (i := 3) sc__law_scan.nd rfl (by first | exact Or.inl rfl | exact Or.inr rfl) (em_int))
    (sms_cons (sm_set (i := 4) sc__law_scan.nd rfl (by first | exact Or.inl rfl | exact Or.inr rfl) (em_int))
    (sms_cons (sm_for (passes_of rfl) rfl (im_val rfl (em_v (pv 0))) (gm_name (i := 5) (pg_name (i := 5) sc__law_scan.nd rfl (by first | exact Or.inl rfl | exact Or.inr rfl))) (sms_cons (sm_set (i := 6) sc__law_scan.nd rfl (by first | exact Or.inl rfl | exact Or.inr rfl) (em_str))
    (sms_cons (sm_if (PW.pt (tm_and (tm_cmp (o_eq (hu195 hr)) (em_v (pv 2)) (em_str) (nomark _)) (tm_and1 (tm_cmp (o_in (hu195 hr)) (em_v (pv 5)) (em_str) rfl)))) (sms_cons (sm_set (i := 3) sc__law_scan.nd rfl (by first | exact Or.inl rfl | exact Or.inr rfl) (em_bin o_add (em_v (pv 3)) (em_int)))
    (sms_one (sm_if (tm_cmp o_gt (em_v (pv 3)) (em_int) (nomark _)) (sms_one (sm_ret (em_str))) (sms_nil)))) (sms_one (sm_if (PW.pt (tm_and (tm_cmp (o_eq (hu195 hr)) (em_v (pv 2)) (em_str) (nomark _)) (tm_and1 (tm_cmp (o_in (hu195 hr)) (em_v (pv 5)) (em_str) rfl)))) (sms_cons (sm_set (i := 3) sc__law_scan.nd rfl (by first | exact Or.inl rfl | exact Or.inr rfl) (em_bin o_add (em_bin o_mulX (em_v (pv 3)) (em_int)) (em_bm rfl PySem.F.plainAttrs_str PySem.F.slot_str_find PySem.F.type_str_find k_find (fun _ _ _ _ _ r _ c => ckStr_ty r c) (em_str) (am_cons (em_v (pv 5)) (am_nil)))))
    (sms_one (sm_if (PW.pt (tm_or (tm_cmp (o_eq (hu195 hr)) (em_v (pv 3)) (em_int) (nomark _)) (tm_or1 (tm_cmp o_gt (em_v (pv 3)) (em_bin o_pow (em_int) (em_int)) (nomark _))))) (sms_one (sm_ret (em_str))) (sms_nil)))) (sms_one (sm_if (tm_cmp (o_eq (hu195 hr)) (em_v (pv 2)) (em_str) (nomark _)) (sms_cons (sm_set (i := 6) sc__law_scan.nd rfl (by first | exact Or.inl rfl | exact Or.inr rfl) (em_call A__law_begun rfl hr tk rfl (am_cons (em_v (pv 5)) (am_cons (em_v (pv 4)) (am_cons (em_v (pv 1)) (am_nil))))))
    (sms_cons (sm_set (i := 4) sc__law_scan.nd rfl (by first | exact Or.inl rfl | exact Or.inr rfl) (em_bin o_add (em_v (pv 4)) (em_int)))
    (sms_cons (sm_set (i := 2) sc__law_scan.nd rfl (by first | exact Or.inl rfl | exact Or.inr rfl) (em_ix (o_ix (hu1 hr)) (em_lst (am_cons (em_str) (am_cons (em_str) (am_nil)))) (em_callTy c_int rfl B.z_int (by decide +kernel) (am_cons (em_cmp (o_eq (hu195 hr)) (em_v (pv 5)) (em_str) (nomark _)) (am_nil))) (fun _ _ => rfl)))
    (sms_one (sm_set (i := 3) sc__law_scan.nd rfl (by first | exact Or.inl rfl | exact Or.inr rfl) (em_callTy c_int rfl B.z_int (by decide +kernel) (am_cons (em_cmp (o_ne (hu195 hr)) (em_v (pv 5)) (em_str) (nomark _)) (am_nil)))))))) (sms_one (sm_if (PW.pt (tm_and (tm_cmp (o_eq (hu195 hr)) (em_v (pv 2)) (em_str) (nomark _)) (tm_and1 (tm_cmp (o_eq (hu195 hr)) (em_v (pv 5)) (em_str) (nomark _))))) (sms_cons (sm_expr (em_bm rfl PySem.F.plainAttrs_list PySem.F.slot_list_append PySem.F.type_list_append k_append (fun _ _ _ _ _ => ckList_ty) (em_v (pv 1)) (am_cons (em_int) (am_nil))))
    (sms_one (sm_set (i := 2) sc__law_scan.nd rfl (by first | exact Or.inl rfl | exact Or.inr rfl) (em_str)))) (sms_cons (sm_set (i := 6) sc__law_scan.nd rfl (by first | exact Or.inl rfl | exact Or.inr rfl) (em_call A__law_behind rfl hr tk rfl (am_cons (em_v (pv 5)) (am_cons (em_v (pv 1)) (am_nil)))))
    (sms_one (sm_if (PW.pt (tm_and (tm_cmp (o_eq (hu195 hr)) (em_v (pv 6)) (em_str) (nomark _)) (tm_and (tm_cmp o_gt (em_v (pv 3)) (em_int) (nomark _)) (tm_and1 (tm_cmp (o_eq (hu195 hr)) (em_v (pv 5)) (em_str) (nomark _)))))) (sms_cons (sm_setIx (s_any (hu1 hr)) (em_bin o_add (em_ix (o_ix (hu1 hr)) (em_v (pv 1)) (em_neg (em_int)) (fun _ _ => rfl)) (em_int)) (em_v (pv 1)) (em_neg (em_int)))
    (sms_one (sm_set (i := 2) sc__law_scan.nd rfl (by first | exact Or.inl rfl | exact Or.inr rfl) (em_str)))) (sms_one (sm_if (PW.pt (tm_and (tm_cmp (o_eq (hu195 hr)) (em_v (pv 6)) (em_str) (nomark _)) (tm_and1 (tm_cmp o_gt (em_v (pv 3)) (em_int) (nomark _))))) (sms_cons (sm_expr (em_bm0 rfl PySem.F.plainAttrs_list PySem.F.slot_list_pop PySem.F.type_list_pop k_pop (fun _ _ _ _ _ => ckList_ty) (em_v (pv 1))))
    (sms_one (sm_set (i := 2) sc__law_scan.nd rfl (by first | exact Or.inl rfl | exact Or.inr rfl) (em_str)))) (sms_nil)))))))))))))
    (sms_one (sm_if (PW.pt (tm_or (tm_cmp (o_ne (hu195 hr)) (em_v (pv 6)) (em_str) (nomark _)) (tm_or1 (PW.pt (tm_and (tm_cmp (o_eq (hu195 hr)) (em_v (pv 2)) (em_str) (nomark _)) (tm_and (tm_cmp (o_eq (hu195 hr)) (em_v (pv 3)) (em_int) (nomark _)) (tm_and1 (tm_cmp (o_ne (hu195 hr)) (em_v (pv 5)) (em_str) (nomark _))))))))) (sms_one (sm_ret (em_ix (o_ix (hu1 hr)) (em_lst (am_cons (em_v (pv 6)) (am_cons (em_str) (am_nil)))) (em_callTy c_int rfl B.z_int (by decide +kernel) (am_cons (em_cmp (o_eq (hu195 hr)) (em_v (pv 6)) (em_str) (nomark _)) (am_nil))) (fun _ _ => rfl)))) (sms_nil))))))
    (sms_one (sm_ret (em_ix (o_ix (hu1 hr)) (em_lst (am_cons (em_str) (am_cons (em_str) (am_nil)))) (em_callTy c_int rfl B.z_int (by decide +kernel) (am_cons (em_or (em_cmp (o_ne (hu195 hr)) (em_v (pv 1)) (em_lst (am_nil)) (nomark _)) (em_or (em_cmp (o_eq (hu195 hr)) (em_v (pv 2)) (em_str) (nomark _)) (em_one (em_cmp (o_eq (hu195 hr)) (em_v (pv 3)) (em_int) (nomark _))))) (am_nil))) (fun _ _ => rfl))))))))
theorem sc__law_spoiled : FnScope ["text", "cells", "first", "left", "cell", "some", "sign", "at", "way"] ["text", "cells", "first"] (defScope s__law_spoiled) := ⟨rfl, rfl, rfl, by decide +kernel, rfl, by decide +kernel, by decide +kernel⟩
theorem ok__law_spoiled (F : FunD K "_law_spoiled" "_law_spoiled" (defArgs s__law_spoiled) (defBody s__law_spoiled) (defScope s__law_spoiled) [] [] f fd) (B : Blt mg) {f__law_draw : Fm} (A__law_draw : FnAt P w K mg base n "_law_draw" ["cell", "k", "many"] f__law_draw) :
    FnOk P w K mg base (L2.CX P w) (n + 1) f fd ["text", "cells", "first"] (spM K 3 (kPure.f (runM 3 9 (m__law_spoiled f__law_draw)))) :=
  def_ok (N := ["text", "cells", "first", "left", "cell", "some", "sign", "at", "way"]) kPure F sc__law_spoiled fun cdv A outer s H E W hr tk =>
    sms_cons (sm_set (i := 3) sc__law_spoiled.nd rfl (by first | exact Or.inl rfl | exact Or.inr rfl) (em_call A__law_draw rfl hr tk rfl (am_cons (em_v (pv 2)) (am_cons (em_int) (am_cons (em_int) (am_nil))))))
    (sms_cons (sm_for (passes_of rfl) rfl (im_val rfl (em_slice rfl (em_v (pv 1)) (pm_no) (pm_some (em_v (pv 3))))) (gm_name (i := 4) (pg_name (i := 4) sc__law_spoiled.nd rfl (by first | exact Or.inl rfl | exact Or.inr rfl))) (sms_cons (sm_set (i := 5) sc__law_spoiled.nd rfl (by first | exact Or.inl rfl | exact Or.inr rfl) (em_str))
    (sms_cons (sm_set (i := 6) sc__law_spoiled.nd rfl (by first | exact Or.inl rfl | exact Or.inr rfl) (em_ix (o_ix (hu1 hr)) (em_v (pv 5)) (em_call A__law_draw rfl hr tk rfl (am_cons (em_v (pv 4)) (am_cons (em_int) (am_cons (em_callB c_len rfl B.z_len (by decide +kernel) (am_cons (em_v (pv 5)) (am_nil))) (am_nil))))) (fun _ _ => rfl)))
    (sms_cons (sm_set (i := 7) sc__law_spoiled.nd rfl (by first | exact Or.inl rfl | exact Or.inr rfl) (em_call A__law_draw rfl hr tk rfl (am_cons (em_v (pv 4)) (am_cons (em_int) (am_cons (em_bin o_add (em_callB c_len rfl B.z_len (by decide +kernel) (am_cons (em_v (pv 0)) (am_nil))) (em_int)) (am_nil))))))
    (sms_cons (sm_set (i := 8) sc__law_spoiled.nd rfl (by first | exact Or.inl rfl | exact Or.inr rfl) (em_call A__law_draw rfl hr tk rfl (am_cons (em_v (pv 4)) (am_cons (em_int) (am_cons (em_int) (am_nil))))))
    (sms_one (sm_if (tm_cmp (o_eq (hu195 hr)) (em_v (pv 8)) (em_int) (nomark _)) (sms_one (sm_set (i := 0) sc__law_spoiled.nd rfl (by first | exact Or.inl rfl | exact Or.inr rfl) (em_bin o_add (em_bin o_add (em_slice rfl (em_v (pv 0)) (pm_no) (pm_some (em_v (pv 7)))) (em_v (pv 6))) (em_slice rfl (em_v (pv 0)) (pm_some (em_v (pv 7))) (pm_no))))) (sms_one (sm_if (tm_cmp (o_eq (hu195 hr)) (em_v (pv 8)) (em_int) (nomark _)) (sms_one (sm_set (i := 0) sc__law_spoiled.nd rfl (by first | exact Or.inl rfl | exact Or.inr rfl) (em_bin o_add (em_slice rfl (em_v (pv 0)) (pm_no) (pm_some (em_v (pv 7)))) (em_slice rfl (em_v (pv 0)) (pm_some (em_bin o_add (em_v (pv 7)) (em_int))) (pm_no))))) (sms_one (sm_set (i := 0) sc__law_spoiled.nd rfl (by first | exact Or.inl rfl | exact Or.inr rfl) (em_bin o_add (em_bin o_add (em_slice rfl (em_v (pv 0)) (pm_no) (pm_some (em_v (pv 7)))) (em_v (pv 6))) (em_slice rfl (em_v (pv 0)) (pm_some (em_bin o_add (em_v (pv 7)) (em_int))) (pm_no))))))))))))))
    (sms_one (sm_ret (em_v (pv 0)))))
theorem sc__law_odd_leaf : FnScope ["text", "cell", "n", "deep", "some", "spots", "k", "at"] ["text", "cell"] (defScope s__law_odd_leaf) := ⟨rfl, rfl, rfl, by decide +kernel, rfl, by decide +kernel, by decide +kernel⟩
theorem ok__law_odd_leaf (F : FunD K "_law_odd_leaf" "_law_odd_leaf" (defArgs s__law_odd_leaf) (defBody s__law_odd_leaf) (defScope s__law_odd_leaf) [] [] f fd) (B : Blt mg) {f__law_draw : Fm} (A__law_draw : FnAt P w K mg base n "_law_draw" ["cell", "k", "many"] f__law_draw) :
    FnOk P w K mg base (L2.CX P w) (n + 1) f fd ["text", "cell"] (spM K 2 (kPure.f (runM 2 8 (m__law_odd_leaf f__law_draw)))) :=
  def_ok (N := ["text", "cell", "n", "deep", "some", "spots", "k", "at"]) kPure F sc__law_odd_leaf fun cdv A outer s H E W hr tk =>
    sms_cons (sm_set (i := 2) sc__law_odd_leaf.nd rfl (by first | exact Or.inl rfl | exact Or.inr rfl) (em_call A__law_draw rfl hr tk rfl (am_cons (em_v (pv 1)) (am_cons (em_int) (am_cons (em_bin o_pow (em_int) (em_int)) (am_nil))))))
    (sms_cons (sm_if (tm_cmp (o_eq (hu195 hr)) (em_call A__law_draw rfl hr tk rfl (am_cons (em_v (pv 1)) (am_cons (em_int) (am_cons (em_int) (am_nil))))) (em_int) (nomark _)) (sms_cons (sm_set (i := 3) sc__law_odd_leaf.nd rfl (by first | exact Or.inl rfl | exact Or.inr rfl) (em_bin o_add (em_int) (em_bin o_mod (em_v (pv 2)) (em_int))))
    (sms_one (sm_ret (em_bin o_add (em_bin o_add (em_bin o_mulX (em_str) (em_v (pv 3))) (em_str)) (em_bin o_mulX (em_str) (em_bin o_sub (em_v (pv 3)) (em_bin o_mod (em_bin o_fdiv (em_v (pv 2)) (em_int)) (em_int)))))))) (sms_nil))
    (sms_cons (sm_set (i := 4) sc__law_odd_leaf.nd rfl (by first | exact Or.inl rfl | exact Or.inr rfl) (em_lst (am_cons (em_bin o_add (em_str) (em_callTy c_str rfl B.z_str (by decide +kernel) (am_cons (em_v (pv 2)) (am_nil)))) (am_cons (em_bin o_add (em_str) (em_callTy c_str rfl B.z_str (by decide +kernel) (am_cons (em_bin o_add (em_bin o_add (em_bin o_pow (em_int) (em_int)) (em_int)) (em_v (pv 2))) (am_nil)))) (am_cons (em_bin o_add (em_str) (em_callTy c_str rfl B.z_str (by decide +kernel) (am_cons (em_bin o_sub (em_bin o_pow (em_int) (em_int)) (em_v (pv 2))) (am_nil)))) (am_cons (em_bin o_add (em_bin o_mulX (em_str) (em_int)) (em_ix (o_ix (hu1 hr)) (em_str) (em_bin o_mod (em_v (pv 2)) (em_int)) (fun _ _ => rfl))) (am_nil)))))))
    (sms_cons (sm_set (i := 4) sc__law_odd_leaf.nd rfl (by first | exact Or.inl rfl | exact Or.inr rfl) (em_bin o_add (em_v (pv 4)) (em_lst (am_cons (em_bin o_add (em_bin o_mulX (em_str) (em_int)) (em_ix (o_ix (hu1 hr)) (em_str) (em_bin o_mod (em_v (pv 2)) (em_int)) (fun _ _ => rfl))) (am_cons (em_str) (am_cons (em_str) (am_cons (em_str) (am_cons (em_str) (am_cons (em_str) (am_cons (em_str) (am_cons (em_str) (am_nil))))))))))))
    (sms_cons (sm_set (i := 5) sc__law_odd_leaf.nd rfl (by first | exact Or.inl rfl | exact Or.inr rfl) (em_bin o_add (em_lst (am_cons (em_int) (am_nil))) (em_lc (own := [("k", 6)]) rfl sc__law_odd_leaf.nd (im_rng1 (by rfl) B.z_range (am_cons (em_callB c_len rfl B.z_len (by decide +kernel) (am_cons (em_v (pv 0)) (am_nil))) (am_nil))) (blkOk_by (own := [("k", 6)]) (N := ["text", "cell", "n", "deep", "some", "spots", "k", "at"]) (sc := defScope s__law_odd_leaf) (by decide +kernel)) (ct_name _ 6) (fun _ _ _ _ _ => pg_name (i := 6) sc__law_odd_leaf.nd rfl (Or.inl rfl)) (fun _ _ _ _ _ => tms_one (tm_cmp (o_in (hu195 hr)) (em_ix (o_ix (hu1 hr)) (em_v (pv 0)) (em_v (pv 6)) (fun _ _ => rfl)) (em_str) rfl)) (fun _ _ _ _ _ => em_bin o_add (em_v (pv 6)) (em_int)))))
    (sms_cons (sm_set (i := 7) sc__law_odd_leaf.nd rfl (by first | exact Or.inl rfl | exact Or.inr rfl) (em_ix (o_ix (hu1 hr)) (em_v (pv 5)) (em_call A__law_draw rfl hr tk rfl (am_cons (em_v (pv 1)) (am_cons (em_int) (am_cons (em_callB c_len rfl B.z_len (by decide +kernel) (am_cons (em_v (pv 5)) (am_nil))) (am_nil))))) (fun _ _ => rfl)))
    (sms_one (sm_ret (em_bin o_add (em_bin o_add (em_bin o_add (em_slice rfl (em_v (pv 0)) (pm_no) (pm_some (em_v (pv 7)))) (em_ix (o_ix (hu1 hr)) (em_v (pv 4)) (em_call A__law_draw rfl hr tk rfl (am_cons (em_v (pv 1)) (am_cons (em_int) (am_cons (em_callB c_len rfl B.z_len (by decide +kernel) (am_cons (em_v (pv 4)) (am_nil))) (am_nil))))) (fun _ _ => rfl))) (em_str)) (em_slice rfl (em_v (pv 0)) (pm_some (em_v (pv 7))) (pm_no))))))))))
theorem sc__law_is_tree : FnScope ["tree", "part"] ["tree"] (defScope s__law_is_tree) := ⟨rfl, rfl, rfl, by decide +kernel, rfl, by decide +kernel, by decide +kernel⟩
theorem ok__law_is_tree (F : FunD K "_law_is_tree" "_law_is_tree" (defArgs s__law_is_tree) (defBody s__law_is_tree) (defScope s__law_is_tree) [] [] f fd) (B : Blt mg) {f__law_is_tree : Fm} (A__law_is_tree : FnAt P w K mg base n "_law_is_tree" ["tree"] f__law_is_tree) :
    FnOk P w K mg base (L2.CX P w) (n + 1) f fd ["tree"] (spM K 1 (kPure.f (runM 1 2 (m__law_is_tree f__law_is_tree)))) :=
  def_ok (N := ["tree", "part"]) kPure F sc__law_is_tree fun cdv A outer s H E W hr tk =>
    sms_cons (sm_if (PW.pt (tm_or (tm_not (tm_tru (em_isi (T := "tuple") rfl (by decide) rfl B.z_isinstance rfl B.z_tuple (by decide +kernel) (em_v (pv 0))) rfl)) (tm_or1 (tm_cmp o_lt (em_callB c_len rfl B.z_len (by decide +kernel) (am_cons (em_v (pv 0)) (am_nil))) (em_int) (nomark _))))) (sms_one (sm_ret (em_bl))) (sms_nil))
    (sms_cons (sm_if (tm_cmp (o_eq (hu195 hr)) (em_ix (o_ix (hu1 hr)) (em_v (pv 0)) (em_int) (fun _ _ => rfl)) (em_str) (nomark _)) (sms_one (sm_ret (em_and (em_cmp (o_eq (hu195 hr)) (em_callB c_len rfl B.z_len (by decide +kernel) (am_cons (em_v (pv 0)) (am_nil))) (em_int) (nomark _)) (em_and (em_isi (T := "int") rfl (by decide) rfl B.z_isinstance rfl B.z_int (by decide +kernel) (em_ix (o_ix (hu1 hr)) (em_v (pv 0)) (em_int) (fun _ _ => rfl))) (em_one (em_not (em_isi (T := "bool") rfl (by decide) rfl B.z_isinstance rfl B.z_bool (by decide +kernel) (em_ix (o_ix (hu1 hr)) (em_v (pv 0)) (em_int) (fun _ _ => rfl))))))))) (sms_nil))
    (sms_cons (sm_if (PW.pt (tm_or (tm_cmp (o_ne (hu195 hr)) (em_ix (o_ix (hu1 hr)) (em_v (pv 0)) (em_int) (fun _ _ => rfl)) (em_str) (nomark _)) (tm_or (tm_cmp (o_ne (hu195 hr)) (em_callB c_len rfl B.z_len (by decide +kernel) (am_cons (em_v (pv 0)) (am_nil))) (em_int) (nomark _)) (tm_or (tm_not (tm_tru (em_isi (T := "str") rfl (by decide) rfl B.z_isinstance rfl B.z_str (by decide +kernel) (em_ix (o_ix (hu1 hr)) (em_v (pv 0)) (em_int) (fun _ _ => rfl))) rfl)) (tm_or1 (tm_not (tm_tru (em_isi (T := "tuple") rfl (by decide) rfl B.z_isinstance rfl B.z_tuple (by decide +kernel) (em_ix (o_ix (hu1 hr)) (em_v (pv 0)) (em_int) (fun _ _ => rfl))) rfl))))))) (sms_one (sm_ret (em_bl))) (sms_nil))
    (sms_one (sm_ret (em_cmp (o_eq (hu195 hr)) (em_lc (own := [("part", 1)]) rfl sc__law_is_tree.nd (im_val rfl (em_ix (o_ix (hu1 hr)) (em_v (pv 0)) (em_int) (fun _ _ => rfl))) (blkOk_by (own := [("part", 1)]) (N := ["tree", "part"]) (sc := defScope s__law_is_tree) (by decide +kernel)) (ct_name _ 1) (fun _ _ _ _ _ => pg_name (i := 1) sc__law_is_tree.nd rfl (Or.inl rfl)) (fun _ _ _ _ _ => tms_one (tm_not (tm_tru (em_call A__law_is_tree rfl hr takes0 rfl (am_cons (em_v (pv 1)) (am_nil))) rfl))) (fun _ _ _ _ _ => em_v (pv 1))) (em_lst (am_nil)) (nomark _))))))
theorem sc__law_refusal_x : FnScope ["text", "which", "e"] ["text"] (defScope s__law_refusal) := ⟨rfl, rfl, rfl, by decide +kernel, rfl, by decide +kernel, by decide +kernel⟩
theorem ok__law_refusal_x (F : FunD K "_law_refusal" "_law_refusal" (defArgs s__law_refusal) (defBody s__law_refusal) (defScope s__law_refusal) [] [] f fd) (B : Blt mg) (g_FormError : mg "FormError" = some (.ref (He.ga K "FormError"))) (g_Twice : mg "Twice" = some (.ref (He.ga K "Twice"))) (g_NoForm : mg "NoForm" = some (.ref (He.ga K "NoForm"))) (g_NoPlace : mg "NoPlace" = some (.ref (He.ga K "NoPlace"))) (g_BadPaper : mg "BadPaper" = some (.ref (He.ga K "BadPaper"))) (g_BadName : mg "BadName" = some (.ref (He.ga K "BadName"))) (g_TooLong : mg "TooLong" = some (.ref (He.ga K "TooLong"))) (g_BadText : mg "BadText" = some (.ref (He.ga K "BadText"))) (e_FormError : ExmOk K (.ref (He.ga K "FormError")) [("FormError", true), ("NoPlace", true), ("BadText", true), ("TooLong", true), ("BadPaper", true), ("BadName", true), ("Twice", true), ("NoForm", true)]) (t_Twice : TabOk K (.ref (He.ga K "Twice")) [("FormError", false), ("NoPlace", false), ("BadText", false), ("TooLong", false), ("BadPaper", false), ("BadName", false), ("Twice", true), ("NoForm", false)]) (t_NoForm : TabOk K (.ref (He.ga K "NoForm")) [("FormError", false), ("NoPlace", false), ("BadText", false), ("TooLong", false), ("BadPaper", false), ("BadName", false), ("Twice", false), ("NoForm", true)]) (t_NoPlace : TabOk K (.ref (He.ga K "NoPlace")) [("FormError", false), ("NoPlace", true), ("BadText", false), ("TooLong", false), ("BadPaper", false), ("BadName", false), ("Twice", false), ("NoForm", false)]) (t_BadPaper : TabOk K (.ref (He.ga K "BadPaper")) [("FormError", false), ("NoPlace", false), ("BadText", false), ("TooLong", false), ("BadPaper", true), ("BadName", false), ("Twice", false), ("NoForm", false)]) (t_BadName : TabOk K (.ref (He.ga K "BadName")) [("FormError", false), ("NoPlace", false), ("BadText", false), ("TooLong", false), ("BadPaper", false), ("BadName", true), ("Twice", false), ("NoForm", false)]) (z_ValueError : mg "ValueError" = none) (t_ValueError : TabOk K (.type "ValueError") [("FormError", true), ("NoPlace", true), ("BadText", true), ("TooLong", true), ("BadPaper", true), ("BadName", true), ("Twice", true), ("NoForm", true)]) (t_TooLong : TabOk K (.ref (He.ga K "TooLong")) [("FormError", false), ("NoPlace", false), ("BadText", false), ("TooLong", true), ("BadPaper", false), ("BadName", false), ("Twice", false), ("NoForm", false)]) (t_BadText : TabOk K (.ref (He.ga K "BadText")) [("FormError", false), ("NoPlace", false), ("BadText", true), ("TooLong", false), ("BadPaper", false), ("BadName", false), ("Twice", false), ("NoForm", false)]) {f_read : Fm} (A_read : FnAt P w K mg base n "read" ["text"] f_read) :
    FnOk P w K mg base (L2.CX P w) (n + 1) f fd ["text"] (spM K 1 (kNew.f (runM 1 3 (m__law_refusal_x f_read)))) :=
  def_ok (N := ["text", "which", "e"]) kNew F sc__law_refusal_x fun cdv A outer s H E W hr tk =>
    sms_cons (sm_set (i := 1) sc__law_refusal_x.nd rfl (by first | exact Or.inl rfl | exact Or.inr rfl) (em_lst (am_nil)))
    (sms_cons (sm_try (oi := (some 2)) rfl rfl rfl sc__law_refusal_x.nd ⟨rfl, rfl⟩ ⟨rfl, by decide, .inl g_FormError⟩ tk rfl e_FormError (fun W pn xe tk1 hp1 => sms_one (sm_expr (em_call A_read rfl hr tk1 rfl (am_cons (em_v (pv 0)) (am_nil))))) (fun a pn => sms_cons (sm_set (i := 1) sc__law_refusal_x.nd rfl (by first | exact Or.inl rfl | exact Or.inr rfl) (em_lst (am_cons (em_isx rfl rfl B.z_isinstance rfl g_BadText t_BadText (em_v (pv 2))) (am_cons (em_isx rfl rfl B.z_isinstance rfl g_TooLong t_TooLong (em_v (pv 2))) (am_cons (em_isxB (T := "ValueError") rfl rfl B.z_isinstance rfl z_ValueError (by decide +kernel) t_ValueError (em_v (pv 2))) (am_nil))))))
    (sms_cons (sm_set (i := 1) sc__law_refusal_x.nd rfl (by first | exact Or.inl rfl | exact Or.inr rfl) (em_bin o_add (em_v (pv 1)) (em_lst (am_cons (em_or (em_isx rfl rfl B.z_isinstance rfl g_NoPlace t_NoPlace (em_v (pv 2))) (em_or (em_isx rfl rfl B.z_isinstance rfl g_BadPaper t_BadPaper (em_v (pv 2))) (em_one (em_isx rfl rfl B.z_isinstance rfl g_BadName t_BadName (em_v (pv 2)))))) (am_nil)))))
    (sms_one (sm_set (i := 1) sc__law_refusal_x.nd rfl (by first | exact Or.inl rfl | exact Or.inr rfl) (em_bin o_add (em_v (pv 1)) (em_lst (am_cons (em_or (em_isx rfl rfl B.z_isinstance rfl g_Twice t_Twice (em_v (pv 2))) (em_one (em_isx rfl rfl B.z_isinstance rfl g_NoForm t_NoForm (em_v (pv 2))))) (am_nil)))))))))
    (sms_one (sm_ret (em_v (pv 1)))))
theorem sc_law_k11x : FnScope ["script", "first", "tree", "text", "due", "which", "found"] ["script"] (defScope s_law) := ⟨rfl, rfl, rfl, by decide +kernel, rfl, by decide +kernel, by decide +kernel⟩
theorem ok_law_k11x (F : FunD K "law" "law" (defArgs s_law) (defBody s_law) (defScope s_law) [] [] f fd) (B : Blt mg) {f__law_is_tree f__law_text f_read f__law_refusal f__law_scan f__law_spoiled f__law_draw f__law_cell_at f__law_odd_leaf f__law_names f__law_great f__law_tree : Fm} (A__law_is_tree : FnAt P w K mg base n "_law_is_tree" ["tree"] f__law_is_tree) (A__law_text : FnAt P w K mg base n "_law_text" ["tree"] f__law_text) (A_read : FnAt P w K mg base n "read" ["text"] f_read) (A__law_refusal : FnAt P w K mg base n "_law_refusal" ["text"] f__law_refusal) (A__law_scan : FnAt P w K mg base n "_law_scan" ["text"] f__law_scan) (A__law_spoiled : FnAt P w K mg base n "_law_spoiled" ["text", "cells", "first"] f__law_spoiled) (A__law_draw : FnAt P w K mg base n "_law_draw" ["cell", "k", "many"] f__law_draw) (A__law_cell_at : FnAt P w K mg base n "_law_cell_at" ["script", "k"] f__law_cell_at) (A__law_odd_leaf : FnAt P w K mg base n "_law_odd_leaf" ["text", "cell"] f__law_odd_leaf) (A__law_names : FnAt P w K mg base n "_law_names" ["cell"] f__law_names) (A__law_great : FnAt P w K mg base n "_law_great" ["cell", "names", "deep", "many"] f__law_great) (A__law_tree : FnAt P w K mg base n "_law_tree" ["cells", "first", "shares"] f__law_tree) :
    FnOk P w K mg base (L2.CX P w) (n + 1) f fd ["script"] (spM K 1 (kPure.f (runM 1 7 (m_law_k11x f__law_is_tree f__law_text f_read f__law_refusal f__law_scan f__law_spoiled f__law_draw f__law_cell_at f__law_odd_leaf f__law_names f__law_great f__law_tree)))) :=
  def_ok (N := ["script", "first", "tree", "text", "due", "which", "found"]) kPure F sc_law_k11x fun cdv A outer s H E W hr tk =>
    sms_cons (sm_set (i := 1) sc_law_k11x.nd rfl (by first | exact Or.inl rfl | exact Or.inr rfl) (em_call A__law_cell_at rfl hr tk rfl (am_cons (em_v (pv 0)) (am_cons (em_int) (am_nil)))))
    (sms_cons (sm_set (i := 2) sc_law_k11x.nd rfl (by first | exact Or.inl rfl | exact Or.inr rfl) (em_call A__law_tree rfl hr tk rfl (am_cons (em_slice rfl (em_v (pv 0)) (pm_some (em_int)) (pm_no)) (am_cons (em_v (pv 1)) (am_cons (em_call A__law_draw rfl hr tk rfl (am_cons (em_v (pv 1)) (am_cons (em_int) (am_cons (em_int) (am_nil))))) (am_nil))))))
    (sms_cons (sm_if (tm_cmp (o_eq (hu195 hr)) (em_call A__law_draw rfl hr tk rfl (am_cons (em_v (pv 1)) (am_cons (em_int) (am_cons (em_int) (am_nil))))) (em_int) (nomark _)) (sms_one (sm_set (i := 2) sc_law_k11x.nd rfl (by first | exact Or.inl rfl | exact Or.inr rfl) (em_call A__law_great rfl hr tk rfl (am_cons (em_v (pv 1)) (am_cons (em_call A__law_names rfl hr tk rfl (am_cons (em_v (pv 1)) (am_nil))) (am_cons (em_bin o_add (em_int) (em_call A__law_draw rfl hr tk rfl (am_cons (em_v (pv 1)) (am_cons (em_int) (am_cons (em_int) (am_nil)))))) (am_cons (em_bin o_add (em_int) (em_call A__law_draw rfl hr tk rfl (am_cons (em_v (pv 1)) (am_cons (em_int) (am_cons (em_int) (am_nil)))))) (am_nil)))))))) (sms_nil))
    (sms_cons (sm_set (i := 3) sc_law_k11x.nd rfl (by first | exact Or.inl rfl | exact Or.inr rfl) (em_call A__law_text rfl hr tk rfl (am_cons (em_v (pv 2)) (am_nil))))
    (sms_cons (sm_if (tm_cmp (o_eq (hu195 hr)) (em_call A__law_draw rfl hr tk rfl (am_cons (em_v (pv 1)) (am_cons (em_int) (am_cons (em_int) (am_nil))))) (em_int) (nomark _)) (sms_one (sm_set (i := 3) sc_law_k11x.nd rfl (by first | exact Or.inl rfl | exact Or.inr rfl) (em_call A__law_odd_leaf rfl hr tk rfl (am_cons (em_v (pv 3)) (am_cons (em_call A__law_cell_at rfl hr tk rfl (am_cons (em_v (pv 0)) (am_cons (em_int) (am_nil)))) (am_nil)))))) (sms_nil))
    (sms_cons (sm_set (i := 3) sc_law_k11x.nd rfl (by first | exact Or.inl rfl | exact Or.inr rfl) (em_call A__law_spoiled rfl hr tk rfl (am_cons (em_v (pv 3)) (am_cons (em_slice rfl (em_v (pv 0)) (pm_some (em_int)) (pm_no)) (am_cons (em_v (pv 1)) (am_nil))))))
    (sms_cons (sm_set (i := 4) sc_law_k11x.nd rfl (by first | exact Or.inl rfl | exact Or.inr rfl) (em_call A__law_scan rfl hr tk rfl (am_cons (em_v (pv 3)) (am_nil))))
    (sms_cons (sm_set (i := 5) sc_law_k11x.nd rfl (by first | exact Or.inl rfl | exact Or.inr rfl) (em_call A__law_refusal rfl hr tk rfl (am_cons (em_v (pv 3)) (am_nil))))
    (sms_cons (sm_if (tm_cmp (o_ne (hu195 hr)) (em_v (pv 4)) (em_str) (nomark _)) (sms_one (sm_ret (em_cmp (o_eq (hu195 hr)) (em_v (pv 5)) (em_lst (am_cons (em_cmp (o_eq (hu195 hr)) (em_v (pv 4)) (em_str) (nomark _)) (am_cons (em_cmp (o_eq (hu195 hr)) (em_v (pv 4)) (em_str) (nomark _)) (am_cons (em_bl) (am_cons (em_bl) (am_cons (em_bl) (am_nil))))))) (nomark _)))) (sms_nil))
    (sms_cons (sm_if (tm_cmp (o_ne (hu195 hr)) (em_v (pv 5)) (em_lst (am_nil)) (nomark _)) (sms_one (sm_ret (em_bl))) (sms_nil))
    (sms_cons (sm_set (i := 6) sc_law_k11x.nd rfl (by first | exact Or.inl rfl | exact Or.inr rfl) (em_call A_read rfl hr tk rfl (am_cons (em_v (pv 3)) (am_nil))))
    (sms_one (sm_ret (em_and (em_call A__law_is_tree rfl hr tk rfl (am_cons (em_v (pv 6)) (am_nil))) (em_one (em_cmp (o_eq (hu195 hr)) (em_call A__law_text rfl hr tk rfl (am_cons (em_v (pv 6)) (am_nil))) (em_v (pv 3)) (nomark _))))))))))))))))
end
section
variable {P : Program} {w : World} {K : PySem.W.Frag} {mg : Str → Option Value} {h : Heap} (X : K.In h) (G : h.Ns mainGlobals mg) (c : SaysX fa fn K)
include X G c
theorem blt : Blt mg := ⟨He.free_ok X G (c.fact 25 (f := .free "len") rfl), He.free_ok X G (c.fact 26 (f := .free "range") rfl), He.free_ok X G (c.fact 27 (f := .free "int") rfl), He.free_ok X G (c.fact 28 (f := .free "str") rfl), He.free_ok X G (c.fact 29 (f := .free "sum") rfl), He.free_ok X G (c.fact 30 (f := .free "max") rfl), He.free_ok X G (c.fact 31 (f := .free "min") rfl), He.free_ok X G (c.fact 32 (f := .free "enumerate") rfl), He.free_ok X G (c.fact 33 (f := .free "isinstance") rfl), He.free_ok X G (c.fact 34 (f := .free "tuple") rfl), He.free_ok X G (c.fact 35 (f := .free "list") rfl), He.free_ok X G (c.fact 36 (f := .free "dict") rfl), He.free_ok X G (c.fact 37 (f := .free "sorted") rfl), He.free_ok X G (c.fact 38 (f := .free "abs") rfl), He.free_ok X G (c.fact 39 (f := .free "all") rfl), He.free_ok X G (c.fact 40 (f := .free "set") rfl), He.free_ok X G (c.fact 41 (f := .free "bool") rfl)⟩
theorem c_SMALL : ∃ t, mg "SMALL" = some (.str "abcdefghijklmnopqrstuvwxyz" t) := He.str_ok X G (c.fact 43 rfl)
theorem c_FIGURES : ∃ t, mg "FIGURES" = some (.str "0123456789" t) := He.str_ok X G (c.fact 44 rfl)
theorem c_LONGEST : ∃ t, mg "LONGEST" = some (.int (12) t) := He.int_ok X G (c.fact 45 rfl)
theorem c_MOST_READ : ∃ t, mg "MOST_READ" = some (.int (200) t) := He.int_ok X G (c.fact 46 rfl)
theorem c_DEEPEST_READ : ∃ t, mg "DEEPEST_READ" = some (.int (30) t) := He.int_ok X G (c.fact 47 rfl)
theorem c_MOST_PARTS : ∃ t, mg "MOST_PARTS" = some (.int (9) t) := He.int_ok X G (c.fact 48 rfl)
theorem c_GREATEST : ∃ t, mg "GREATEST" = some (.int (1000000000) t) := He.int_ok X G (c.fact 49 rfl)
theorem x_BadText : ExcF K mg "BadText" := let ⟨q, k, b, t⟩ := He.exc_ok (c.fact 72 (f := .exc "BadText") rfl); ⟨q, He.glo_ok X G (c.fact 18 (f := .glo "BadText") rfl), k, b, t⟩
theorem x_TooLong : ExcF K mg "TooLong" := let ⟨q, k, b, t⟩ := He.exc_ok (c.fact 83 (f := .exc "TooLong") rfl); ⟨q, He.glo_ok X G (c.fact 19 (f := .glo "TooLong") rfl), k, b, t⟩
theorem g_FormError : mg "FormError" = some (.ref (He.ga K "FormError")) := He.glo_ok X G (c.fact 16 (f := .glo "FormError") rfl)
theorem g_BadText : mg "BadText" = some (.ref (He.ga K "BadText")) := He.glo_ok X G (c.fact 18 (f := .glo "BadText") rfl)
theorem g_TooLong : mg "TooLong" = some (.ref (He.ga K "TooLong")) := He.glo_ok X G (c.fact 19 (f := .glo "TooLong") rfl)
theorem g_NoPlace : mg "NoPlace" = some (.ref (He.ga K "NoPlace")) := He.glo_ok X G (c.fact 17 (f := .glo "NoPlace") rfl)
theorem g_BadPaper : mg "BadPaper" = some (.ref (He.ga K "BadPaper")) := He.glo_ok X G (c.fact 20 (f := .glo "BadPaper") rfl)
theorem g_BadName : mg "BadName" = some (.ref (He.ga K "BadName")) := He.glo_ok X G (c.fact 21 (f := .glo "BadName") rfl)
theorem g_Twice : mg "Twice" = some (.ref (He.ga K "Twice")) := He.glo_ok X G (c.fact 22 (f := .glo "Twice") rfl)
theorem g_NoForm : mg "NoForm" = some (.ref (He.ga K "NoForm")) := He.glo_ok X G (c.fact 23 (f := .glo "NoForm") rfl)
theorem e_FormError : ExmOk K (.ref (He.ga K "FormError")) [("FormError", true), ("NoPlace", true), ("BadText", true), ("TooLong", true), ("BadPaper", true), ("BadName", true), ("Twice", true), ("NoForm", true)] := fun c0 b0 h0 => by
  simp only [List.mem_cons, Prod.mk.injEq, List.not_mem_nil, or_false] at h0
  rcases h0 with ⟨rfl, rfl⟩ | ⟨rfl, rfl⟩ | ⟨rfl, rfl⟩ | ⟨rfl, rfl⟩ | ⟨rfl, rfl⟩ | ⟨rfl, rfl⟩ | ⟨rfl, rfl⟩ | ⟨rfl, rfl⟩
  · exact He.exm_ok (c.fact 52 rfl)
  · exact He.exm_ok (c.fact 63 rfl)
  · exact He.exm_ok (c.fact 74 rfl)
  · exact He.exm_ok (c.fact 85 rfl)
  · exact He.exm_ok (c.fact 96 rfl)
  · exact He.exm_ok (c.fact 107 rfl)
  · exact He.exm_ok (c.fact 118 rfl)
  · exact He.exm_ok (c.fact 129 rfl)
theorem t_BadText : TabOk K (.ref (He.ga K "BadText")) [("FormError", false), ("NoPlace", false), ("BadText", true), ("TooLong", false), ("BadPaper", false), ("BadName", false), ("Twice", false), ("NoForm", false)] := fun c0 b0 h0 => by
  simp only [List.mem_cons, Prod.mk.injEq, List.not_mem_nil, or_false] at h0
  rcases h0 with ⟨rfl, rfl⟩ | ⟨rfl, rfl⟩ | ⟨rfl, rfl⟩ | ⟨rfl, rfl⟩ | ⟨rfl, rfl⟩ | ⟨rfl, rfl⟩ | ⟨rfl, rfl⟩ | ⟨rfl, rfl⟩
  · exact ⟨c.fact0 51 (f := .kx "FormError") rfl, of_decide_eq_true (c.fact0 53 (f := .ix "FormError" "BadText" false) rfl)⟩
  · exact ⟨c.fact0 62 (f := .kx "NoPlace") rfl, of_decide_eq_true (c.fact0 64 (f := .ix "NoPlace" "BadText" false) rfl)⟩
  · exact ⟨c.fact0 73 (f := .kx "BadText") rfl, of_decide_eq_true (c.fact0 75 (f := .ix "BadText" "BadText" true) rfl)⟩
  · exact ⟨c.fact0 84 (f := .kx "TooLong") rfl, of_decide_eq_true (c.fact0 86 (f := .ix "TooLong" "BadText" false) rfl)⟩
  · exact ⟨c.fact0 95 (f := .kx "BadPaper") rfl, of_decide_eq_true (c.fact0 97 (f := .ix "BadPaper" "BadText" false) rfl)⟩
  · exact ⟨c.fact0 106 (f := .kx "BadName") rfl, of_decide_eq_true (c.fact0 108 (f := .ix "BadName" "BadText" false) rfl)⟩
  · exact ⟨c.fact0 117 (f := .kx "Twice") rfl, of_decide_eq_true (c.fact0 119 (f := .ix "Twice" "BadText" false) rfl)⟩
  · exact ⟨c.fact0 128 (f := .kx "NoForm") rfl, of_decide_eq_true (c.fact0 130 (f := .ix "NoForm" "BadText" false) rfl)⟩
theorem t_TooLong : TabOk K (.ref (He.ga K "TooLong")) [("FormError", false), ("NoPlace", false), ("BadText", false), ("TooLong", true), ("BadPaper", false), ("BadName", false), ("Twice", false), ("NoForm", false)] := fun c0 b0 h0 => by
  simp only [List.mem_cons, Prod.mk.injEq, List.not_mem_nil, or_false] at h0
  rcases h0 with ⟨rfl, rfl⟩ | ⟨rfl, rfl⟩ | ⟨rfl, rfl⟩ | ⟨rfl, rfl⟩ | ⟨rfl, rfl⟩ | ⟨rfl, rfl⟩ | ⟨rfl, rfl⟩ | ⟨rfl, rfl⟩
  · exact ⟨c.fact0 51 (f := .kx "FormError") rfl, of_decide_eq_true (c.fact0 54 (f := .ix "FormError" "TooLong" false) rfl)⟩
  · exact ⟨c.fact0 62 (f := .kx "NoPlace") rfl, of_decide_eq_true (c.fact0 65 (f := .ix "NoPlace" "TooLong" false) rfl)⟩
  · exact ⟨c.fact0 73 (f := .kx "BadText") rfl, of_decide_eq_true (c.fact0 76 (f := .ix "BadText" "TooLong" false) rfl)⟩
  · exact ⟨c.fact0 84 (f := .kx "TooLong") rfl, of_decide_eq_true (c.fact0 87 (f := .ix "TooLong" "TooLong" true) rfl)⟩
  · exact ⟨c.fact0 95 (f := .kx "BadPaper") rfl, of_decide_eq_true (c.fact0 98 (f := .ix "BadPaper" "TooLong" false) rfl)⟩
  · exact ⟨c.fact0 106 (f := .kx "BadName") rfl, of_decide_eq_true (c.fact0 109 (f := .ix "BadName" "TooLong" false) rfl)⟩
  · exact ⟨c.fact0 117 (f := .kx "Twice") rfl, of_decide_eq_true (c.fact0 120 (f := .ix "Twice" "TooLong" false) rfl)⟩
  · exact ⟨c.fact0 128 (f := .kx "NoForm") rfl, of_decide_eq_true (c.fact0 131 (f := .ix "NoForm" "TooLong" false) rfl)⟩
theorem z_ValueError : mg "ValueError" = none := He.free_ok X G (c.fact 42 (f := .free "ValueError") rfl)
theorem t_ValueError : TabOk K (.type "ValueError") [("FormError", true), ("NoPlace", true), ("BadText", true), ("TooLong", true), ("BadPaper", true), ("BadName", true), ("Twice", true), ("NoForm", true)] := fun c0 b0 h0 => by
  simp only [List.mem_cons, Prod.mk.injEq, List.not_mem_nil, or_false] at h0
  rcases h0 with ⟨rfl, rfl⟩ | ⟨rfl, rfl⟩ | ⟨rfl, rfl⟩ | ⟨rfl, rfl⟩ | ⟨rfl, rfl⟩ | ⟨rfl, rfl⟩ | ⟨rfl, rfl⟩ | ⟨rfl, rfl⟩
  · exact ⟨c.fact0 51 (f := .kx "FormError") rfl, of_decide_eq_true (c.fact0 55 (f := .ib "FormError" "ValueError" true) rfl)⟩
  · exact ⟨c.fact0 62 (f := .kx "NoPlace") rfl, of_decide_eq_true (c.fact0 66 (f := .ib "NoPlace" "ValueError" true) rfl)⟩
  · exact ⟨c.fact0 73 (f := .kx "BadText") rfl, of_decide_eq_true (c.fact0 77 (f := .ib "BadText" "ValueError" true) rfl)⟩
  · exact ⟨c.fact0 84 (f := .kx "TooLong") rfl, of_decide_eq_true (c.fact0 88 (f := .ib "TooLong" "ValueError" true) rfl)⟩
  · exact ⟨c.fact0 95 (f := .kx "BadPaper") rfl, of_decide_eq_true (c.fact0 99 (f := .ib "BadPaper" "ValueError" true) rfl)⟩
  · exact ⟨c.fact0 106 (f := .kx "BadName") rfl, of_decide_eq_true (c.fact0 110 (f := .ib "BadName" "ValueError" true) rfl)⟩
  · exact ⟨c.fact0 117 (f := .kx "Twice") rfl, of_decide_eq_true (c.fact0 121 (f := .ib "Twice" "ValueError" true) rfl)⟩
  · exact ⟨c.fact0 128 (f := .kx "NoForm") rfl, of_decide_eq_true (c.fact0 132 (f := .ib "NoForm" "ValueError" true) rfl)⟩
theorem t_NoPlace : TabOk K (.ref (He.ga K "NoPlace")) [("FormError", false), ("NoPlace", true), ("BadText", false), ("TooLong", false), ("BadPaper", false), ("BadName", false), ("Twice", false), ("NoForm", false)] := fun c0 b0 h0 => by
  simp only [List.mem_cons, Prod.mk.injEq, List.not_mem_nil, or_false] at h0
  rcases h0 with ⟨rfl, rfl⟩ | ⟨rfl, rfl⟩ | ⟨rfl, rfl⟩ | ⟨rfl, rfl⟩ | ⟨rfl, rfl⟩ | ⟨rfl, rfl⟩ | ⟨rfl, rfl⟩ | ⟨rfl, rfl⟩
  · exact ⟨c.fact0 51 (f := .kx "FormError") rfl, of_decide_eq_true (c.fact0 56 (f := .ix "FormError" "NoPlace" false) rfl)⟩
  · exact ⟨c.fact0 62 (f := .kx "NoPlace") rfl, of_decide_eq_true (c.fact0 67 (f := .ix "NoPlace" "NoPlace" true) rfl)⟩
  · exact ⟨c.fact0 73 (f := .kx "BadText") rfl, of_decide_eq_true (c.fact0 78 (f := .ix "BadText" "NoPlace" false) rfl)⟩
  · exact ⟨c.fact0 84 (f := .kx "TooLong") rfl, of_decide_eq_true (c.fact0 89 (f := .ix "TooLong" "NoPlace" false) rfl)⟩
  · exact ⟨c.fact0 95 (f := .kx "BadPaper") rfl, of_decide_eq_true (c.fact0 100 (f := .ix "BadPaper" "NoPlace" false) rfl)⟩
  · exact ⟨c.fact0 106 (f := .kx "BadName") rfl, of_decide_eq_true (c.fact0 111 (f := .ix "BadName" "NoPlace" false) rfl)⟩
  · exact ⟨c.fact0 117 (f := .kx "Twice") rfl, of_decide_eq_true (c.fact0 122 (f := .ix "Twice" "NoPlace" false) rfl)⟩
  · exact ⟨c.fact0 128 (f := .kx "NoForm") rfl, of_decide_eq_true (c.fact0 133 (f := .ix "NoForm" "NoPlace" false) rfl)⟩
theorem t_BadPaper : TabOk K (.ref (He.ga K "BadPaper")) [("FormError", false), ("NoPlace", false), ("BadText", false), ("TooLong", false), ("BadPaper", true), ("BadName", false), ("Twice", false), ("NoForm", false)] := fun c0 b0 h0 => by
  simp only [List.mem_cons, Prod.mk.injEq, List.not_mem_nil, or_false] at h0
  rcases h0 with ⟨rfl, rfl⟩ | ⟨rfl, rfl⟩ | ⟨rfl, rfl⟩ | ⟨rfl, rfl⟩ | ⟨rfl, rfl⟩ | ⟨rfl, rfl⟩ | ⟨rfl, rfl⟩ | ⟨rfl, rfl⟩
  · exact ⟨c.fact0 51 (f := .kx "FormError") rfl, of_decide_eq_true (c.fact0 57 (f := .ix "FormError" "BadPaper" false) rfl)⟩
  · exact ⟨c.fact0 62 (f := .kx "NoPlace") rfl, of_decide_eq_true (c.fact0 68 (f := .ix "NoPlace" "BadPaper" false) rfl)⟩
  · exact ⟨c.fact0 73 (f := .kx "BadText") rfl, of_decide_eq_true (c.fact0 79 (f := .ix "BadText" "BadPaper" false) rfl)⟩
  · exact ⟨c.fact0 84 (f := .kx "TooLong") rfl, of_decide_eq_true (c.fact0 90 (f := .ix "TooLong" "BadPaper" false) rfl)⟩
  · exact ⟨c.fact0 95 (f := .kx "BadPaper") rfl, of_decide_eq_true (c.fact0 101 (f := .ix "BadPaper" "BadPaper" true) rfl)⟩
  · exact ⟨c.fact0 106 (f := .kx "BadName") rfl, of_decide_eq_true (c.fact0 112 (f := .ix "BadName" "BadPaper" false) rfl)⟩
  · exact ⟨c.fact0 117 (f := .kx "Twice") rfl, of_decide_eq_true (c.fact0 123 (f := .ix "Twice" "BadPaper" false) rfl)⟩
  · exact ⟨c.fact0 128 (f := .kx "NoForm") rfl, of_decide_eq_true (c.fact0 134 (f := .ix "NoForm" "BadPaper" false) rfl)⟩
theorem t_BadName : TabOk K (.ref (He.ga K "BadName")) [("FormError", false), ("NoPlace", false), ("BadText", false), ("TooLong", false), ("BadPaper", false), ("BadName", true), ("Twice", false), ("NoForm", false)] := fun c0 b0 h0 => by
  simp only [List.mem_cons, Prod.mk.injEq, List.not_mem_nil, or_false] at h0
  rcases h0 with ⟨rfl, rfl⟩ | ⟨rfl, rfl⟩ | ⟨rfl, rfl⟩ | ⟨rfl, rfl⟩ | ⟨rfl, rfl⟩ | ⟨rfl, rfl⟩ | ⟨rfl, rfl⟩ | ⟨rfl, rfl⟩
  · exact ⟨c.fact0 51 (f := .kx "FormError") rfl, of_decide_eq_true (c.fact0 58 (f := .ix "FormError" "BadName" false) rfl)⟩
  · exact ⟨c.fact0 62 (f := .kx "NoPlace") rfl, of_decide_eq_true (c.fact0 69 (f := .ix "NoPlace" "BadName" false) rfl)⟩
  · exact ⟨c.fact0 73 (f := .kx "BadText") rfl, of_decide_eq_true (c.fact0 80 (f := .ix "BadText" "BadName" false) rfl)⟩
  · exact ⟨c.fact0 84 (f := .kx "TooLong") rfl, of_decide_eq_true (c.fact0 91 (f := .ix "TooLong" "BadName" false) rfl)⟩
  · exact ⟨c.fact0 95 (f := .kx "BadPaper") rfl, of_decide_eq_true (c.fact0 102 (f := .ix "BadPaper" "BadName" false) rfl)⟩
  · exact ⟨c.fact0 106 (f := .kx "BadName") rfl, of_decide_eq_true (c.fact0 113 (f := .ix "BadName" "BadName" true) rfl)⟩
  · exact ⟨c.fact0 117 (f := .kx "Twice") rfl, of_decide_eq_true (c.fact0 124 (f := .ix "Twice" "BadName" false) rfl)⟩
  · exact ⟨c.fact0 128 (f := .kx "NoForm") rfl, of_decide_eq_true (c.fact0 135 (f := .ix "NoForm" "BadName" false) rfl)⟩
theorem t_Twice : TabOk K (.ref (He.ga K "Twice")) [("FormError", false), ("NoPlace", false), ("BadText", false), ("TooLong", false), ("BadPaper", false), ("BadName", false), ("Twice", true), ("NoForm", false)] := fun c0 b0 h0 => by
  simp only [List.mem_cons, Prod.mk.injEq, List.not_mem_nil, or_false] at h0
  rcases h0 with ⟨rfl, rfl⟩ | ⟨rfl, rfl⟩ | ⟨rfl, rfl⟩ | ⟨rfl, rfl⟩ | ⟨rfl, rfl⟩ | ⟨rfl, rfl⟩ | ⟨rfl, rfl⟩ | ⟨rfl, rfl⟩
  · exact ⟨c.fact0 51 (f := .kx "FormError") rfl, of_decide_eq_true (c.fact0 59 (f := .ix "FormError" "Twice" false) rfl)⟩
  · exact ⟨c.fact0 62 (f := .kx "NoPlace") rfl, of_decide_eq_true (c.fact0 70 (f := .ix "NoPlace" "Twice" false) rfl)⟩
  · exact ⟨c.fact0 73 (f := .kx "BadText") rfl, of_decide_eq_true (c.fact0 81 (f := .ix "BadText" "Twice" false) rfl)⟩
  · exact ⟨c.fact0 84 (f := .kx "TooLong") rfl, of_decide_eq_true (c.fact0 92 (f := .ix "TooLong" "Twice" false) rfl)⟩
  · exact ⟨c.fact0 95 (f := .kx "BadPaper") rfl, of_decide_eq_true (c.fact0 103 (f := .ix "BadPaper" "Twice" false) rfl)⟩
  · exact ⟨c.fact0 106 (f := .kx "BadName") rfl, of_decide_eq_true (c.fact0 114 (f := .ix "BadName" "Twice" false) rfl)⟩
  · exact ⟨c.fact0 117 (f := .kx "Twice") rfl, of_decide_eq_true (c.fact0 125 (f := .ix "Twice" "Twice" true) rfl)⟩
  · exact ⟨c.fact0 128 (f := .kx "NoForm") rfl, of_decide_eq_true (c.fact0 136 (f := .ix "NoForm" "Twice" false) rfl)⟩
theorem t_NoForm : TabOk K (.ref (He.ga K "NoForm")) [("FormError", false), ("NoPlace", false), ("BadText", false), ("TooLong", false), ("BadPaper", false), ("BadName", false), ("Twice", false), ("NoForm", true)] := fun c0 b0 h0 => by
  simp only [List.mem_cons, Prod.mk.injEq, List.not_mem_nil, or_false] at h0
  rcases h0 with ⟨rfl, rfl⟩ | ⟨rfl, rfl⟩ | ⟨rfl, rfl⟩ | ⟨rfl, rfl⟩ | ⟨rfl, rfl⟩ | ⟨rfl, rfl⟩ | ⟨rfl, rfl⟩ | ⟨rfl, rfl⟩
  · exact ⟨c.fact0 51 (f := .kx "FormError") rfl, of_decide_eq_true (c.fact0 60 (f := .ix "FormError" "NoForm" false) rfl)⟩
  · exact ⟨c.fact0 62 (f := .kx "NoPlace") rfl, of_decide_eq_true (c.fact0 71 (f := .ix "NoPlace" "NoForm" false) rfl)⟩
  · exact ⟨c.fact0 73 (f := .kx "BadText") rfl, of_decide_eq_true (c.fact0 82 (f := .ix "BadText" "NoForm" false) rfl)⟩
  · exact ⟨c.fact0 84 (f := .kx "TooLong") rfl, of_decide_eq_true (c.fact0 93 (f := .ix "TooLong" "NoForm" false) rfl)⟩
  · exact ⟨c.fact0 95 (f := .kx "BadPaper") rfl, of_decide_eq_true (c.fact0 104 (f := .ix "BadPaper" "NoForm" false) rfl)⟩
  · exact ⟨c.fact0 106 (f := .kx "BadName") rfl, of_decide_eq_true (c.fact0 115 (f := .ix "BadName" "NoForm" false) rfl)⟩
  · exact ⟨c.fact0 117 (f := .kx "Twice") rfl, of_decide_eq_true (c.fact0 126 (f := .ix "Twice" "NoForm" false) rfl)⟩
  · exact ⟨c.fact0 128 (f := .kx "NoForm") rfl, of_decide_eq_true (c.fact0 137 (f := .ix "NoForm" "NoForm" true) rfl)⟩
theorem i_TreeReader : InsF K "TreeReader" ["text", "at", "begun"] := ⟨He.cls_ok (c.fact 138 (f := .cls "TreeReader") rfl), fun f0 h0 => by
  simp only [List.mem_cons, List.not_mem_nil, or_false] at h0
  rcases h0 with rfl | rfl | rfl
  · exact He.noat_ok (c.fact 139 rfl)
  · exact He.noat_ok (c.fact 140 rfl)
  · exact He.noat_ok (c.fact 141 rfl)⟩
theorem at_TreeReader___init__ (base : Heap) : ∀ n, MkAt P w K mg base n "TreeReader" ["self", "text"] (F_TreeReader___init__ n) := by
  obtain ⟨fd, F⟩ := c.def_ 0 (d := d_TreeReader___init__) rfl
  have b : Binds K fd ["self", "text"] [] := F.bindsN fun _ _ _ _ _ _ us hl => match us, hl with | [_, _], _ => rfl
  have k := He.cls_ok (c.fact 138 (f := .cls "TreeReader") rfl)
  have g := He.glo_ok X G (c.fact 24 (f := .glo "TreeReader") rfl)
  have m := He.mkr_ok (c.fact 148 (f := .mkr "TreeReader") rfl)
  intro n
  induction n with
  | zero => exact mkAt_zero F m g b
  | succ n ih => exact mkAt_by kEff rfl m g b (ok_TreeReader___init__ F (blt X G c) (i_TreeReader X G c))
theorem mk_TreeReader___init__ (base : Heap) (n : Nat) : MkN P w K mg base n "TreeReader" ["self", "text"] (F_TreeReader___init__ (n - 1)) := by
  cases n with
  | zero => exact .inr fun _ _ => rfl
  | succ n => exact .inl ⟨n, rfl, at_TreeReader___init__ X G c base n⟩
theorem at_TreeReader_sign (base : Heap) : ∀ n, MtAt P w K mg base n "TreeReader" "sign" ["self"] (F_TreeReader_sign n) := by
  obtain ⟨fd, F⟩ := c.def_ 1 (d := d_TreeReader_sign) rfl
  have b : Binds K fd ["self"] [] := F.bindsN fun _ _ _ _ _ _ us hl => match us, hl with | [_], _ => rfl
  have k := He.cls_ok (c.fact 138 (f := .cls "TreeReader") rfl)
  have m := He.meth_ok (c.fact 143 (f := .meth "TreeReader" "sign") rfl)
  intro n
  induction n with
  | zero => exact mtAt_zero F k m b
  | succ n ih => exact mtAt_by kPure rfl k m b (ok_TreeReader_sign F (blt X G c) (i_TreeReader X G c))
theorem at_TreeReader_read_name (base : Heap) : ∀ n, MtAt P w K mg base n "TreeReader" "read_name" ["self"] (F_TreeReader_read_name n) := by
  obtain ⟨fd, F⟩ := c.def_ 2 (d := d_TreeReader_read_name) rfl
  have b : Binds K fd ["self"] [] := F.bindsN fun _ _ _ _ _ _ us hl => match us, hl with | [_], _ => rfl
  have k := He.cls_ok (c.fact 138 (f := .cls "TreeReader") rfl)
  have m := He.meth_ok (c.fact 144 (f := .meth "TreeReader" "read_name") rfl)
  intro n
  induction n with
  | zero => exact mtAt_zero F k m b
  | succ n ih => exact mtAt_by kEff rfl k m b (ok_TreeReader_read_name F (blt X G c) (c_SMALL X G c) (c_FIGURES X G c) (c_LONGEST X G c) (x_BadText X G c) (i_TreeReader X G c) (at_TreeReader_sign X G c base n))
theorem at_TreeReader_read_number (base : Heap) : ∀ n, MtAt P w K mg base n "TreeReader" "read_number" ["self"] (F_TreeReader_read_number n) := by
  obtain ⟨fd, F⟩ := c.def_ 3 (d := d_TreeReader_read_number) rfl
  have b : Binds K fd ["self"] [] := F.bindsN fun _ _ _ _ _ _ us hl => match us, hl with | [_], _ => rfl
  have k := He.cls_ok (c.fact 138 (f := .cls "TreeReader") rfl)
  have m := He.meth_ok (c.fact 145 (f := .meth "TreeReader" "read_number") rfl)
  intro n
  induction n with
  | zero => exact mtAt_zero F k m b
  | succ n ih => exact mtAt_by kEff rfl k m b (ok_TreeReader_read_number F (blt X G c) (c_FIGURES X G c) (c_GREATEST X G c) (x_BadText X G c) (i_TreeReader X G c) (at_TreeReader_sign X G c base n))
theorem at_TreeReader_read_parts_and_TreeReader_read_tree (base : Heap) : ∀ n, (MtAt P w K mg base n "TreeReader" "read_parts" ["self", "deep"] (F_TreeReader_read_parts n)) ∧ (MtAt P w K mg base n "TreeReader" "read_tree" ["self", "deep"] (F_TreeReader_read_tree n)) := by
  obtain ⟨fd0, F0⟩ := c.def_ 4 (d := d_TreeReader_read_parts) rfl
  have b0 : Binds K fd0 ["self", "deep"] [] := F0.bindsN fun _ _ _ _ _ _ us hl => match us, hl with | [_, _], _ => rfl
  have k0 := He.cls_ok (c.fact 138 (f := .cls "TreeReader") rfl)
  have m0 := He.meth_ok (c.fact 146 (f := .meth "TreeReader" "read_parts") rfl)
  obtain ⟨fd1, F1⟩ := c.def_ 5 (d := d_TreeReader_read_tree) rfl
  have b1 : Binds K fd1 ["self", "deep"] [] := F1.bindsN fun _ _ _ _ _ _ us hl => match us, hl with | [_, _], _ => rfl
  have k1 := He.cls_ok (c.fact 138 (f := .cls "TreeReader") rfl)
  have m1 := He.meth_ok (c.fact 147 (f := .meth "TreeReader" "read_tree") rfl)
  intro n
  induction n with
  | zero => exact ⟨mtAt_zero F0 k0 m0 b0, mtAt_zero F1 k1 m1 b1⟩
  | succ n ih =>
    obtain ⟨ih0, ih1⟩ := ih
    exact ⟨mtAt_by kEff rfl k0 m0 b0 (ok_TreeReader_read_parts F0 (blt X G c) (c_MOST_PARTS X G c) (x_BadText X G c) (i_TreeReader X G c) (at_TreeReader_sign X G c base n) ih1), mtAt_by kEff rfl k1 m1 b1 (ok_TreeReader_read_tree F1 (blt X G c) (c_MOST_READ X G c) (c_DEEPEST_READ X G c) (c_SMALL X G c) (x_TooLong X G c) (x_BadText X G c) (i_TreeReader X G c) (at_TreeReader_sign X G c base n) ih0 (at_TreeReader_read_name X G c base n) (at_TreeReader_read_number X G c base n))⟩
theorem at_TreeReader_read_tree (base : Heap) (n : Nat) : MtAt P w K mg base n "TreeReader" "read_tree" ["self", "deep"] (F_TreeReader_read_tree n) := (at_TreeReader_read_parts_and_TreeReader_read_tree X G c base n).2
theorem at_read (base : Heap) : ∀ n, FnAt P w K mg base n "read" ["text"] (F_read n) := by
  obtain ⟨fd, F⟩ := c.def_ 6 (d := d_read) rfl
  have b : Binds K fd ["text"] [] := F.bindsN fun _ _ _ _ _ _ us hl => match us, hl with | [_], _ => rfl
  have g := He.glo_ok X G (c.fact 0 (f := .glo "read") rfl)
  intro n
  induction n with
  | zero => exact fnAt_zero F g b
  | succ n ih => exact fnAt_by kPure rfl F g b (ok_read F (blt X G c) (x_BadText X G c) (i_TreeReader X G c) (at_TreeReader_read_tree X G c base n) (mk_TreeReader___init__ X G c base n))
theorem at__law_cell_at (base : Heap) : ∀ n, FnAt P w K mg base n "_law_cell_at" ["script", "k"] (F__law_cell_at n) := by
  obtain ⟨fd, F⟩ := c.def_ 7 (d := d__law_cell_at) rfl
  have b : Binds K fd ["script", "k"] [] := F.bindsN fun _ _ _ _ _ _ us hl => match us, hl with | [_, _], _ => rfl
  have g := He.glo_ok X G (c.fact 1 (f := .glo "_law_cell_at") rfl)
  intro n
  induction n with
  | zero => exact fnAt_zero F g b
  | succ n ih => exact fnAt_by kPure rfl F g b (ok__law_cell_at F (blt X G c))
theorem at__law_draw (base : Heap) : ∀ n, FnAt P w K mg base n "_law_draw" ["cell", "k", "many"] (F__law_draw n) := by
  obtain ⟨fd, F⟩ := c.def_ 8 (d := d__law_draw) rfl
  have b : Binds K fd ["cell", "k", "many"] [] := F.bindsN fun _ _ _ _ _ _ us hl => match us, hl with | [_, _, _], _ => rfl
  have g := He.glo_ok X G (c.fact 2 (f := .glo "_law_draw") rfl)
  intro n
  induction n with
  | zero => exact fnAt_zero F g b
  | succ n ih => exact fnAt_by kPure rfl F g b (ok__law_draw F (blt X G c))
theorem at__law_names (base : Heap) : ∀ n, FnAt P w K mg base n "_law_names" ["cell"] (F__law_names n) := by
  obtain ⟨fd, F⟩ := c.def_ 9 (d := d__law_names) rfl
  have b : Binds K fd ["cell"] [] := F.bindsN fun _ _ _ _ _ _ us hl => match us, hl with | [_], _ => rfl
  have g := He.glo_ok X G (c.fact 3 (f := .glo "_law_names") rfl)
  intro n
  induction n with
  | zero => exact fnAt_zero F g b
  | succ n ih => exact fnAt_by kNew rfl F g b (ok__law_names F (blt X G c) (at__law_draw X G c base n))
theorem at__law_leaf (base : Heap) : ∀ n, FnAt P w K mg base n "_law_leaf" ["cell", "first", "names", "shares"] (F__law_leaf n) := by
  obtain ⟨fd, F⟩ := c.def_ 10 (d := d__law_leaf) rfl
  have b : Binds K fd ["cell", "first", "names", "shares"] [] := F.bindsN fun _ _ _ _ _ _ us hl => match us, hl with | [_, _, _, _], _ => rfl
  have g := He.glo_ok X G (c.fact 4 (f := .glo "_law_leaf") rfl)
  intro n
  induction n with
  | zero => exact fnAt_zero F g b
  | succ n ih => exact fnAt_by kPure rfl F g b (ok__law_leaf F (blt X G c) (at__law_draw X G c base n))
theorem at__law_tree (base : Heap) : ∀ n, FnAt P w K mg base n "_law_tree" ["cells", "first", "shares"] (F__law_tree n) := by
  obtain ⟨fd, F⟩ := c.def_ 11 (d := d__law_tree) rfl
  have b : Binds K fd ["cells", "first", "shares"] [] := F.bindsN fun _ _ _ _ _ _ us hl => match us, hl with | [_, _, _], _ => rfl
  have g := He.glo_ok X G (c.fact 5 (f := .glo "_law_tree") rfl)
  intro n
  induction n with
  | zero => exact fnAt_zero F g b
  | succ n ih => exact fnAt_by kPure rfl F g b (ok__law_tree F (blt X G c) (at__law_draw X G c base n) (at__law_leaf X G c base n) (at__law_names X G c base n))
theorem at__law_great (base : Heap) : ∀ n, FnAt P w K mg base n "_law_great" ["cell", "names", "deep", "many"] (F__law_great n) := by
  obtain ⟨fd, F⟩ := c.def_ 12 (d := d__law_great) rfl
  have b : Binds K fd ["cell", "names", "deep", "many"] [] := F.bindsN fun _ _ _ _ _ _ us hl => match us, hl with | [_, _, _, _], _ => rfl
  have g := He.glo_ok X G (c.fact 6 (f := .glo "_law_great") rfl)
  intro n
  induction n with
  | zero => exact fnAt_zero F g b
  | succ n ih => exact fnAt_by kPure rfl F g b (ok__law_great F (blt X G c) (at__law_draw X G c base n))
theorem at__law_text (base : Heap) : ∀ n, FnAt P w K mg base n "_law_text" ["tree"] (F__law_text n) := by
  obtain ⟨fd, F⟩ := c.def_ 13 (d := d__law_text) rfl
  have b : Binds K fd ["tree"] [] := F.bindsN fun _ _ _ _ _ _ us hl => match us, hl with | [_], _ => rfl
  have g := He.glo_ok X G (c.fact 7 (f := .glo "_law_text") rfl)
  intro n
  induction n with
  | zero => exact fnAt_zero F g b
  | succ n ih => exact fnAt_by kPure rfl F g b (ok__law_text F (blt X G c) ih)
theorem at__law_begun (base : Heap) : ∀ n, FnAt P w K mg base n "_law_begun" ["sign", "many", "counts"] (F__law_begun n) := by
  obtain ⟨fd, F⟩ := c.def_ 14 (d := d__law_begun) rfl
  have b : Binds K fd ["sign", "many", "counts"] [] := F.bindsN fun _ _ _ _ _ _ us hl => match us, hl with | [_, _, _], _ => rfl
  have g := He.glo_ok X G (c.fact 8 (f := .glo "_law_begun") rfl)
  intro n
  induction n with
  | zero => exact fnAt_zero F g b
  | succ n ih => exact fnAt_by kPure rfl F g b (ok__law_begun F (blt X G c))
theorem at__law_behind (base : Heap) : ∀ n, FnAt P w K mg base n "_law_behind" ["sign", "counts"] (F__law_behind n) := by
  obtain ⟨fd, F⟩ := c.def_ 15 (d := d__law_behind) rfl
  have b : Binds K fd ["sign", "counts"] [] := F.bindsN fun _ _ _ _ _ _ us hl => match us, hl with | [_, _], _ => rfl
  have g := He.glo_ok X G (c.fact 9 (f := .glo "_law_behind") rfl)
  intro n
  induction n with
  | zero => exact fnAt_zero F g b
  | succ n ih => exact fnAt_by kPure rfl F g b (ok__law_behind F (blt X G c))
theorem at__law_scan (base : Heap) : ∀ n, FnAt P w K mg base n "_law_scan" ["text"] (F__law_scan n) := by
  obtain ⟨fd, F⟩ := c.def_ 16 (d := d__law_scan) rfl
  have b : Binds K fd ["text"] [] := F.bindsN fun _ _ _ _ _ _ us hl => match us, hl with | [_], _ => rfl
  have g := He.glo_ok X G (c.fact 10 (f := .glo "_law_scan") rfl)
  intro n
  induction n with
  | zero => exact fnAt_zero F g b
  | succ n ih => exact fnAt_by kPure rfl F g b (ok__law_scan F (blt X G c) (at__law_begun X G c base n) (at__law_behind X G c base n))
theorem at__law_spoiled (base : Heap) : ∀ n, FnAt P w K mg base n "_law_spoiled" ["text", "cells", "first"] (F__law_spoiled n) := by
  obtain ⟨fd, F⟩ := c.def_ 17 (d := d__law_spoiled) rfl
  have b : Binds K fd ["text", "cells", "first"] [] := F.bindsN fun _ _ _ _ _ _ us hl => match us, hl with | [_, _, _], _ => rfl
  have g := He.glo_ok X G (c.fact 11 (f := .glo "_law_spoiled") rfl)
  intro n
  induction n with
  | zero => exact fnAt_zero F g b
  | succ n ih => exact fnAt_by kPure rfl F g b (ok__law_spoiled F (blt X G c) (at__law_draw X G c base n))
theorem at__law_odd_leaf (base : Heap) : ∀ n, FnAt P w K mg base n "_law_odd_leaf" ["text", "cell"] (F__law_odd_leaf n) := by
  obtain ⟨fd, F⟩ := c.def_ 18 (d := d__law_odd_leaf) rfl
  have b : Binds K fd ["text", "cell"] [] := F.bindsN fun _ _ _ _ _ _ us hl => match us, hl with | [_, _], _ => rfl
  have g := He.glo_ok X G (c.fact 12 (f := .glo "_law_odd_leaf") rfl)
  intro n
  induction n with
  | zero => exact fnAt_zero F g b
  | succ n ih => exact fnAt_by kPure rfl F g b (ok__law_odd_leaf F (blt X G c) (at__law_draw X G c base n))
theorem at__law_is_tree (base : Heap) : ∀ n, FnAt P w K mg base n "_law_is_tree" ["tree"] (F__law_is_tree n) := by
  obtain ⟨fd, F⟩ := c.def_ 19 (d := d__law_is_tree) rfl
  have b : Binds K fd ["tree"] [] := F.bindsN fun _ _ _ _ _ _ us hl => match us, hl with | [_], _ => rfl
  have g := He.glo_ok X G (c.fact 13 (f := .glo "_law_is_tree") rfl)
  intro n
  induction n with
  | zero => exact fnAt_zero F g b
  | succ n ih => exact fnAt_by kPure rfl F g b (ok__law_is_tree F (blt X G c) ih)
theorem at__law_refusal_x (base : Heap) : ∀ n, FnAt P w K mg base n "_law_refusal" ["text"] (F__law_refusal_x n) := by
  obtain ⟨fd, F⟩ := c.def_ 20 (d := d__law_refusal) rfl
  have b : Binds K fd ["text"] [] := F.bindsN fun _ _ _ _ _ _ us hl => match us, hl with | [_], _ => rfl
  have g := He.glo_ok X G (c.fact 14 (f := .glo "_law_refusal") rfl)
  intro n
  induction n with
  | zero => exact fnAt_zero F g b
  | succ n ih => exact fnAt_by kNew rfl F g b (ok__law_refusal_x F (blt X G c) (g_FormError X G c) (g_Twice X G c) (g_NoForm X G c) (g_NoPlace X G c) (g_BadPaper X G c) (g_BadName X G c) (g_TooLong X G c) (g_BadText X G c) (e_FormError X G c) (t_Twice X G c) (t_NoForm X G c) (t_NoPlace X G c) (t_BadPaper X G c) (t_BadName X G c) (z_ValueError X G c) (t_ValueError X G c) (t_TooLong X G c) (t_BadText X G c) (at_read X G c base n))
end
end Wk
open PySem PySem.W PySem.Calls PyProof.Rows
theorem head_holds (hc : PySem.W.WalkO (view (OpenLaw.row PySem.Challenge.rw_commonform_k11_whole_texts_read_or_refus).prog [34]) Hd.ls (XL (view (OpenLaw.row PySem.Challenge.rw_commonform_k11_whole_texts_read_or_refus).prog [34]) []) Hd.hk.says (OpenLaw.row PySem.Challenge.rw_commonform_k11_whole_texts_read_or_refus).toRowW (HandSHeadRun.topDef (OpenLaw.row PySem.Challenge.rw_commonform_k11_whole_texts_read_or_refus).prog 34) [] fun f vs => PySem.call f vs) : PySem.Challenge.rw_commonform_k11_whole_texts_read_or_refus.Holds := by
  w_on; o_law
  refine HandSHeadRun.head_any (r := OpenLaw.row PySem.Challenge.rw_commonform_k11_whole_texts_read_or_refus) (q := view (OpenLaw.row PySem.Challenge.rw_commonform_k11_whole_texts_read_or_refus).prog [34]) (H := Hd.hk) (ob := Hd.ob) (M := 7570) (loose := Hd.ls) (d := HandSHeadRun.topDef (OpenLaw.row PySem.Challenge.rw_commonform_k11_whole_texts_read_or_refus).prog 34) (kwd := []) Hd.ob_eq
    (by kernel_rfl) (fun s => by kernel_rfl) Hd.run (by kernel_rfl) (by kernel_rfl) (by kernel_rfl) (by rfl) (by first | assumption | decide +kernel) (by decide +kernel) ⟨rfl, rfl, rfl, rfl, rfl, by decide +kernel⟩ ?hw hc
  case hw => w_witness2
theorem law_done (hφ : ∀ ns : List Int, ns.length ≤ 63 → ∃ h, DV.F_law_k11x 230 [.ro ns] [] = .ok (.bl true) h) : PySem.Challenge.rw_commonform_k11_whole_texts_read_or_refus.Holds := by
  refine head_holds (DV.law_end (k := 230) rfl (by kernel_rfl) ⟨rfl, by decide, by decide⟩ hφ ?_)
  intro w mg fa h Y G hm
  obtain ⟨K, KX, c⟩ := Y
  obtain ⟨fd, F⟩ := c.def_ 21 (d := Hd.d_law) rfl
  have e1 : mg "law" = some (.ref fa) := by
    have e : (HandSHeadRun.topDef (OpenLaw.row PySem.Challenge.rw_commonform_k11_whole_texts_read_or_refus).prog 34).name = ("law" : PySem.Str) := by kernel_rfl
    rw [← e]; exact hm
  have e2 := e1.symm.trans (He.glo_ok KX G (c.fact 15 (f := .glo "law") rfl))
  cases e2
  have b := L2.FunD.bindsA (ps := ["script"]) F fun _ _ _ _ _ _ us hl => match us, hl with | [_], _ => rfl
  refine ⟨K, fd, KX, fun s u => b s [u] rfl, fun base _ _ => ?_⟩
  exact Wk.ok_law_k11x (n := 229) F (Wk.blt KX G c) (Wk.at__law_is_tree KX G c base 229) (Wk.at__law_text KX G c base 229) (Wk.at_read KX G c base 229) (Wk.at__law_refusal_x KX G c base 229) (Wk.at__law_scan KX G c base 229) (Wk.at__law_spoiled KX G c base 229) (Wk.at__law_draw KX G c base 229) (Wk.at__law_cell_at KX G c base 229) (Wk.at__law_odd_leaf KX G c base 229) (Wk.at__law_names KX G c base 229) (Wk.at__law_great KX G c base 229) (Wk.at__law_tree KX G c base 229)
theorem PySem.Challenge.cw_commonform_k11_whole_texts_read_or_refus_holds : PySem.Challenge.rw_commonform_k11_whole_texts_read_or_refus.Holds := by
  exact law_done DV.law_k11_ok
