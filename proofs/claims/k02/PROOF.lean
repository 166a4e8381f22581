import PyProof.Rows.All
import Wide.All
import OpenK.AllK
import Wide.FinOn
import HandS.ForMost
import HandS.ForExc
import HandS.HeadHook2
import HandS.TupAny
import HandS.IsInst
import HandS.TryOnly
import HandS.TupLe
import HandS.Flow
import HandS.Iter
import HandS.Text
import HandS.Dict
import HandS.HeadEnd
import HandS.Head2
import KE.KStateDown
import HandS.WideBits
import Lean
import PySem.Challenge.RW_mirrorwalk_k02_words_and_names
import HandS.Head0
import HandS.Head1
set_option Elab.async false
set_option linter.all false
set_option maxRecDepth 100000
set_option maxHeartbeats 0
namespace Ev
open PySem PySem.Spec PyProof.Rows L2

/-! ### values -/
inductive Val where
  | non | bl (b : Bool) | int (i : Int) | str (s : Str) | ty (n : String)
  | tup (l : List Val) | lst (l : List Val) | scr (l : List Val)
  | dct (ks : List Key) (vs : List Val)
  | obj (c : Str) (ks : List Str) (vs : List Val)
  | glo (x : Str)
  | loc (n : Nat)
  deriving Inhabited

/-- what may change -/
inductive Ob where
  | lst (l : List Val)
  | dct (kvs : List (Key × Val))
  | ins (c : Str) (fs : List (Str × Val))
  deriving Inhabited

abbrev Hs := List (Option Ob)
/-- where the objects of the small heap stand; what is hidden for a while (a list that a comprehension fills, an instance that its __init__ fills) -/
structure Loc where
  l : List Addr
  z : Addr → Prop
def Loc.add (p : Loc) (a : Addr) : Loc := { p with l := p.l ++ [a] }
def Loc.hide (p : Loc) (a : Addr) : Loc := { p with z := fun b => p.z b ∨ b = a }

/-- an exception: its class, its fields -/
structure Exc where
  cls : Str
  fs : List (Str × Val)

inductive Out (α : Type) where
  | ok (a : α) (h : Hs)
  | exc (e : Exc) (h : Hs)
  | bad

abbrev M (α : Type) := Hs → Out α
def M.ret {α : Type} (a : α) : M α := fun h => .ok a h
def M.bind {α β : Type} (m : M α) (f : α → M β) : M β := fun h => match m h with
  | .ok a h' => f a h'
  | .exc e h' => .exc e h'
  | .bad => .bad
def M.bad {α : Type} : M α := fun _ => .bad
instance : Monad M where
  pure := M.ret
  bind := M.bind
theorem bind_ok {α β : Type} {m : M α} {f : α → M β} {h h' : Hs} {a : α} (e : m h = .ok a h') : (m >>= f) h = f a h' := by
  show M.bind m f h = _
  unfold M.bind
  rw [e]
theorem bind_exc {α β : Type} {m : M α} {f : α → M β} {h h' : Hs} {x : Exc} (e : m h = .exc x h') : (m >>= f) h = .exc x h' := by
  show M.bind m f h = _
  unfold M.bind
  rw [e]
theorem pure_eq {α : Type} (a : α) (h : Hs) : (pure a : M α) h = .ok a h := rfl

/-! ### relations -/
/-- what of the heap is owned by the small heap -/
def Ow (p : Loc) (h : Hs) (a : Addr) : Prop := (∃ (n : Nat) (o : Ob), h[n]? = some (some o) ∧ p.l[n]? = some a) ∨ p.z a

def KL (K : PySem.W.Frag) (a : Addr) (xs : List V) : Prop := ∃ (o : Obj) (its : Array Value) (n : Nat), K.lookup a = some o ∧ o.cls = .type "list" ∧ o.dict = none ∧ o.data = .seq its n ∧ its.size ≤ sizeLine ∧ Vals xs its.toList
def KT (K : PySem.W.Frag) (a : Addr) (xs : List V) : Prop := ∃ (o : Obj) (its : Array Value) (n : Nat), K.lookup a = some o ∧ o.cls = .type "tuple" ∧ o.data = .seq its n ∧ its.size ≤ sizeLine ∧ Vals xs its.toList
def FL (K : PySem.W.Frag) (H : Hp) (ow : Addr → Prop) (a : Addr) (xs : List V) : Prop := (Rd H a (.lst xs) ∧ ¬ ow a) ∨ KL K a xs
def FT (K : PySem.W.Frag) (H : Hp) (ow : Addr → Prop) (a : Addr) (xs : List V) : Prop := (H a = some (.tup xs) ∧ ¬ ow a) ∨ KT K a xs
theorem FL.sq {K : PySem.W.Frag} {H : Hp} {ow : Addr → Prop} {a : Addr} {xs : List V} (h : FL K H ow a xs) : SqL K H a xs := by
  rcases h with ⟨h, _⟩ | h
  · exact .inl h
  · exact .inr h
theorem FT.sq {K : PySem.W.Frag} {H : Hp} {ow : Addr → Prop} {a : Addr} {xs : List V} (h : FT K H ow a xs) : SqT K H a xs := by
  rcases h with ⟨h, _⟩ | h
  · exact .inl (.inl h)
  · exact .inr h

mutual
inductive RV (K : PySem.W.Frag) (H : Hp) (p : Loc) (ow : Addr → Prop) : Val → V → Prop
  | non : RV K H p ow .non .non
  | bl {b : Bool} : RV K H p ow (.bl b) (.bl b)
  | int {i : Int} : RV K H p ow (.int i) (.int i)
  | str {s : Str} : RV K H p ow (.str s) (.str s)
  | ty {n : String} : RV K H p ow (.ty n) (.ty n)
  | tup {l : List Val} {a : Addr} {xs : List V} : FT K H ow a xs → RVs K H p ow l xs → RV K H p ow (.tup l) (.ref a)
  | lst {l : List Val} {a : Addr} {xs : List V} : H a = some (.lst xs) → ¬ ow a → RVs K H p ow l xs → RV K H p ow (.lst l) (.ref a)
  | scr {l : List Val} {a : Addr} {xs : List V} : FL K H ow a xs → RVs K H p ow l xs → RV K H p ow (.scr l) (.ref a)
  | dct {ks : List Key} {vs : List Val} {a : Addr} {kvs : List (Key × V)} : H a = some (.dK kvs) → ¬ ow a → kvs.map (·.1) = ks → RVs K H p ow vs (kvs.map (·.2)) → RV K H p ow (.dct ks vs) (.ref a)
  | obj {c : Str} {ks : List Str} {vs : List Val} {a dx : Addr} {fs : List (Str × V)} : H a = some (.ins (He.ga K c) dx fs) → ¬ ow a → fs.map (·.1) = ks → RVs K H p ow vs (fs.map (·.2)) → RV K H p ow (.obj c ks vs) (.ref a)
  | glo {x : Str} : RV K H p ow (.glo x) (.ref (He.ga K x))
  | loc {n : Nat} {a : Addr} : p.l[n]? = some a → RV K H p ow (.loc n) (.ref a)
inductive RVs (K : PySem.W.Frag) (H : Hp) (p : Loc) (ow : Addr → Prop) : List Val → List V → Prop
  | nil : RVs K H p ow [] []
  | cons {v : Val} {x : V} {vs : List Val} {xs : List V} : RV K H p ow v x → RVs K H p ow vs xs → RVs K H p ow (v :: vs) (x :: xs)
end

/-- what stands keeps standing -/
structure Kq (H : Hp) (p : Loc) (ow : Addr → Prop) (H' : Hp) (p' : Loc) (ow' : Addr → Prop) : Prop where
  fr : ∀ a o, H a = some o → ¬ ow a → H' a = some o ∧ ¬ ow' a
  px : p.l <+: p'.l
structure Kp (H : Hp) (p : Loc) (ow : Addr → Prop) (H' : Hp) (p' : Loc) (ow' : Addr → Prop) : Prop extends Kq H p ow H' p' ow' where
  zz : p'.z = p.z
  hid : ∀ a, p.z a → H' a = H a
theorem Kq.trans {H H1 H2 : Hp} {p p1 p2 : Loc} {ow ow1 ow2 : Addr → Prop} (a : Kq H p ow H1 p1 ow1) (b : Kq H1 p1 ow1 H2 p2 ow2) : Kq H p ow H2 p2 ow2 :=
  ⟨fun x o e n => let ⟨e1, n1⟩ := a.fr x o e n; b.fr x o e1 n1, a.px.trans b.px⟩
theorem Kp.refl {H : Hp} {p : Loc} {ow : Addr → Prop} : Kp H p ow H p ow := ⟨⟨fun _ _ e n => ⟨e, n⟩, List.prefix_refl _⟩, rfl, fun _ _ => rfl⟩
theorem Kp.trans {H H1 H2 : Hp} {p p1 p2 : Loc} {ow ow1 ow2 : Addr → Prop} (a : Kp H p ow H1 p1 ow1) (b : Kp H1 p1 ow1 H2 p2 ow2) : Kp H p ow H2 p2 ow2 :=
  ⟨⟨fun x o e n => let ⟨e1, n1⟩ := a.fr x o e n; b.fr x o e1 n1, a.px.trans b.px⟩, b.zz.trans a.zz, fun x q => (b.hid x (by rw [a.zz]; exact q)).trans (a.hid x q)⟩
theorem px_get {p p' : List Addr} (h : p <+: p') {n : Nat} {a : Addr} (e : p[n]? = some a) : p'[n]? = some a := by
  obtain ⟨t, rfl⟩ := h
  rw [List.getElem?_append_left (List.getElem?_eq_some_iff.mp e).1]
  exact e

section
variable {K : PySem.W.Frag} {H H' : Hp} {p p' : Loc} {ow ow' : Addr → Prop}
theorem Kq.fl (k : Kq H p ow H' p' ow') {a : Addr} {xs : List V} (h : FL K H ow a xs) : FL K H' ow' a xs := by
  rcases h with ⟨h | ⟨o, h⟩, n⟩ | h
  · have := k.fr _ _ h n
    exact .inl ⟨.inl this.1, this.2⟩
  · have := k.fr _ _ h n
    exact .inl ⟨.inr ⟨o, this.1⟩, this.2⟩
  · exact .inr h
theorem Kq.ft (k : Kq H p ow H' p' ow') {a : Addr} {xs : List V} (h : FT K H ow a xs) : FT K H' ow' a xs := by
  rcases h with ⟨h, n⟩ | h
  · exact .inl (k.fr _ _ h n)
  · exact .inr h
mutual
theorem RV.monq (k : Kq H p ow H' p' ow') : ∀ {v : Val} {x : V}, RV K H p ow v x → RV K H' p' ow' v x
  | _, _, .non => .non
  | _, _, .bl => .bl
  | _, _, .int => .int
  | _, _, .str => .str
  | _, _, .ty => .ty
  | _, _, .tup h r => .tup (k.ft h) (RVs.monq k r)
  | _, _, .lst h n r => .lst (k.fr _ _ h n).1 (k.fr _ _ h n).2 (RVs.monq k r)
  | _, _, .scr h r => .scr (k.fl h) (RVs.monq k r)
  | _, _, .dct h n e r => .dct (k.fr _ _ h n).1 (k.fr _ _ h n).2 e (RVs.monq k r)
  | _, _, .obj h n e r => .obj (k.fr _ _ h n).1 (k.fr _ _ h n).2 e (RVs.monq k r)
  | _, _, .glo => .glo
  | _, _, .loc e => .loc (px_get k.px e)
theorem RVs.monq (k : Kq H p ow H' p' ow') : ∀ {vs : List Val} {xs : List V}, RVs K H p ow vs xs → RVs K H' p' ow' vs xs
  | _, _, .nil => .nil
  | _, _, .cons r t => .cons (RV.monq k r) (RVs.monq k t)
end
theorem RV.mono (k : Kp H p ow H' p' ow') {v : Val} {x : V} (q : RV K H p ow v x) : RV K H' p' ow' v x := q.monq k.toKq
theorem RVs.mono (k : Kp H p ow H' p' ow') {v : List Val} {x : List V} (q : RVs K H p ow v x) : RVs K H' p' ow' v x := q.monq k.toKq
mutual
theorem RV.lz (e : p'.l = p.l) : ∀ {v : Val} {x : V}, RV K H p ow v x → RV K H p' ow v x
  | _, _, .non => .non
  | _, _, .bl => .bl
  | _, _, .int => .int
  | _, _, .str => .str
  | _, _, .ty => .ty
  | _, _, .tup h r => .tup h (RVs.lz e r)
  | _, _, .lst h n r => .lst h n (RVs.lz e r)
  | _, _, .scr h r => .scr h (RVs.lz e r)
  | _, _, .dct h n q r => .dct h n q (RVs.lz e r)
  | _, _, .obj h n q r => .obj h n q (RVs.lz e r)
  | _, _, .glo => .glo
  | _, _, .loc q => .loc (by rw [e]; exact q)
theorem RVs.lz (e : p'.l = p.l) : ∀ {vs : List Val} {xs : List V}, RVs K H p ow vs xs → RVs K H p' ow vs xs
  | _, _, .nil => .nil
  | _, _, .cons r t => .cons (RV.lz e r) (RVs.lz e t)
end
theorem RVs.length : ∀ {vs : List Val} {xs : List V}, RVs K H p ow vs xs → vs.length = xs.length
  | _, _, .nil => rfl
  | _, _, .cons _ t => congrArg Nat.succ (RVs.length t)
theorem RVs.get : ∀ {vs : List Val} {xs : List V} {i : Nat} {v : Val}, RVs K H p ow vs xs → vs[i]? = some v → ∃ x, xs[i]? = some x ∧ RV K H p ow v x
  | _, _, 0, _, .cons r _, e => by simp at e; subst e; exact ⟨_, rfl, r⟩
  | _, _, i + 1, _, .cons _ t, e => by
    obtain ⟨x, e1, r⟩ := RVs.get (i := i) t (by simpa using e)
    exact ⟨x, by simpa using e1, r⟩
theorem RVs.getR : ∀ {vs : List Val} {xs : List V} {i : Nat} {x : V}, RVs K H p ow vs xs → xs[i]? = some x → ∃ v, vs[i]? = some v ∧ RV K H p ow v x
  | _, _, 0, _, .cons r _, e => by simp at e; subst e; exact ⟨_, rfl, r⟩
  | _, _, i + 1, _, .cons _ t, e => by
    obtain ⟨x, e1, r⟩ := RVs.getR (i := i) t (by simpa using e)
    exact ⟨x, by simpa using e1, r⟩
theorem RVs.append : ∀ {vs ws : List Val} {xs ys : List V}, RVs K H p ow vs xs → RVs K H p ow ws ys → RVs K H p ow (vs ++ ws) (xs ++ ys)
  | _, _, _, _, .nil, s => s
  | _, _, _, _, .cons r t, s => .cons r (RVs.append t s)
theorem RVs.take : ∀ {vs : List Val} {xs : List V} (n : Nat), RVs K H p ow vs xs → RVs K H p ow (vs.take n) (xs.take n)
  | _, _, 0, _ => by simp; exact .nil
  | _, _, _ + 1, .nil => by simp; exact .nil
  | _, _, n + 1, .cons r t => .cons r (RVs.take n t)
theorem RVs.drop : ∀ {vs : List Val} {xs : List V} (n : Nat), RVs K H p ow vs xs → RVs K H p ow (vs.drop n) (xs.drop n)
  | _, _, 0, r => r
  | _, _, _ + 1, .nil => .nil
  | _, _, n + 1, .cons _ t => RVs.drop n t
theorem RVs.set {v : Val} {x : V} (r : RV K H p ow v x) : ∀ {vs : List Val} {xs : List V} (i : Nat), RVs K H p ow vs xs → RVs K H p ow (vs.set i v) (xs.set i x)
  | _, _, _, .nil => .nil
  | _, _, 0, .cons _ t => .cons r t
  | _, _, i + 1, .cons q t => .cons q (RVs.set r i t)
end

/-- the pairs of a dict, the fields of an instance -/
inductive RKs {κ : Type} (K : PySem.W.Frag) (H : Hp) (p : Loc) (ow : Addr → Prop) : List (κ × Val) → List (κ × V) → Prop
  | nil : RKs K H p ow [] []
  | cons {k : κ} {v : Val} {x : V} {l : List (κ × Val)} {xs : List (κ × V)} : RV K H p ow v x → RKs K H p ow l xs → RKs K H p ow ((k, v) :: l) ((k, x) :: xs)
theorem RKs.monq {κ : Type} {K : PySem.W.Frag} {H H' : Hp} {p p' : Loc} {ow ow' : Addr → Prop} (k : Kq H p ow H' p' ow') {l : List (κ × Val)} {xs : List (κ × V)} (h : RKs K H p ow l xs) : RKs K H' p' ow' l xs := by
  induction h with
  | nil => exact .nil
  | cons r _ ih => exact .cons (r.monq k) ih
theorem RKs.mono {κ : Type} {K : PySem.W.Frag} {H H' : Hp} {p p' : Loc} {ow ow' : Addr → Prop} (k : Kp H p ow H' p' ow') {l : List (κ × Val)} {xs : List (κ × V)} (h : RKs K H p ow l xs) : RKs K H' p' ow' l xs := h.monq k.toKq

def RO (K : PySem.W.Frag) (H : Hp) (p : Loc) (ow : Addr → Prop) : Ob → Option HO → Prop
  | .lst l, o => ∃ xs, o = some (.lst xs) ∧ RVs K H p ow l xs
  | .dct kvs, o => ∃ xs, o = some (.dK xs) ∧ RKs K H p ow kvs xs
  | .ins c fs, o => ∃ dx xs, o = some (.ins (He.ga K c) dx xs) ∧ RKs K H p ow fs xs
theorem RO.monq {K : PySem.W.Frag} {H H' : Hp} {p p' : Loc} {ow ow' : Addr → Prop} (k : Kq H p ow H' p' ow') {o : Ob} {u : Option HO} (h : RO K H p ow o u) : RO K H' p' ow' o u := by
  cases o with
  | lst l => obtain ⟨xs, e, r⟩ := h; exact ⟨xs, e, r.monq k⟩
  | dct l => obtain ⟨xs, e, r⟩ := h; exact ⟨xs, e, r.monq k⟩
  | ins c l => obtain ⟨dx, xs, e, r⟩ := h; exact ⟨dx, xs, e, r.monq k⟩
theorem RO.mono {K : PySem.W.Frag} {H H' : Hp} {p p' : Loc} {ow ow' : Addr → Prop} (k : Kp H p ow H' p' ow') {o : Ob} {u : Option HO} (h : RO K H p ow o u) : RO K H' p' ow' o u := h.monq k.toKq
theorem RO.some {K : PySem.W.Frag} {H : Hp} {p : Loc} {ow : Addr → Prop} {o : Ob} {u : Option HO} (h : RO K H p ow o u) : ∃ x, u = Option.some x := by
  cases o with
  | lst l => obtain ⟨xs, e, r⟩ := h; exact ⟨_, e⟩
  | dct l => obtain ⟨xs, e, r⟩ := h; exact ⟨_, e⟩
  | ins c l => obtain ⟨dx, xs, e, r⟩ := h; exact ⟨_, e⟩

/-- the small heap is held -/
structure RH (K : PySem.W.Frag) (p : Loc) (h : Hs) (H : Hp) : Prop where
  len : p.l.length = h.length
  inj : ∀ (n m : Nat) (a : Addr), p.l[n]? = some a → p.l[m]? = some a → n = m
  tr : ∀ (n : Nat) (a : Addr), p.l[n]? = some a → ∃ o, H a = some o
  zt : ∀ a, p.z a → ∃ o, H a = some o
  zn : ∀ (a : Addr) (n : Nat), p.z a → p.l[n]? ≠ some a
  at_ : ∀ (n : Nat) (o : Ob), h[n]? = some (some o) → ∃ a, p.l[n]? = some a ∧ RO K H p (Ow p h) o (H a)

/-- a step -/
abbrev Stp (p : Loc) (h : Hs) (H : Hp) (p' : Loc) (h' : Hs) (H' : Hp) : Prop := Kp H p (Ow p h) H' p' (Ow p' h')

section
variable {K : PySem.W.Frag} {p : Loc} {h : Hs} {H : Hp} {a : Addr} {o : HO}
theorem RH.zne (r : RH K p h H) (n : H a = none) {b : Addr} (q : p.z b) : b ≠ a := by
  obtain ⟨u, e⟩ := r.zt b q
  exact ne_of_none e n
/-- a new object that nobody owns -/
theorem stp_new (r : RH K p h H) (n : H a = none) : Stp p h H p h (upd H a o) :=
  ⟨⟨fun b u e hb => ⟨by rw [upd_ne (ne_of_none e n)]; exact e, hb⟩, List.prefix_refl _⟩, rfl, fun b q => upd_ne (r.zne n q)⟩
theorem rh_new (r : RH K p h H) (n : H a = none) : RH K p h (upd H a o) := by
  refine ⟨r.len, r.inj, fun k b e => ?_, fun b q => ?_, r.zn, fun k ob e => ?_⟩
  · obtain ⟨u, eu⟩ := r.tr k b e
    exact ⟨u, by rw [upd_ne (ne_of_none eu n)]; exact eu⟩
  · obtain ⟨u, eu⟩ := r.zt b q
    exact ⟨u, by rw [upd_ne (ne_of_none eu n)]; exact eu⟩
  obtain ⟨b, e1, q⟩ := r.at_ k ob e
  obtain ⟨u, eu⟩ := q.some
  refine ⟨b, e1, ?_⟩
  rw [upd_ne (ne_of_none eu n)]
  exact q.mono (stp_new r n)
theorem not_ow (r : RH K p h H) (n : H a = none) : ¬ Ow p h a := by
  rintro (⟨k, o, e1, e2⟩ | q)
  · obtain ⟨b, e3, q⟩ := r.at_ k o e1
    rw [e2] at e3
    cases e3
    obtain ⟨u, eu⟩ := q.some
    rw [n] at eu
    cases eu
  · exact r.zne n q rfl
/-! ### a new object of the small heap -/
theorem ow_push {u : Ob} (r : RH K p h H) {b : Addr} : Ow (p.add a) (h ++ [some u]) b ↔ Ow p h b ∨ b = a := by
  constructor
  · rintro (⟨k, o, e1, e2⟩ | q)
    · have e2 : (p.l ++ [a])[k]? = some b := e2
      by_cases hk : k < h.length
      · rw [List.getElem?_append_left hk] at e1
        rw [List.getElem?_append_left (by rw [r.len]; exact hk)] at e2
        exact .inl (.inl ⟨k, o, e1, e2⟩)
      · have hk' : k = h.length := by
          have h1 := (List.getElem?_eq_some_iff.mp e1).1
          rw [List.length_append, List.length_singleton] at h1
          omega
        subst hk'
        rw [← r.len, List.getElem?_append_right (Nat.le_refl _), Nat.sub_self] at e2
        simp at e2
        exact .inr e2.symm
    · exact .inl (.inr q)
  · rintro ((⟨k, o, e1, e2⟩ | q) | rfl)
    · exact .inl ⟨k, o, by rw [List.getElem?_append_left (List.getElem?_eq_some_iff.mp e1).1]; exact e1, px_get (List.prefix_append _ _) e2⟩
    · exact .inr q
    · refine .inl ⟨h.length, u, ?_, ?_⟩
      · rw [List.getElem?_append_right (Nat.le_refl _), Nat.sub_self]; rfl
      · show (p.l ++ [b])[h.length]? = some b
        rw [← r.len, List.getElem?_append_right (Nat.le_refl _), Nat.sub_self]; rfl
theorem stp_push {u : Ob} (r : RH K p h H) (n : H a = none) : Stp p h H (p.add a) (h ++ [some u]) (upd H a o) :=
  ⟨⟨fun b v e hb => ⟨by rw [upd_ne (ne_of_none e n)]; exact e, fun q => ((ow_push r).mp q).elim hb fun z => ne_of_none e n z⟩, List.prefix_append _ _⟩, rfl, fun b q => upd_ne (r.zne n q)⟩
theorem rh_push {u : Ob} (r : RH K p h H) (n : H a = none) (q : RO K (upd H a o) (p.add a) (Ow (p.add a) (h ++ [some u])) u (some o)) : RH K (p.add a) (h ++ [some u]) (upd H a o) := by
  have low : ∀ {k : Nat} {b : Addr}, (p.l ++ [a])[k]? = some b → (p.l[k]? = some b ∧ b ≠ a) ∨ (k = p.l.length ∧ b = a) := fun {k b} e => by
    by_cases hk : k < p.l.length
    · rw [List.getElem?_append_left hk] at e
      obtain ⟨v, hv⟩ := r.tr k b e
      exact .inl ⟨e, ne_of_none hv n⟩
    · rw [List.getElem?_append_right (by omega)] at e
      have h1 := (List.getElem?_eq_some_iff.mp e).1
      simp only [List.length_singleton] at h1
      have hz : k - p.l.length = 0 := by omega
      rw [hz] at e
      simp at e
      exact .inr ⟨by omega, e.symm⟩
  refine ⟨by simp [Loc.add, r.len], fun k m b e1 e2 => ?_, fun k b e => ?_, fun b z => ?_, fun b k z e => ?_, fun k ob e => ?_⟩
  · rcases low e1 with ⟨x1, y1⟩ | ⟨x1, y1⟩ <;> rcases low e2 with ⟨x2, y2⟩ | ⟨x2, y2⟩
    · exact r.inj _ _ _ x1 x2
    · exact absurd y2 y1
    · exact absurd y1 y2
    · rw [x1, x2]
  · rcases low e with ⟨x1, y1⟩ | ⟨x1, y1⟩
    · obtain ⟨v, hv⟩ := r.tr k b x1
      exact ⟨v, by rw [upd_ne y1]; exact hv⟩
    · exact ⟨o, by rw [y1, upd_same]⟩
  · obtain ⟨v, hv⟩ := r.zt b z
    exact ⟨v, by rw [upd_ne (ne_of_none hv n)]; exact hv⟩
  · rcases low e with ⟨x1, y1⟩ | ⟨x1, y1⟩
    · exact r.zn b k z x1
    · exact r.zne n z y1
  · by_cases hk : k < h.length
    · rw [List.getElem?_append_left hk] at e
      obtain ⟨b, e1, q1⟩ := r.at_ k ob e
      obtain ⟨v, hv⟩ := q1.some
      refine ⟨b, px_get (List.prefix_append _ _) e1, ?_⟩
      rw [upd_ne (ne_of_none hv n)]
      exact q1.mono (stp_push r n)
    · have h1 := (List.getElem?_eq_some_iff.mp e).1
      rw [List.length_append, List.length_singleton] at h1
      have hk' : k = h.length := by omega
      subst hk'
      rw [List.getElem?_append_right (Nat.le_refl _), Nat.sub_self] at e
      simp at e
      subst e
      refine ⟨a, ?_, ?_⟩
      · show (p.l ++ [a])[h.length]? = some a
        rw [← r.len, List.getElem?_append_right (Nat.le_refl _), Nat.sub_self]; rfl
      rw [upd_same]
      exact q
/-- a live object is written -/
theorem ow_set {u : Ob} {k : Nat} {v : Ob} (e : h[k]? = some (some v)) {b : Addr} : Ow p (h.set k (some u)) b ↔ Ow p h b := by
  have hk := (List.getElem?_eq_some_iff.mp e).1
  constructor
  · rintro (⟨j, w, e1, e2⟩ | q)
    · by_cases hj : j = k
      · subst hj; exact .inl ⟨j, v, e, e2⟩
      · rw [List.getElem?_set_ne (Ne.symm hj)] at e1; exact .inl ⟨j, w, e1, e2⟩
    · exact .inr q
  · rintro (⟨j, w, e1, e2⟩ | q)
    · by_cases hj : j = k
      · subst hj; exact .inl ⟨j, u, by rw [List.getElem?_set_self hk], e2⟩
      · exact .inl ⟨j, w, by rw [List.getElem?_set_ne (Ne.symm hj)]; exact e1, e2⟩
    · exact .inr q
theorem stp_set {u v : Ob} {k : Nat} (r : RH K p h H) (e : h[k]? = some (some v)) (ea : p.l[k]? = some a) : Stp p h H p (h.set k (some u)) (upd H a o) :=
  ⟨⟨fun b w eb hb => by
    have hne : b ≠ a := fun z => hb (.inl ⟨k, v, e, z ▸ ea⟩)
    exact ⟨by rw [upd_ne hne]; exact eb, fun q => hb ((ow_set e).mp q)⟩, List.prefix_refl _⟩, rfl, fun b q => upd_ne fun z => r.zn b k q (z ▸ ea)⟩
theorem rh_set {u v : Ob} {k : Nat} (r : RH K p h H) (e : h[k]? = some (some v)) (ea : p.l[k]? = some a) (q : RO K (upd H a o) p (Ow p (h.set k (some u))) u (some o)) : RH K p (h.set k (some u)) (upd H a o) := by
  have hk := (List.getElem?_eq_some_iff.mp e).1
  refine ⟨by rw [List.length_set]; exact r.len, r.inj, fun j b eb => ?_, fun b z => ?_, r.zn, fun j ob eb => ?_⟩
  · by_cases hb : b = a
    · exact ⟨o, by rw [hb, upd_same]⟩
    · obtain ⟨x, hx⟩ := r.tr j b eb
      exact ⟨x, by rw [upd_ne hb]; exact hx⟩
  · obtain ⟨x, hx⟩ := r.zt b z
    have hne : b ≠ a := fun y => r.zn b k z (by rw [y]; exact ea)
    exact ⟨x, by rw [upd_ne hne]; exact hx⟩
  · by_cases hj : j = k
    · subst hj
      rw [List.getElem?_set_self hk] at eb
      cases eb
      exact ⟨a, ea, by rw [upd_same]; exact q⟩
    · rw [List.getElem?_set_ne (Ne.symm hj)] at eb
      obtain ⟨b, e1, q1⟩ := r.at_ j ob eb
      have hb : b ≠ a := fun z => hj (r.inj _ _ _ (z ▸ e1) ea)
      refine ⟨b, e1, ?_⟩
      rw [upd_ne hb]
      exact q1.mono (stp_set r e ea)
/-- a live object is let go: it is frozen -/
theorem get_kill {k j : Nat} {w : Ob} (e1 : (h.set k none)[j]? = some (some w)) : j ≠ k ∧ h[j]? = some (some w) := by
  by_cases hj : j = k
  · subst hj
    by_cases hk : j < h.length
    · rw [List.getElem?_set_self hk] at e1; cases e1
    · rw [List.getElem?_eq_none (by rw [List.length_set]; omega)] at e1; cases e1
  · rw [List.getElem?_set_ne (Ne.symm hj)] at e1; exact ⟨hj, e1⟩
theorem ow_kill {k : Nat} {b : Addr} (q : Ow p (h.set k none) b) : Ow p h b := by
  rcases q with ⟨j, w, e1, e2⟩ | q
  · exact .inl ⟨j, w, (get_kill e1).2, e2⟩
  · exact .inr q
theorem stp_kill {k : Nat} : Stp p h H p (h.set k none) H := ⟨⟨fun b w eb hb => ⟨eb, fun q => hb (ow_kill q)⟩, List.prefix_refl _⟩, rfl, fun _ _ => rfl⟩
theorem rh_kill {k : Nat} (r : RH K p h H) : RH K p (h.set k none) H := by
  refine ⟨by rw [List.length_set]; exact r.len, r.inj, r.tr, r.zt, r.zn, fun j ob eb => ?_⟩
  obtain ⟨b, e1, q1⟩ := r.at_ j ob (get_kill eb).2
  exact ⟨b, e1, q1.mono stp_kill⟩
theorem ow_kill_not {k : Nat} (r : RH K p h H) (ea : p.l[k]? = some a) : ¬ Ow p (h.set k none) a := by
  rintro (⟨j, w, e1, e2⟩ | q)
  · exact (get_kill e1).1 (r.inj _ _ _ e2 ea)
  · exact r.zn a k q ea
/-! ### a new object, hidden for a while -/
theorem ow_hide {b : Addr} : Ow (p.hide a) h b ↔ Ow p h b ∨ b = a := by
  constructor
  · rintro (q | q | q)
    · exact .inl (.inl q)
    · exact .inl (.inr q)
    · exact .inr q
  · rintro ((q | q) | q)
    · exact .inl q
    · exact .inr (.inl q)
    · exact .inr (.inr q)
theorem kq_hide (n : H a = none) : Kq H p (Ow p h) (upd H a o) (p.hide a) (Ow (p.hide a) h) :=
  ⟨fun b u e hb => ⟨by rw [upd_ne (ne_of_none e n)]; exact e, fun q => (ow_hide.mp q).elim hb fun z => ne_of_none e n z⟩, List.prefix_refl _⟩
theorem rh_hide (r : RH K p h H) (n : H a = none) : RH K (p.hide a) h (upd H a o) := by
  refine ⟨r.len, r.inj, fun k b e => ?_, fun b q => ?_, fun b k q e => ?_, fun k ob e => ?_⟩
  · obtain ⟨u, eu⟩ := r.tr k b e
    exact ⟨u, by rw [upd_ne (ne_of_none eu n)]; exact eu⟩
  · rcases q with q | q
    · obtain ⟨u, eu⟩ := r.zt b q
      exact ⟨u, by rw [upd_ne (ne_of_none eu n)]; exact eu⟩
    · exact ⟨o, by rw [q, upd_same]⟩
  · rcases q with q | q
    · exact r.zn b k q e
    · obtain ⟨u, eu⟩ := r.tr k b e
      exact ne_of_none eu n q
  · obtain ⟨b, e1, q⟩ := r.at_ k ob e
    obtain ⟨u, eu⟩ := q.some
    refine ⟨b, e1, ?_⟩
    rw [upd_ne (ne_of_none eu n)]
    exact q.monq (kq_hide n)
/-- what is hidden is written -/
theorem kq_hid (z : p.z a) : Kq H p (Ow p h) (upd H a o) p (Ow p h) :=
  ⟨fun b u e hb => ⟨by rw [upd_ne fun y => hb (.inr (by rw [y]; exact z))]; exact e, hb⟩, List.prefix_refl _⟩
theorem rh_hid (r : RH K p h H) (z : p.z a) : RH K p h (upd H a o) := by
  refine ⟨r.len, r.inj, fun k b e => ?_, fun b q => ?_, r.zn, fun k ob e => ?_⟩
  · obtain ⟨u, eu⟩ := r.tr k b e
    exact ⟨u, by rw [upd_ne fun y => r.zn a k z (by rw [← y]; exact e)]; exact eu⟩
  · by_cases hb : b = a
    · exact ⟨o, by rw [hb, upd_same]⟩
    · obtain ⟨u, eu⟩ := r.zt b q
      exact ⟨u, by rw [upd_ne hb]; exact eu⟩
  · obtain ⟨b, e1, q⟩ := r.at_ k ob e
    refine ⟨b, e1, ?_⟩
    rw [upd_ne fun y => r.zn a k z (by rw [← y]; exact e1)]
    exact q.monq (kq_hid z)
/-- it is shown -/
theorem kq_show : Kq H (p.hide a) (Ow (p.hide a) h) H p (Ow p h) := ⟨fun b u e hb => ⟨e, fun q => hb (ow_hide.mpr (.inl q))⟩, List.prefix_refl _⟩
theorem rh_show (r : RH K (p.hide a) h H) : RH K p h H :=
  ⟨r.len, r.inj, r.tr, fun b q => r.zt b (.inl q), fun b k q => r.zn b k (.inl q), fun k ob e => let ⟨b, e1, q⟩ := r.at_ k ob e; ⟨b, e1, q.monq kq_show⟩⟩
theorem show_not (r : RH K (p.hide a) h H) (nz : ¬ p.z a) : ¬ Ow p h a := by
  rintro (⟨k, o, e1, e2⟩ | q)
  · exact r.zn a k (.inr rfl) e2
  · exact nz q
/-- what comes of a step while a is hidden -/
theorem hid_of {p P : Loc} {h h' : Hs} {H H' : Hp} {a : Addr} (s : Stp (p.hide a) h H P h' H') : ∃ p' : Loc, P = p'.hide a ∧ p'.z = p.z := by
  obtain ⟨l, z⟩ := P
  refine ⟨⟨l, p.z⟩, ?_, rfl⟩
  have e : z = fun b => p.z b ∨ b = a := s.zz
  rw [e]
  rfl
theorem stp_thru {p0 p p' : Loc} {h0 h h' : Hs} {H0 H H' : Hp} {a : Addr} (n : H0 a = none) (s : Stp p0 h0 H0 p h H) (s' : Stp (p.hide a) h H (p'.hide a) h' H') (e : p'.z = p.z) : Stp p0 h0 H0 p' h' H' :=
  ⟨⟨fun b u eb hb => by
    obtain ⟨e1, n1⟩ := s.fr b u eb hb
    obtain ⟨e2, n2⟩ := s'.fr b u e1 fun z => (ow_hide.mp z).elim n1 fun y => ne_of_none eb n y
    exact ⟨e2, fun z => n2 (ow_hide.mpr (.inl z))⟩, s.px.trans s'.px⟩, e.trans s.zz, fun b q => (s'.hid b (.inl (by rw [s.zz]; exact q))).trans (s.hid b q)⟩
theorem stp_updD {p0 p : Loc} {h0 h : Hs} {H0 H : Hp} {a : Addr} {o : HO} (n : H0 a = none) (r0 : ¬ p0.z a) (s : Stp p0 h0 H0 p h H) : Stp p0 h0 H0 p h (upd H a o) :=
  ⟨⟨fun b u eb hb => by
    obtain ⟨e1, n1⟩ := s.fr b u eb hb
    exact ⟨by rw [upd_ne (ne_of_none eb n)]; exact e1, n1⟩, s.px⟩, s.zz, fun b q => (upd_ne fun y => r0 (by rw [← y]; exact q)).trans (s.hid b q)⟩
end
end Ev

namespace Ev
open PySem PySem.Spec PyProof.Rows L2

/-! ### what is wanted of a run of the small machine -/
abbrev Rl (α β : Type) := Hp → Loc → (Addr → Prop) → α → β → Prop
/-- an exception, as it lies in the heap -/
def RX (K : PySem.W.Frag) (H : Hp) (p : Loc) (ow : Addr → Prop) (e : Exc) (cls : Value) (d : Option Addr) : Prop :=
  cls = .ref (He.ga K e.cls) ∧ (match d with
    | none => e.fs = []
    | some dx => ∃ xs, H dx = some (.xd xs) ∧ ¬ ow dx ∧ RKs K H p ow e.fs xs)
/-- r is the run's end; Q is wanted behind, W of exceptions -/
def PO {α β : Type} (K : PySem.W.Frag) (R : Rl α β) (W : XK) (r : Out α) (p : Loc) (h : Hs) (H : Hp) (Q : β → Hp → Prop) : Prop := match r with
  | .ok a h' => ∀ p' H' x, Stp p h H p' h' H' → RH K p' h' H' → R H' p' (Ow p' h') a x → Q x H'
  | .exc e h' => ∀ p' H' cls d, Stp p h H p' h' H' → RH K p' h' H' → RX K H' p' (Ow p' h') e cls d → W cls d H'
  | .bad => False
abbrev RB : Rl Bool Bool := fun _ _ _ a b => a = b
section
variable {α β γ δ : Type} {K : PySem.W.Frag} {R : Rl α β} {R' : Rl γ δ} {W : XK} {p p1 : Loc} {h h1 : Hs} {H H1 : Hp}
theorem PO.stp {r : Out α} {Q : β → Hp → Prop} (s : Stp p h H p1 h1 H1) (q : PO K R W r p h H Q) : PO K R W r p1 h1 H1 Q := by
  cases r with
  | ok a h' => exact fun p' H' x s' r' v => q p' H' x (s.trans s') r' v
  | exc e h' => exact fun p' H' c d s' r' v => q p' H' c d (s.trans s') r' v
  | bad => exact q
/-- behind the first step -/
def PN (K : PySem.W.Frag) (R : Rl α β) (W : XK) (R' : Rl γ δ) (p : Loc) (h : Hs) (H : Hp) (f : α → M γ) (Q : δ → Hp → Prop) : β → Hp → Prop := fun x H1 =>
  ∃ p1 h1 a, Stp p h H p1 h1 H1 ∧ RH K p1 h1 H1 ∧ R H1 p1 (Ow p1 h1) a x ∧ PO K R' W (f a h1) p1 h1 H1 Q
theorem PO.bind {m : M α} {f : α → M γ} {Q : δ → Hp → Prop} (q : PO K R' W ((m >>= f) h) p h H Q) : PO K R W (m h) p h H (PN K R W R' p h H f Q) := by
  cases e : m h with
  | ok a h' =>
    rw [bind_ok e] at q
    exact fun p' H' x s r v => ⟨p', h', a, s, r, v, q.stp s⟩
  | exc z h' =>
    rw [bind_exc e] at q
    exact q
  | bad =>
    have e2 : (m >>= f) h = .bad := by
      show M.bind m f h = _
      unfold M.bind
      rw [e]
    rw [e2] at q
    exact q
theorem PO.imp {r : Out α} {Q Q' : β → Hp → Prop} (i : ∀ x H', Q x H' → Q' x H') (q : PO K R W r p h H Q) : PO K R W r p h H Q' := by
  cases r with
  | ok a h' => exact fun p' H' x s r v => i _ _ (q p' H' x s r v)
  | exc e h' => exact q
  | bad => exact q
theorem PO.pure {a : α} {x : β} {Q : β → Hp → Prop} (q : PO K R W (Out.ok a h) p h H Q) (r : RH K p h H) (v : R H p (Ow p h) a x) : Q x H := q p H x .refl r v
end

/-! ### slots -/
abbrev Rho := List (Option Val)
structure RS (K : PySem.W.Frag) (p : Loc) (h : Hs) (H : Hp) (ρ : Rho) (σ : L2.St) : Prop where
  rh : RH K p h H
  len : ρ.length = σ.length
  at_ : ∀ (i : Nat) (v : Val), ρ[i]? = some (some v) → ∃ x, σ[i]? = some (some x) ∧ RV K H p (Ow p h) v x
theorem RS.stp {K : PySem.W.Frag} {p p1 : Loc} {h h1 : Hs} {H H1 : Hp} {ρ : Rho} {σ : L2.St} (r : RS K p h H ρ σ) (s : Stp p h H p1 h1 H1) (r1 : RH K p1 h1 H1) : RS K p1 h1 H1 ρ σ :=
  ⟨r1, r.len, fun i v e => let ⟨x, e1, q⟩ := r.at_ i v e; ⟨x, e1, q.mono s⟩⟩

/-- an expression's reading by the small machine -/
def tG {α β : Type} (K : PySem.W.Frag) (R : Rl α β) (W : WX) (m : Rho → M α) : L2.St → Hp → (β → Hp → Prop) → Prop := fun σ H Q =>
  ∃ p ρ h, RS K p h H ρ σ ∧ PO K R (fun c d H' => W c d σ H') (m ρ h) p h H Q
abbrev tE (K : PySem.W.Frag) (W : WX) (m : Rho → M Val) : TE := tG K (RV K) W m
abbrev tT (K : PySem.W.Frag) (W : WX) (m : Rho → M Bool) : TT := tG K RB W m
abbrev tA (K : PySem.W.Frag) (W : WX) (m : Rho → M (List Val)) : TA := tG K (RVs K) W m

theorem pe_imp {X : Cx} {e : Expr} {t t' : TE} (h : PE X e t) (i : ∀ σ H Q, t' σ H Q → t σ H Q) : PE X e t' := ⟨fun pins s σ H Q I q => h.run pins s σ H Q I (i σ H Q q)⟩
theorem pt_imp {X : Cx} {e : Expr} {t t' : TT} (h : PT X e t) (i : ∀ σ H Q, t' σ H Q → t σ H Q) : PT X e t' := ⟨fun pins s σ H Q I q => h.run pins s σ H Q I (i σ H Q q)⟩
theorem pw_imp {X : Cx} {e : Expr} {t t' : TT} (h : PW X e t) (i : ∀ σ H Q, t' σ H Q → t σ H Q) : PW X e t' := ⟨fun wh pins s σ H Q I q => h.run wh pins s σ H Q I (i σ H Q q)⟩
theorem pa_imp {X : Cx} {es : List Expr} {t t' : TA} (h : PA X es t) (i : ∀ σ H Q, t' σ H Q → t σ H Q) : PA X es t' := ⟨fun pos pins s σ H Q I q => h.run pos pins s σ H Q I (i σ H Q q)⟩

/-- one step, then another, in readings -/
theorem tG.bind {α β γ δ : Type} {K : PySem.W.Frag} {R : Rl α β} {R' : Rl γ δ} {W : WX} {m : Rho → M α} {f : Rho → α → M γ} {σ : L2.St} {H : Hp} {Q : δ → Hp → Prop} {T : β → Hp → Prop}
    (q : tG K R' W (fun ρ => do let a ← m ρ; f ρ a) σ H Q)
    (k : ∀ p1 ρ h1 a x H1, RS K p1 h1 H1 ρ σ → R H1 p1 (Ow p1 h1) a x → PO K R' (fun c d H' => W c d σ H') (f ρ a h1) p1 h1 H1 Q → T x H1) : tG K R W m σ H T := by
  obtain ⟨p, ρ, h, r, q⟩ := q
  exact ⟨p, ρ, h, r, (PO.bind q).imp fun x H1 ⟨p1, h1, a, s, r1, v, q1⟩ => k p1 ρ h1 a x H1 (r.stp s r1) v q1⟩

/-! ### operations on values -/
/-- an answer that leaves the small heap as it is -/
def liftO {α : Type} (o : Option α) : M α := fun h => match o with
  | some a => .ok a h
  | none => .bad
def PV1 (K : PySem.W.Frag) (p : Loc) (h : Hs) (H : Hp) (o : Option Val) (Q : VK) : Prop := match o with
  | some v => ∀ p' H' x, Stp p h H p' h H' → RH K p' h H' → RV K H' p' (Ow p' h) v x → Q x H'
  | none => False
theorem po_lift {K : PySem.W.Frag} {W : XK} {p : Loc} {h : Hs} {H : Hp} {o : Option Val} {Q : VK} (q : PO K (RV K) W (liftO o h) p h H Q) : PV1 K p h H o Q := by
  cases o with
  | some v => exact q
  | none => exact q
/-- g tells what f does -/
def OpS (X : Cx) (f : Value → Value → Sem Value) (g : Hs → Val → Val → Option Val) : Prop :=
  OpR X f fun x y H Q => ∃ p h va vb, RH X.K p h H ∧ RV X.K H p (Ow p h) va x ∧ RV X.K H p (Ow p h) vb y ∧ PV1 X.K p h H (g h va vb) Q
def UnS (X : Cx) (f : Value → Sem Value) (g : Hs → Val → Option Val) : Prop :=
  UnR X f fun x H Q => ∃ p h va, RH X.K p h H ∧ RV X.K H p (Ow p h) va x ∧ PV1 X.K p h H (g h va) Q
def CallS (X : Cx) (f : Value) (g : Hs → List Val → Option Val) : Prop :=
  CallR X f fun xs H Q => ∃ p h vs, RH X.K p h H ∧ RVs X.K H p (Ow p h) vs xs ∧ PV1 X.K p h H (g h vs) Q
theorem opr_imp {X : Cx} {f : Value → Value → Sem Value} {r r' : R2} (h : OpR X f r) (i : ∀ x y H Q, r' x y H Q → r x y H Q) : OpR X f r' := fun pins s σ H x y u v Q I rx ry q => h pins s σ H x y u v Q I rx ry (i x y H Q q)
theorem callr_imp {X : Cx} {f : Value} {r r' : List V → Hp → VK → Prop} (h : CallR X f r) (i : ∀ xs H Q, r' xs H Q → r xs H Q) : CallR X f r' := fun pins s σ H xs us Q I rx q => h pins s σ H xs us Q I rx (i xs H Q q)
theorem unr_imp {X : Cx} {f : Value → Sem Value} {r r' : V → Hp → VK → Prop} (h : UnR X f r) (i : ∀ x H Q, r' x H Q → r x H Q) : UnR X f r' := fun pins s σ H x u Q I rx q => h pins s σ H x u Q I rx (i x H Q q)

section
variable {X : Cx} {W : WX}
theorem pe_opS {op : Operator} {a b : Expr} {ma mb : Rho → M Val} {g : Hs → Val → Val → Option Val} {pos : Pos} (ho : OpS X (binaryOp op) g) (ha : PE X a (tE X.K W ma)) (hb : PE X b (tE X.K W mb)) :
    PE X (.BinOp a op b pos) (tE X.K W fun ρ => do let x ← ma ρ; let y ← mb ρ; fun h => liftO (g h x y) h) := by
  refine pe_imp (pe_op ho ha hb) fun σ H Q q => ?_
  refine tG.bind q fun p1 ρ h1 va x H1 r1 v1 q1 => ?_
  refine ⟨p1, ρ, h1, r1, (PO.bind q1).imp fun y H2 ⟨p2, h2, vb, s2, r2, v2, q2⟩ => ?_⟩
  exact ⟨p2, h2, va, vb, r2, v1.mono s2, v2, po_lift q2⟩
theorem pe_cmpS {op : CmpOp} {a b : Expr} {ma mb : Rho → M Val} {g : Hs → Val → Val → Option Val} {pos : Pos} (ho : OpS X (compareOp op) g) (ha : PE X a (tE X.K W ma)) (hb : PE X b (tE X.K W mb)) (hm : behindInMarks op b = false) :
    PE X (.Compare a [op] [b] pos) (tE X.K W fun ρ => do let x ← ma ρ; let y ← mb ρ; fun h => liftO (g h x y) h) := by
  refine pe_imp (pe_cmpR ho ha hb hm) fun σ H Q q => ?_
  refine tG.bind q fun p1 ρ h1 va x H1 r1 v1 q1 => ?_
  refine ⟨p1, ρ, h1, r1, (PO.bind q1).imp fun y H2 ⟨p2, h2, vb, s2, r2, v2, q2⟩ => ?_⟩
  exact ⟨p2, h2, va, vb, r2, v1.mono s2, v2, po_lift q2⟩
end
end Ev

namespace Ev
open PySem PySem.Spec PyProof.Rows L2

/-! ### looks at a value -/
def lstOf (h : Hs) : Val → Option (List Val)
  | .lst l => some l
  | .loc n => (match h[n]? with
    | some (some (.lst l)) => some l
    | _ => none)
  | _ => none
def seqOf (h : Hs) : Val → Option (List Val)
  | .tup l => some l
  | .scr l => some l
  | v => lstOf h v
section
variable {K : PySem.W.Frag} {p : Loc} {h : Hs} {H : Hp} {v : Val} {x : V} {l : List Val}
theorem lstOf_ok (r : RH K p h H) (q : RV K H p (Ow p h) v x) (e : lstOf h v = some l) : ∃ a xs, x = .ref a ∧ H a = some (.lst xs) ∧ RVs K H p (Ow p h) l xs := by
  cases q with
  | lst f n s => cases e; exact ⟨_, _, rfl, f, s⟩
  | @loc n a en =>
    have e : (match h[n]? with | some (some (.lst l)) => some l | _ => none) = some l := e
    cases hn : h[n]? with
    | none => rw [hn] at e; cases e
    | some o =>
      rw [hn] at e
      cases o with
      | none => cases e
      | some ob =>
        cases ob with
        | lst l' =>
          cases e
          obtain ⟨b, eb, q⟩ := r.at_ n _ hn
          rw [en] at eb
          cases eb
          obtain ⟨xs, e1, s⟩ := q
          exact ⟨_, _, rfl, e1, s⟩
        | dct _ => cases e
        | ins _ _ => cases e
  | _ => cases e
theorem tupOf_ok (q : RV K H p (Ow p h) (.tup l) x) : ∃ a xs, x = .ref a ∧ SqT K H a xs ∧ RVs K H p (Ow p h) l xs := by
  cases q with
  | tup f s => exact ⟨_, _, rfl, f.sq, s⟩
theorem seqOf_ok (r : RH K p h H) (q : RV K H p (Ow p h) v x) (e : seqOf h v = some l) : ∃ a xs, x = .ref a ∧ (SqL K H a xs ∨ SqT K H a xs) ∧ RVs K H p (Ow p h) l xs := by
  cases v with
  | tup l' =>
    cases e
    obtain ⟨a, xs, e1, e2, e3⟩ := tupOf_ok q
    exact ⟨a, xs, e1, .inr e2, e3⟩
  | lst l' =>
    obtain ⟨a, xs, e1, e2, e3⟩ := lstOf_ok r q e
    exact ⟨a, xs, e1, .inl (SqL.of e2), e3⟩
  | scr l' =>
    cases e
    cases q with
    | scr f s => exact ⟨_, _, rfl, .inl f.sq, s⟩
  | loc n =>
    obtain ⟨a, xs, e1, e2, e3⟩ := lstOf_ok r q e
    exact ⟨a, xs, e1, .inl (SqL.of e2), e3⟩
  | _ => cases e
/-- a new tuple, a new list -/
theorem RV.newT {a : Addr} {xs : List V} (r : RH K p h H) (n : H a = none) (s : RVs K H p (Ow p h) l xs) : RV K (upd H a (.tup xs)) p (Ow p h) (.tup l) (.ref a) :=
  .tup (.inl ⟨upd_same, not_ow r n⟩) (s.mono (stp_new r n))
theorem RV.newL {a : Addr} {xs : List V} (r : RH K p h H) (n : H a = none) (s : RVs K H p (Ow p h) l xs) : RV K (upd H a (.lst xs)) p (Ow p h) (.lst l) (.ref a) :=
  .lst upd_same (not_ow r n) (s.mono (stp_new r n))
theorem pv_here {Q : VK} {w : Val} (q : PV1 K p h H (some w) Q) (r : RH K p h H) {y : V} (v : RV K H p (Ow p h) w y) : Q y H := q p H y .refl r v
theorem pv_newT {Q : VK} {xs : List V} (q : PV1 K p h H (some (.tup l)) Q) (r : RH K p h H) (s : RVs K H p (Ow p h) l xs) : ∀ a, H a = none → Q (.ref a) (upd H a (.tup xs)) := fun a n =>
  q p _ _ (stp_new r n) (rh_new r n) (.newT r n s)
theorem pv_newL {Q : VK} {xs : List V} (q : PV1 K p h H (some (.lst l)) Q) (r : RH K p h H) (s : RVs K H p (Ow p h) l xs) : ∀ a, H a = none → Q (.ref a) (upd H a (.lst xs)) := fun a n =>
  q p _ _ (stp_new r n) (rh_new r n) (.newL r n s)
end

/-! ### arithmetic -/
def addV (h : Hs) : Val → Val → Option Val
  | .int i, .int j => some (.int (i + j))
  | .str x, .str y => if x.length + y.length ≤ sizeLine then some (.str (x ++ y)) else none
  | .tup l, .tup m => if l.length + m.length ≤ sizeLine then some (.tup (l ++ m)) else none
  | a, b => (match lstOf h a, lstOf h b with
    | some l, some m => if l.length + m.length ≤ sizeLine then some (.lst (l ++ m)) else none
    | _, _ => none)
theorem op_addS {X : Cx} : OpS X (binaryOp .Add) addV := by
  refine opr_imp (OpR.or op_add (OpR.or op_add_str (OpR.or op_catA op_cat))) ?_
  rintro x y H Q ⟨p, h, va, vb, r, ra, rb, q⟩
  have lists : ∀ {l m : List Val}, lstOf h va = some l → lstOf h vb = some m → PV1 X.K p h H (if l.length + m.length ≤ sizeLine then some (.lst (l ++ m)) else none) Q → rCat x y H Q := by
    intro l m e1 e2 q
    obtain ⟨a, xs, rfl, h1, s1⟩ := lstOf_ok r ra e1
    obtain ⟨b, ys, rfl, h2, s2⟩ := lstOf_ok r rb e2
    by_cases hz : l.length + m.length ≤ sizeLine
    · rw [if_pos hz] at q
      exact ⟨a, b, xs, ys, rfl, rfl, h1, h2, by rw [← s1.length, ← s2.length]; exact hz, pv_newL q r (s1.append s2)⟩
    · rw [if_neg hz] at q
      exact q.elim
  have other : (match lstOf h va, lstOf h vb with
      | some l, some m => if l.length + m.length ≤ sizeLine then some (Val.lst (l ++ m)) else none
      | _, _ => none) = addV h va vb → rCat x y H Q := fun e => by
    rw [← e] at q
    cases e1 : lstOf h va with
    | none => rw [e1] at q; exact False.elim q
    | some l =>
      cases e2 : lstOf h vb with
      | none => rw [e1, e2] at q; exact False.elim q
      | some m => rw [e1, e2] at q; exact lists e1 e2 q
  cases va with
  | int i =>
    cases vb with
    | int j => cases ra; cases rb; exact .inl ⟨i, j, rfl, rfl, pv_here q r .int⟩
    | _ => exact .inr (.inr (.inr (other rfl)))
  | str s =>
    cases vb with
    | str t =>
      cases ra; cases rb
      by_cases hz : s.length + t.length ≤ sizeLine
      · have q : PV1 X.K p h H (if s.length + t.length ≤ sizeLine then some (.str (s ++ t)) else none) Q := q
        rw [if_pos hz] at q
        exact .inr (.inl ⟨s, t, rfl, rfl, hz, pv_here q r .str⟩)
      · have q : PV1 X.K p h H (if s.length + t.length ≤ sizeLine then some (.str (s ++ t)) else none) Q := q
        rw [if_neg hz] at q
        exact q.elim
    | _ => exact .inr (.inr (.inr (other rfl)))
  | tup l =>
    cases vb with
    | tup m =>
      have q : PV1 X.K p h H (if l.length + m.length ≤ sizeLine then some (.tup (l ++ m)) else none) Q := q
      by_cases hz : l.length + m.length ≤ sizeLine
      · rw [if_pos hz] at q
        cases ra with
        | @tup _ a xs f1 s1 =>
          cases rb with
          | @tup _ b ys f2 s2 =>
            refine .inr (.inr (.inl ⟨a, b, xs, ys, rfl, rfl, f1.sq, f2.sq, by rw [← s1.length, ← s2.length]; exact hz, fun e => ?_, fun _ e => ?_, fun _ _ => pv_newT q r (s1.append s2)⟩))
            · subst e; cases s1; exact pv_here q r (.tup f2 s2)
            · subst e; cases s2; rw [List.append_nil] at q; exact pv_here q r (.tup f1 s1)
      · rw [if_neg hz] at q
        exact q.elim
    | _ => exact .inr (.inr (.inr (other rfl)))
  | _ => exact .inr (.inr (.inr (other rfl)))
/-- ints alone -/
def intV (C : Int → Int → Bool) (g : Int → Int → Int) (_ : Hs) : Val → Val → Option Val
  | .int i, .int j => if C i j = true then some (.int (g i j)) else none
  | _, _ => none
theorem opS_int {X : Cx} {f : Value → Value → Sem Value} {C : Int → Int → Prop} {Cb : Int → Int → Bool} {g : Int → Int → Int} (o : OpR X f (rI C fun i j => .int (g i j))) (hc : ∀ i j, Cb i j = true → C i j) : OpS X f (intV Cb g) := by
  refine opr_imp o ?_
  rintro x y H Q ⟨p, h, va, vb, r, ra, rb, q⟩
  cases va with
  | int i =>
    cases vb with
    | int j =>
      cases ra; cases rb
      have q : PV1 X.K p h H (if Cb i j = true then some (.int (g i j)) else none) Q := q
      by_cases z : Cb i j = true
      · rw [if_pos z] at q
        exact ⟨i, j, rfl, rfl, hc i j z, pv_here q r .int⟩
      · rw [if_neg z] at q
        exact q.elim
    | _ => exact q.elim
  | _ => exact False.elim q
theorem opS_int0 {X : Cx} {f : Value → Value → Sem Value} {g : Int → Int → Int} (o : OpR X f (rI0 fun i j => .int (g i j))) : OpS X f (intV (fun _ _ => true) g) := by
  refine opS_int (C := fun _ _ => True) (opr_imp o fun x y H Q q => ?_) fun _ _ _ => True.intro
  obtain ⟨i, j, e1, e2, _, q⟩ := q
  exact ⟨i, j, e1, e2, q⟩
def binV : Operator → Option (Hs → Val → Val → Option Val)
  | .Add => some addV
  | .Sub => some (intV (fun _ _ => true) fun i j => i - j)
  | .Mult => some (intV (fun i j => (decide (-(2 ^ 64) < i) && decide (i < 2 ^ 64)) || (decide (-(2 ^ 64) < j) && decide (j < 2 ^ 64))) fun i j => i * j)
  | .FloorDiv => some (intV (fun _ j => decide (j ≠ 0) && decide (j.natAbs < 1073741824)) fun i j => i.fdiv j)
  | .Mod => some (intV (fun _ j => decide (j ≠ 0)) fun i j => i.fmod j)
  | .Pow => some (intV (fun i j => decide (0 ≤ j) && (decide (j ≤ 1000000) && decide (i.natAbs < 2 ^ 64))) fun i j => i ^ j.toNat)
  | .LShift => some (intV (fun i j => decide (0 ≤ j) && (decide (j ≤ 1000000) && decide (i.natAbs < 2 ^ 64))) fun i j => i * 2 ^ j.toNat)
  | .RShift => some (intV (fun _ j => decide (0 ≤ j)) fun i j => i / 2 ^ j.toNat)
  | .BitAnd => some (intV (fun _ _ => true) fun i j => Builtin.bitAnd i j)
  | .BitOr => some (intV (fun _ _ => true) fun i j => Builtin.bitOr i j)
  | .BitXor => some (intV (fun _ _ => true) fun i j => Builtin.bitXor i j)
  | _ => none
theorem binV_ok {X : Cx} {op : Operator} {g : Hs → Val → Val → Option Val} (e : binV op = some g) : OpS X (binaryOp op) g := by
  cases op <;> cases e
  · exact op_addS
  · exact opS_int0 op_sub
  · refine opS_int op_mul fun i j z => ?_
    simp only [Bool.or_eq_true, Bool.and_eq_true, decide_eq_true_eq] at z
    exact z
  · refine opS_int op_modN fun i j z => ?_
    simpa using z
  · refine opS_int op_pow fun i j z => ?_
    simp only [Bool.and_eq_true, decide_eq_true_eq] at z
    exact z
  · refine opS_int op_shl fun i j z => ?_
    simp only [Bool.and_eq_true, decide_eq_true_eq] at z
    exact z
  · refine opS_int op_shr fun i j z => ?_
    simpa using z
  · exact opS_int0 op_or
  · exact opS_int0 op_xor
  · exact opS_int0 op_and
  · refine opS_int op_fdivN fun i j z => ?_
    simp only [Bool.and_eq_true, decide_eq_true_eq] at z
    exact z
end Ev

namespace Ev
open PySem PySem.Spec PyProof.Rows L2

/-! ### statements -/
inductive Fl where
  | next (ρ : Rho) | brk (ρ : Rho) | cont (ρ : Rho) | ret (v : Val) | rse (e : Exc) (ρ : Rho)
/-- a part that may raise, at the slots as they stand -/
def withE {α : Type} (m : M α) (ρ : Rho) (k : α → M Fl) : M Fl := fun h => match m h with
  | .ok a h' => k a h'
  | .exc e h' => .ok (.rse e ρ) h'
  | .bad => .bad
/-- a statement's ends -/
def PF (K : PySem.W.Frag) (W : WX) (D : Ends) (r : Out Fl) (p : Loc) (h : Hs) (H : Hp) : Prop := match r with
  | .ok (.next ρ') h' => ∀ p' H' σ', Stp p h H p' h' H' → RS K p' h' H' ρ' σ' → D.nx σ' H'
  | .ok (.brk ρ') h' => ∀ p' H' σ', Stp p h H p' h' H' → RS K p' h' H' ρ' σ' → D.bk σ' H'
  | .ok (.cont ρ') h' => ∀ p' H' σ', Stp p h H p' h' H' → RS K p' h' H' ρ' σ' → D.ct σ' H'
  | .ok (.ret v) h' => ∀ p' H' x, Stp p h H p' h' H' → RH K p' h' H' → RV K H' p' (Ow p' h') v x → D.rt x H'
  | .ok (.rse e ρ') h' => ∀ p' H' σ' c d, Stp p h H p' h' H' → RS K p' h' H' ρ' σ' → RX K H' p' (Ow p' h') e c d → W c d σ' H'
  | .exc _ _ => False
  | .bad => False
def tS (K : PySem.W.Frag) (W : WX) (m : Rho → M Fl) : TS := fun D σ H => ∃ p ρ h, RS K p h H ρ σ ∧ PF K W D (m ρ h) p h H
section
variable {K : PySem.W.Frag} {W : WX} {D D' : Ends} {p p1 : Loc} {h h1 : Hs} {H H1 : Hp} {ρ : Rho} {σ : L2.St}
theorem PF.stp {r : Out Fl} (s : Stp p h H p1 h1 H1) (q : PF K W D r p h H) : PF K W D r p1 h1 H1 := by
  cases r with
  | ok f h' => cases f with
    | next ρ' => exact fun p' H' x s' r' => q p' H' x (s.trans s') r'
    | brk ρ' => exact fun p' H' x s' r' => q p' H' x (s.trans s') r'
    | cont ρ' => exact fun p' H' x s' r' => q p' H' x (s.trans s') r'
    | ret v => exact fun p' H' x s' r' v => q p' H' x (s.trans s') r' v
    | rse e ρ' => exact fun p' H' x c d s' r' v => q p' H' x c d (s.trans s') r' v
  | exc e h' => exact q
  | bad => exact q
/-- a part, then what follows -/
theorem PF.withE {α β : Type} {R : Rl α β} {m : M α} {k : α → M Fl} (rs : RS K p h H ρ σ) (q : PF K W D (withE m ρ k h) p h H) :
    PO K R (fun c d H' => W c d σ H') (m h) p h H (fun x H1 => ∃ p1 h1 a, RS K p1 h1 H1 ρ σ ∧ R H1 p1 (Ow p1 h1) a x ∧ PF K W D (k a h1) p1 h1 H1) := by
  unfold Ev.withE at q
  cases e : m h with
  | ok a h' =>
    rw [e] at q
    exact fun p' H' x s r v => ⟨p', h', a, rs.stp s r, v, q.stp s⟩
  | exc z h' =>
    rw [e] at q
    exact fun p' H' c d s r v => q p' H' σ c d s (rs.stp s r) v
  | bad => rw [e] at q; exact q
/-- one statement's end, then the others -/
def andThen (m : M Fl) (k : Rho → M Fl) : M Fl := fun h => match m h with
  | .ok (.next ρ) h' => k ρ h'
  | r => r
theorem PF.seq {m : M Fl} {k : Rho → M Fl} (q : PF K W D (andThen m k h) p h H) : PF K W { D with nx := fun σ' H' => ∃ p1 ρ1 h1, RS K p1 h1 H' ρ1 σ' ∧ PF K W D (k ρ1 h1) p1 h1 H' } (m h) p h H := by
  unfold andThen at q
  cases e : m h with
  | ok f h' =>
    rw [e] at q
    cases f with
    | next ρ' => exact fun p' H' σ' s r => ⟨p', ρ', h', r, q.stp s⟩
    | brk ρ' => exact q
    | cont ρ' => exact q
    | ret v => exact q
    | rse x ρ' => exact q
  | exc z h' => rw [e] at q; exact q
  | bad => rw [e] at q; exact q
end
theorem ps_imp {X : Cx} {st : Stmt} {t t' : TS} (h : PS X st t) (i : ∀ D σ H, t' D σ H → t D σ H) : PS X st t' := ⟨fun pins s σ H D I q => h.run pins s σ H D I (i D σ H q)⟩
theorem pss_imp {X : Cx} {st : List Stmt} {t t' : TS} (h : PSs X st t) (i : ∀ D σ H, t' D σ H → t D σ H) : PSs X st t' := ⟨fun pins s σ H D I q => h.run pins s σ H D I (i D σ H q)⟩
section
variable {X : Cx} {W : WX}
theorem pss_nilS : PSs X [] (tS X.K W fun ρ => pure (.next ρ)) := pss_imp pss_nil fun D σ H ⟨p, ρ, h, r, q⟩ => q p H σ .refl r
theorem pss_consS {st : Stmt} {rest : List Stmt} {m : Rho → M Fl} {k : Rho → M Fl} (h1 : PS X st (tS X.K W m)) (h2 : PSs X rest (tS X.K W k)) : PSs X (st :: rest) (tS X.K W fun ρ => andThen (m ρ) k) := by
  refine pss_imp (pss_cons h1 h2) fun D σ H ⟨p, ρ, h, r, q⟩ => ?_
  exact ⟨p, ρ, h, r, q.seq⟩
theorem ps_exprS {e : Expr} {m : Rho → M Val} {pos : Pos} (he : PE X e (tE X.K W m)) (hs : swapsWith e none pos.line X.env = pure false) : PS X (.Expr e pos) (tS X.K W fun ρ => withE (m ρ) ρ fun _ => pure (.next ρ)) := by
  refine ps_imp (ps_expr he hs) fun D σ H ⟨p, ρ, h, r, q⟩ => ?_
  exact ⟨p, ρ, h, r, (PF.withE r q).imp fun x H1 ⟨p1, h1, a, r1, v, q1⟩ => q1 p1 H1 σ .refl r1⟩
theorem ps_retS {e : Expr} {m : Rho → M Val} {pos : Pos} (he : PE X e (tE X.K W m)) : PS X (.Return (some e) pos) (tS X.K W fun ρ => withE (m ρ) ρ fun v => pure (.ret v)) := by
  refine ps_imp (ps_ret he) fun D σ H ⟨p, ρ, h, r, q⟩ => ?_
  exact ⟨p, ρ, h, r, (PF.withE r q).imp fun x H1 ⟨p1, h1, a, r1, v, q1⟩ => q1 p1 H1 x .refl r1.rh v⟩
theorem ps_retNS {pos : Pos} : PS X (.Return none pos) (tS X.K W fun _ => pure (.ret .non)) := ps_imp ps_retN fun D σ H ⟨p, ρ, h, r, q⟩ => q p H .non .refl r.rh .non
theorem ps_passS {pos : Pos} : PS X (.Pass pos) (tS X.K W fun ρ => pure (.next ρ)) := ps_imp ps_pass fun D σ H ⟨p, ρ, h, r, q⟩ => q p H σ .refl r
theorem ps_breakS {pos : Pos} : PS X (.Break pos) (tS X.K W fun ρ => pure (.brk ρ)) := ps_imp ps_break fun D σ H ⟨p, ρ, h, r, q⟩ => q p H σ .refl r
theorem ps_contS {pos : Pos} : PS X (.Continue pos) (tS X.K W fun ρ => pure (.cont ρ)) := ps_imp ps_continue fun D σ H ⟨p, ρ, h, r, q⟩ => q p H σ .refl r
theorem ps_docS {x j pos pos'} : PS X (.Expr (.Constant (.str x) j pos) pos') (tS X.K W fun ρ => pure (.next ρ)) := ps_imp ps_doc fun D σ H ⟨p, ρ, h, r, q⟩ => q p H σ .refl r
theorem ps_ifS {c : Expr} {a b : List Stmt} {mc : Rho → M Bool} {ma mb : Rho → M Fl} {pos : Pos} (hc : PT X c (tT X.K W mc)) (ha : PSs X a (tS X.K W ma)) (hb : PSs X b (tS X.K W mb)) :
    PS X (.If c a b pos) (tS X.K W fun ρ => withE (mc ρ) ρ fun t => if t = true then ma ρ else mb ρ) := by
  refine ps_imp (ps_if hc ha hb) fun D σ H ⟨p, ρ, h, r, q⟩ => ?_
  refine ⟨p, ρ, h, r, (PF.withE (R := RB) r q).imp fun x H1 ⟨p1, h1, t, r1, v, q1⟩ => ?_⟩
  have v : t = x := v
  subst v
  cases t with
  | true => exact ⟨p1, ρ, h1, r1, q1⟩
  | false => exact ⟨p1, ρ, h1, r1, q1⟩
end

/-! ### slots set -/
theorem RS.set {K : PySem.W.Frag} {p : Loc} {h : Hs} {H : Hp} {ρ : Rho} {σ : L2.St} {v : Val} {x : V} (r : RS K p h H ρ σ) (q : RV K H p (Ow p h) v x) (i : Nat) : RS K p h H (ρ.set i (some v)) (σ.set i (some x)) := by
  have hl := r.len
  refine ⟨r.rh, by rw [List.length_set, List.length_set]; exact hl, fun j w e => ?_⟩
  by_cases hj : i = j
  · subst hj
    by_cases hi : i < ρ.length
    · rw [List.getElem?_set_self hi] at e
      cases e
      exact ⟨x, by rw [List.getElem?_set_self (by omega)], q⟩
    · rw [List.getElem?_eq_none (by rw [List.length_set]; omega)] at e
      cases e
  · rw [List.getElem?_set_ne hj] at e
    obtain ⟨y, e1, q1⟩ := r.at_ j w e
    exact ⟨y, by rw [List.getElem?_set_ne hj]; exact e1, q1⟩

def slotOf : List Str → Str → Option Nat
  | [], _ => none
  | y :: r, x => if y = x then some 0 else (slotOf r x).map (· + 1)
theorem slotOf_ok : ∀ {N : List Str} {x : Str} {i : Nat}, slotOf N x = some i → N[i]? = some x
  | [], _, _, e => by cases e
  | y :: r, x, i, e => by
    unfold slotOf at e
    by_cases h : y = x
    · rw [if_pos h] at e; cases e; rw [h]; rfl
    · rw [if_neg h] at e
      cases q : slotOf r x with
      | none => rw [q] at e; cases e
      | some j => rw [q] at e; cases e; exact slotOf_ok (N := r) q
/-! ### targets -/
abbrev TgF := Hs → Val → Rho → Option Rho
abbrev TgsF := Hs → List Val → Rho → Option Rho
/-- alike but at the slots sl -/
def Out_ (sl : List Nat) (σ σ' : L2.St) : Prop := σ'.length = σ.length ∧ ∀ i, i ∉ sl → σ'[i]? = σ[i]?
theorem Out_.refl {sl : List Nat} {σ : L2.St} : Out_ sl σ σ := ⟨rfl, fun _ _ => rfl⟩
theorem Out_.trans {sl sl' : List Nat} {σ σ1 σ2 : L2.St} (a : Out_ sl σ σ1) (b : Out_ sl' σ1 σ2) : Out_ (sl ++ sl') σ σ2 :=
  ⟨b.1.trans a.1, fun i hi => by
    rw [List.mem_append, not_or] at hi
    exact (b.2 i hi.2).trans (a.2 i hi.1)⟩
def PTg (K : PySem.W.Frag) (sl : List Nat) (σ : L2.St) (o : Option Rho) (p : Loc) (h : Hs) (H : Hp) (Q : L2.St → Hp → Prop) : Prop := match o with
  | some ρ' => ∀ p' H' σ', Stp p h H p' h H' → RS K p' h H' ρ' σ' → Out_ sl σ σ' → Q σ' H'
  | none => False
def tGt (K : PySem.W.Frag) (sl : List Nat) (f : TgF) : TG := fun x σ H Q => ∃ p ρ h v, RS K p h H ρ σ ∧ RV K H p (Ow p h) v x ∧ PTg K sl σ (f h v ρ) p h H Q
def tGts (K : PySem.W.Frag) (sl : List Nat) (f : TgsF) : TGs := fun xs σ H Q => ∃ p ρ h vs, RS K p h H ρ σ ∧ RVs K H p (Ow p h) vs xs ∧ PTg K sl σ (f h vs ρ) p h H Q
theorem pg_imp {X : Cx} {e : Expr} {t t' : TG} (h : PG X e t) (i : ∀ v σ H Q, t' v σ H Q → t v σ H Q) : PG X e t' := ⟨fun pins s σ H v u Q I r q => h.run pins s σ H v u Q I r (i v σ H Q q)⟩
theorem pgs_imp {X : Cx} {es : List Expr} {t t' : TGs} (h : PGs X es t) (i : ∀ v σ H Q, t' v σ H Q → t v σ H Q) : PGs X es t' := ⟨fun pins s σ H v u Q I r q => h.run pins s σ H v u Q I r (i v σ H Q q)⟩
theorem pg_or {X : Cx} {e : Expr} {t t' : TG} (h : PG X e t) (h' : PG X e t') : PG X e (fun v σ H Q => t v σ H Q ∨ t' v σ H Q) := ⟨fun pins s σ H v u Q I r q => q.elim (h.run pins s σ H v u Q I r) (h'.run pins s σ H v u Q I r)⟩
def tgName (i : Nat) : TgF := fun _ v ρ => some (ρ.set i (some v))
def tgNil : TgsF := fun _ vs ρ => match vs with
  | [] => some ρ
  | _ => none
def tgCons (f : TgF) (g : TgsF) : TgsF := fun h vs ρ => match vs with
  | [] => none
  | v :: r => (match f h v ρ with
    | some ρ' => g h r ρ'
    | none => none)
def tgTup (n : Nat) (g : TgsF) : TgF := fun h v ρ => match v with
  | .tup l => if l.length = n then g h l ρ else none
  | v => (match lstOf h v with
    | some l => if l.length = n then g h l ρ else none
    | none => none)
section
variable {X : Cx}
theorem pg_nameS {i : Nat} {x : Str} {pos : Pos} (hN : X.N.Nodup) (hi : X.N[i]? = some x) (hx : L2.Loc X.env.scope x) (hf : X.fn x = true ∨ X.env.scope.names.lookup x = some .local) : PG X (.Name x pos) (tGt X.K [i] (tgName i)) :=
  pg_imp (pg_name hN hi hx hf) fun v σ H Q ⟨p, ρ, h, w, r, rv, q⟩ => q p H _ .refl (r.set rv i) ⟨List.length_set, fun j hj => by rw [List.getElem?_set_ne (by intro z; exact hj (by simp [z]))]⟩
theorem pgs_nilS : PGs X [] (tGts X.K [] tgNil) := pgs_imp pgs_nil fun vs σ H Q ⟨p, ρ, h, ws, r, rv, q⟩ => by
  cases rv with
  | nil => exact ⟨rfl, q p H σ .refl r .refl⟩
  | cons _ _ => exact q.elim
theorem pgs_consS {e : Expr} {es : List Expr} {f : TgF} {g : TgsF} {sl sl' : List Nat} (h1 : PG X e (tGt X.K sl f)) (h2 : PGs X es (tGts X.K sl' g)) (hs : (assignEach (e :: es) X.env).map (·.2) = assign e X.env :: (assignEach es X.env).map (·.2)) : PGs X (e :: es) (tGts X.K (sl ++ sl') (tgCons f g)) := by
  refine pgs_imp (pgs_cons h1 h2 hs) fun vs σ H Q ⟨p, ρ, h, ws, r, rv, q⟩ => ?_
  cases rv with
  | nil => exact q.elim
  | @cons v x vs xs r1 r2 =>
    refine ⟨x, xs, rfl, p, ρ, h, v, r, r1, ?_⟩
    have q : PTg X.K (sl ++ sl') σ (match f h v ρ with
      | some ρ' => g h vs ρ'
      | none => none) p h H Q := q
    cases e : f h v ρ with
    | none => rw [e] at q; exact q
    | some ρ' =>
      rw [e] at q
      dsimp only at q
      refine fun p' H' σ' s r' o1 => ⟨p', ρ', h, vs, r', r2.mono s, ?_⟩
      cases e2 : g h vs ρ' with
      | none => rw [e2] at q; exact q
      | some ρ2 => rw [e2] at q; exact fun p2 H2 σ2 s2 r2 o2 => q p2 H2 σ2 (s.trans s2) r2 (o1.trans o2)
theorem pg_tupS {es : List Expr} {k : Nat} {g : TgsF} {sl : List Nat} {n : Nat} {pos : Pos} (hc : X.calm = true) (hg : PGs X es (tGts X.K sl g)) (hn : (assignEach es X.env).length = n) (hst : (assignEach es X.env).findIdx? (·.1) = none) : PG X (.Tuple es k pos) (tGt X.K sl (tgTup n g)) := by
  refine pg_imp (pg_or (pg_tup hc hg hn hst) (pg_lst hc hg hn hst)) fun x σ H Q ⟨p, ρ, h, v, r, rv, q⟩ => ?_
  have lists : ∀ (hv : tgTup n g h v ρ = (match lstOf h v with
    | some l => if l.length = n then g h l ρ else none
    | none => none)), gLst X.K n (tGts X.K sl g) x σ H Q := fun hv => by
    rw [hv] at q
    cases e : lstOf h v with
    | none => rw [e] at q; exact False.elim q
    | some l =>
      rw [e] at q
      obtain ⟨a, xs, rfl, e1, s⟩ := lstOf_ok r.rh rv e
      have q : PTg X.K sl σ (if l.length = n then g h l ρ else none) p h H Q := q
      by_cases hl : l.length = n
      · rw [if_pos hl] at q
        exact ⟨a, xs, rfl, SqL.of e1, by rw [← s.length]; exact hl, p, ρ, h, l, r, s, q⟩
      · rw [if_neg hl] at q; exact q.elim
  cases v with
  | tup l =>
    obtain ⟨a, xs, rfl, e1, s⟩ := tupOf_ok rv
    have q : PTg X.K sl σ (if l.length = n then g h l ρ else none) p h H Q := q
    by_cases hl : l.length = n
    · rw [if_pos hl] at q
      exact .inl ⟨a, xs, rfl, e1, by rw [← s.length]; exact hl, p, ρ, h, l, r, s, q⟩
    · rw [if_neg hl] at q; exact q.elim
  | _ => exact .inr (lists rfl)
end

/-! ### what a loop walks -/
/-- J walks l, whatever goes on in between -/
def ItR (K : PySem.W.Frag) (J : It) (l : List Val) (p0 : Loc) (h0 : Hs) (H0 : Hp) : Prop := ∀ p h H, Kq H0 p0 (Ow p0 h0) H p (Ow p h) → RH K p h H →
  (∀ (i : Nat) (v : Val), l[i]? = some v → J.go i H ∧ ∀ x H', J.yld i H x H' → ∃ p', Stp p h H p' h H' ∧ RH K p' h H' ∧ RV K H' p' (Ow p' h) v x) ∧ J.stop l.length H
theorem ItR.stp {K : PySem.W.Frag} {J : It} {l : List Val} {p0 p1 : Loc} {h0 h1 : Hs} {H0 H1 : Hp} (s : Stp p0 h0 H0 p1 h1 H1) (q : ItR K J l p0 h0 H0) : ItR K J l p1 h1 H1 := fun p h H s' r => q p h H (s.toKq.trans s') r
def tI (K : PySem.W.Frag) (W : WX) (m : Rho → M (List Val)) : TI := fun σ H R => ∃ p ρ h, RS K p h H ρ σ ∧ match m ρ h with
  | .ok l h' => ∀ p' H' J, Stp p h H p' h' H' → RH K p' h' H' → ItR K J l p' h' H' → R J H'
  | .exc e h' => ∀ p' H' c d, Stp p h H p' h' H' → RH K p' h' H' → RX K H' p' (Ow p' h') e c d → W c d σ H'
  | .bad => False
theorem pi_imp {X : Cx} {tg iter : Expr} {w w' : TI} (h : PI X tg iter w) (i : ∀ σ H R, w' σ H R → w σ H R) : PI X tg iter w' := ⟨fun pins s σ H R I q => h.run pins s σ H R I (i σ H R q)⟩
theorem pi_or {X : Cx} {tg iter : Expr} {w w' : TI} (h : PI X tg iter w) (h' : PI X tg iter w') : PI X tg iter (fun σ H R => w σ H R ∨ w' σ H R) := ⟨fun pins s σ H R I q => q.elim (h.run pins s σ H R I) (h'.run pins s σ H R I)⟩
def forL (f : TgF) (mb : Rho → M Fl) : List Val → Rho → M Fl
  | [], ρ => pure (.next ρ)
  | v :: l, ρ => fun h => match f h v ρ with
    | none => .bad
    | some ρ1 => (match mb ρ1 h with
      | .ok (.next ρ2) h' => forL f mb l ρ2 h'
      | .ok (.cont ρ2) h' => forL f mb l ρ2 h'
      | .ok (.brk ρ2) h' => .ok (.next ρ2) h'
      | r => r)
theorem ps_forS {X : Cx} {W : WX} {tg iter : Expr} {body : List Stmt} {pos : Pos} {mi : Rho → M (List Val)} {f : TgF} {sl : List Nat} {mb : Rho → M Fl} (hp : PassesOwn (model X.prog X.w) X.A X.env X.xe) (hc : X.calm = true) (hi : PI X tg iter (tI X.K W mi)) (hg : PG X tg (tGt X.K sl f))
    (hb : PSs X body (tS X.K W mb)) (hs : ∀ x, foldedSetIterable iter X.env x = pure x) : PS X (.For tg iter body [] pos) (tS X.K W fun ρ => withE (mi ρ) ρ fun l => forL f mb l ρ) := by
  refine ps_imp (ps_for hp hc hi hg hb hs) fun D σ H ⟨p, ρ, h, r, q⟩ => ?_
  unfold Ev.withE at q
  dsimp only at q
  refine ⟨p, ρ, h, r, ?_⟩
  cases em : mi ρ h with
  | bad => rw [em] at q; exact q
  | exc e h' => rw [em] at q; exact fun p' H' c d s r' v => q p' H' σ c d s (r.stp s r') v
  | ok l h' =>
    rw [em] at q
    have q : PF X.K W D (forL f mb l ρ h') p h H := q
    intro p' H' J s r' it
    refine ⟨fun i m σ1 H1 => i + m = l.length ∧ ∃ p1 ρ1 h1, RS X.K p1 h1 H1 ρ1 σ1 ∧ Stp p' h' H' p1 h1 H1 ∧ PF X.K W D (forL f mb (l.drop i) ρ1 h1) p1 h1 H1, ⟨l.length, by omega, p', ρ, h', r.stp s r', .refl, q.stp s⟩, ?_⟩
    rintro i m σ1 H1 ⟨hm, p1, ρ1, h1, r1, s1, q1⟩
    obtain ⟨go, stop⟩ := it p1 h1 H1 s1.toKq r1.rh
    by_cases hi : i < l.length
    · obtain ⟨g1, y1⟩ := go i l[i] (List.getElem?_eq_getElem hi)
      refine .inr ⟨g1, fun σ2 H2 => ∃ p2 ρ2 h2, RS X.K p2 h2 H2 ρ2 σ2 ∧ Stp p' h' H' p2 h2 H2 ∧ PF X.K W D (forL f mb (l.drop (i + 1)) ρ2 h2) p2 h2 H2, fun σ2 H2 z => ⟨m - 1, by omega, by omega, z⟩, fun x H2 y => ?_⟩
      obtain ⟨p2, s2, r2, v2⟩ := y1 x H2 y
      refine ⟨p2, ρ1, h1, l[i], r1.stp s2 r2, v2, ?_⟩
      rw [List.drop_eq_getElem_cons hi] at q1
      have q1 : PF X.K W D (match f h1 l[i] ρ1 with
        | none => .bad
        | some ρ1 => (match mb ρ1 h1 with
          | .ok (.next ρ2) h' => forL f mb (l.drop (i + 1)) ρ2 h'
          | .ok (.cont ρ2) h' => forL f mb (l.drop (i + 1)) ρ2 h'
          | .ok (.brk ρ2) h' => .ok (.next ρ2) h'
          | r => r)) p1 h1 H1 := q1
      cases ef : f h1 l[i] ρ1 with
      | none => rw [ef] at q1; exact q1
      | some ρ3 =>
        rw [ef] at q1
        intro p3 H3 σ3 s3 r3 _
        refine ⟨p3, ρ3, h1, r3, ?_⟩
        have q1 : PF X.K W D (match mb ρ3 h1 with
          | .ok (.next ρ2) h' => forL f mb (l.drop (i + 1)) ρ2 h'
          | .ok (.cont ρ2) h' => forL f mb (l.drop (i + 1)) ρ2 h'
          | .ok (.brk ρ2) h' => .ok (.next ρ2) h'
          | r => r) p1 h1 H1 := q1
        have s13 := s2.trans s3
        cases eb : mb ρ3 h1 with
        | bad => rw [eb] at q1; exact q1
        | exc e h4 => rw [eb] at q1; exact q1
        | ok fl h4 =>
          rw [eb] at q1
          cases fl with
          | next ρ4 => exact fun p5 H5 σ5 s5 r5 => ⟨p5, ρ4, h4, r5, ((s1.trans s13).trans s5), q1.stp (s13.trans s5)⟩
          | cont ρ4 => exact fun p5 H5 σ5 s5 r5 => ⟨p5, ρ4, h4, r5, ((s1.trans s13).trans s5), q1.stp (s13.trans s5)⟩
          | brk ρ4 => exact fun p5 H5 σ5 s5 r5 => q1 p5 H5 σ5 (s13.trans s5) r5
          | ret v => exact fun p5 H5 x5 s5 r5 v5 => q1 p5 H5 x5 (s13.trans s5) r5 v5
          | rse e ρ4 => exact fun p5 H5 σ5 c d s5 r5 v5 => q1 p5 H5 σ5 c d (s13.trans s5) r5 v5
    · have ei : i = l.length := by omega
      subst ei
      rw [List.drop_length] at q1
      exact .inl ⟨stop, q1 p1 H1 σ1 .refl r1⟩

/-! ### while -/
def whileL (mc : Rho → M Bool) (mb : Rho → M Fl) : Nat → Rho → M Fl
  | 0, _ => fun _ => .bad
  | n + 1, ρ => withE (mc ρ) ρ fun t => if t = true then (fun h => match mb ρ h with
      | .ok (.next ρ2) h' => whileL mc mb n ρ2 h'
      | .ok (.cont ρ2) h' => whileL mc mb n ρ2 h'
      | .ok (.brk ρ2) h' => .ok (.next ρ2) h'
      | r => r) else pure (.next ρ)
theorem ps_whileS {X : Cx} {W : WX} {c : Expr} {body : List Stmt} {pos : Pos} {mc : Rho → M Bool} {mb : Rho → M Fl} {n : Nat} (hp : PassesOwn (model X.prog X.w) X.A X.env X.xe) (hc : PT X c (tT X.K W mc)) (hb : PSs X body (tS X.K W mb)) :
    PS X (.While c body [] pos) (tS X.K W fun ρ => whileL mc mb n ρ) := by
  refine ps_imp (ps_while hp hc hb) fun D σ H ⟨p, ρ, h, r, q⟩ => ?_
  refine ⟨fun m σ1 H1 => ∃ p1 ρ1 h1, RS X.K p1 h1 H1 ρ1 σ1 ∧ PF X.K W D (whileL mc mb m ρ1 h1) p1 h1 H1, ⟨n, p, ρ, h, r, q⟩, ?_⟩
  rintro m σ1 H1 ⟨p1, ρ1, h1, r1, q1⟩
  cases m with
  | zero => exact q1.elim
  | succ m =>
    refine ⟨p1, ρ1, h1, r1, (PF.withE (R := RB) r1 q1).imp fun t H2 ⟨p2, h2, b, r2, e, q2⟩ => ?_⟩
    have e : b = t := e
    subst e
    cases b with
    | false => exact q2 p2 H2 σ1 .refl r2
    | true =>
      refine ⟨fun σ3 H3 => ∃ p1 ρ1 h1, RS X.K p1 h1 H3 ρ1 σ3 ∧ PF X.K W D (whileL mc mb m ρ1 h1) p1 h1 H3, fun σ' H' z => ⟨m, Nat.lt_succ_self m, z⟩, p2, ρ1, h2, r2, ?_⟩
      have q2 : PF X.K W D (match mb ρ1 h2 with
        | .ok (.next ρ2) h' => whileL mc mb m ρ2 h'
        | .ok (.cont ρ2) h' => whileL mc mb m ρ2 h'
        | .ok (.brk ρ2) h' => .ok (.next ρ2) h'
        | r => r) p2 h2 H2 := q2
      cases eb : mb ρ1 h2 with
      | bad => rw [eb] at q2; exact q2
      | exc e h4 => rw [eb] at q2; exact q2
      | ok fl h4 =>
        rw [eb] at q2
        cases fl with
        | next ρ4 => exact fun p5 H5 σ5 s5 r5 => ⟨p5, ρ4, h4, r5, q2.stp s5⟩
        | cont ρ4 => exact fun p5 H5 σ5 s5 r5 => ⟨p5, ρ4, h4, r5, q2.stp s5⟩
        | brk ρ4 => exact q2
        | ret v => exact q2
        | rse e ρ4 => exact q2
end Ev

namespace Ev
open PySem PySem.Spec PyProof.Rows L2

/-! ### truth -/
def truV (h : Hs) : Val → Option Bool
  | .non => some false
  | .bl b => some b
  | .int i => some (i != 0)
  | .str s => if s.length ≤ sizeLine then some ((s.length : Int) != 0) else none
  | .dct ks _ => some (!ks.isEmpty)
  | .loc n => (match h[n]? with
    | some (some (.lst l)) => some (!l.isEmpty)
    | some (some (.dct l)) => some (!l.isEmpty)
    | _ => none)
  | v => (seqOf h v).map fun l => !l.isEmpty
section
variable {K : PySem.W.Frag} {p : Loc} {h : Hs} {H : Hp} {v : Val} {x : V}
theorem isEmpty_rvs {l : List Val} {xs : List V} (s : RVs K H p (Ow p h) l xs) : (!xs.isEmpty) = !l.isEmpty := by cases s <;> rfl
theorem isEmpty_rks {l : List (Key × Val)} {xs : List (Key × V)} (s : RKs K H p (Ow p h) l xs) : (!xs.isEmpty) = !l.isEmpty := by cases s <;> rfl
theorem truV_ok (r : RH K p h H) (q : RV K H p (Ow p h) v x) {k : Bool} (e : truV h v = some k) : TruV K x H k := by
  have seq : ∀ {l : List Val}, seqOf h v = some l → k = !l.isEmpty → TruV K x H k := fun {l} e1 e2 => by
    obtain ⟨a, xs, rfl, q1 | q1, s⟩ := seqOf_ok r q e1
    · exact .inl ⟨xs, q1, by rw [e2, isEmpty_rvs s]⟩
    · exact .inr (.inl ⟨xs, q1, by rw [e2, isEmpty_rvs s]⟩)
  have seqm : truV h v = (seqOf h v).map (fun l => !l.isEmpty) → TruV K x H k := fun e1 => by
    rw [e1] at e
    cases e2 : seqOf h v with
    | none => rw [e2] at e; cases e
    | some l => rw [e2] at e; exact seq e2 (Option.some.inj e).symm
  cases v with
  | non => cases q; cases e; rfl
  | bl b => cases q; cases e; rfl
  | int i => cases q; cases e; rfl
  | str s =>
    cases q
    have e : (if s.length ≤ sizeLine then some ((s.length : Int) != 0) else none) = some k := e
    by_cases hz : s.length ≤ sizeLine
    · rw [if_pos hz] at e; cases e; exact ⟨hz, rfl⟩
    · rw [if_neg hz] at e; cases e
  | dct ks vs =>
    cases e
    cases q with
    | @dct _ _ a kvs h1 _ e1 s =>
      subst e1
      refine .inr (.inr ⟨kvs, h1, ?_⟩)
      cases kvs <;> rfl
  | loc n =>
    cases q with
    | @loc _ a en =>
    have e : (match h[n]? with
      | some (some (.lst l)) => some (!l.isEmpty)
      | some (some (.dct l)) => some (!l.isEmpty)
      | _ => none) = some k := e
    cases hn : h[n]? with
    | none => rw [hn] at e; cases e
    | some o =>
      rw [hn] at e
      cases o with
      | none => cases e
      | some ob =>
        obtain ⟨b, eb, q⟩ := r.at_ n _ hn
        rw [en] at eb
        cases eb
        cases ob with
        | lst l =>
          cases e
          obtain ⟨xs, e1, s⟩ := q
          exact .inl ⟨xs, SqL.of e1, (isEmpty_rvs s).symm⟩
        | dct l =>
          cases e
          obtain ⟨xs, e1, s⟩ := q
          exact .inr (.inr ⟨xs, e1, (isEmpty_rks s).symm⟩)
        | ins _ _ => cases e
  | tup l => exact seqm rfl
  | lst l => exact seqm rfl
  | scr l => exact seqm rfl
  | obj _ _ _ => exact seqm rfl
  | glo _ => exact seqm rfl
  | ty _ => exact seqm rfl
end
def liftB (o : Option Bool) : M Bool := fun h => match o with
  | some b => .ok b h
  | none => .bad

/-! ### data -/
def datL (f : Val → Option PyData) : List Val → Option (List PyData)
  | [] => some []
  | v :: l => (match f v, datL f l with
    | some d, some ds => some (d :: ds)
    | _, _ => none)
/-- as data: n levels of lists and tuples -/
def datV (h : Hs) : Nat → Val → Option PyData
  | 0, _ => none
  | _ + 1, .non => some .none
  | _ + 1, .bl b => some (.bool b)
  | _ + 1, .int i => some (.int i)
  | _ + 1, .str s => some (.str s)
  | n + 1, .tup l => (datL (datV h n) l).map .tuple
  | n + 1, v => (match seqOf h v with
    | some l => (datL (datV h n) l).map .list
    | none => none)
section
variable {K : PySem.W.Frag} {p : Loc} {h : Hs} {H : Hp}
theorem datL_ok {f : Val → Option PyData} (hf : ∀ v x d, RV K H p (Ow p h) v x → f v = some d → Dp K H x d) : ∀ {l : List Val} {xs : List V} {ds : List PyData}, RVs K H p (Ow p h) l xs → datL f l = some ds → DpAll K H xs ds
  | _, _, _, .nil, e => by cases e; exact .nil
  | v :: l, _, ds, .cons r s, e => by
    have e : (match f v, datL f l with
      | some d, some ds => some (d :: ds)
      | _, _ => none) = some ds := e
    cases e1 : f v with
    | none => rw [e1] at e; cases e
    | some d =>
      cases e2 : datL f l with
      | none => rw [e1, e2] at e; cases e
      | some es => rw [e1, e2] at e; cases e; exact .cons (hf _ _ _ r e1) (datL_ok hf s e2)
theorem datV_ok (r : RH K p h H) : ∀ (n : Nat) (v : Val) (x : V) (d : PyData), RV K H p (Ow p h) v x → datV h n v = some d → Dp K H x d
  | 0, _, _, _, _, e => by cases e
  | n + 1, v, x, d, q, e => by
    have lists : ∀ {l : List Val} {a : Addr} {xs : List V}, SqL K H a xs → RVs K H p (Ow p h) l xs → (datL (datV h n) l).map PyData.list = some d → Dp K H (.ref a) d := fun {l a xs} h1 s e => by
      cases e1 : datL (datV h n) l with
      | none => rw [e1] at e; cases e
      | some ds => rw [e1] at e; cases e; exact .lst h1 (datL_ok (fun v x d => datV_ok r n v x d) s e1)
    have other : datV h (n + 1) v = (match seqOf h v with
      | some l => (datL (datV h n) l).map .list
      | none => none) → (∀ l, v ≠ .tup l) → Dp K H x d := fun e1 nt => by
      rw [e1] at e
      cases e2 : seqOf h v with
      | none => rw [e2] at e; cases e
      | some l =>
        rw [e2] at e
        obtain ⟨a, xs, rfl, q1 | q1, s⟩ := seqOf_ok r q e2
        · exact lists q1 s e
        · cases v with
          | tup l => exact absurd rfl (nt l)
          | scr l =>
            cases q with
            | scr f s' => cases e2; exact lists f.sq s' e
          | lst l =>
            obtain ⟨b, ys, e3, h3, s3⟩ := lstOf_ok r q e2
            cases e3
            exact lists (SqL.of h3) s3 e
          | loc m =>
            obtain ⟨b, ys, e3, h3, s3⟩ := lstOf_ok r q e2
            cases e3
            exact lists (SqL.of h3) s3 e
          | _ => cases e2
    cases v with
    | non => cases q; cases e; exact .non
    | bl b => cases q; cases e; exact .bl b
    | int i => cases q; cases e; exact .int i
    | str s => cases q; cases e; exact .str s
    | tup l =>
      obtain ⟨a, xs, rfl, h1, s⟩ := tupOf_ok q
      have e : (datL (datV h n) l).map PyData.tuple = some d := e
      cases e1 : datL (datV h n) l with
      | none => rw [e1] at e; cases e
      | some ds => rw [e1] at e; cases e; exact .tup h1 (datL_ok (fun v x d => datV_ok r n v x d) s e1)
    | _ => exact other rfl (fun _ z => nomatch z)
end
/-- == -/
def eqV (h : Hs) : Val → Val → Option Bool
  | .int i, .int j => some (decide (i = j))
  | .str x, .str y => some (decide (x = y))
  | .bl x, .bl y => some (decide (x = y))
  | .non, .non => some true
  | .int _, .str _ => some false
  | .str _, .int _ => some false
  | .non, .int _ => some false
  | .int _, .non => some false
  | .non, .str _ => some false
  | .str _, .non => some false
  | .non, .bl _ => some false
  | .bl _, .non => some false
  | .bl _, .str _ => some false
  | .str _, .bl _ => some false
  | a, b => (match datV h 64 a, datV h 64 b with
    | some d, some e => if (SeqAt.shaped d && SeqAt.shaped e) = true then some (PyData.eqv d e) else none
    | _, _ => none)
def neV (h : Hs) (a b : Val) : Option Val := (eqV h a b).map fun k => .bl (!k)
def eqVV (h : Hs) (a b : Val) : Option Val := (eqV h a b).map .bl
/-- what == asks of its sides -/
def rEqX (K : PySem.W.Frag) : V → V → Hp → Bool → Prop := fun x y H k => (scal x y = true ∧ k = decide (x = y)) ∨ ∃ d e, Dp K H x d ∧ Dp K H y e ∧ SeqAt.shaped d = true ∧ SeqAt.shaped e = true ∧ k = PyData.eqv d e
theorem eqV_ok {K : PySem.W.Frag} {p : Loc} {h : Hs} {H : Hp} {a b : Val} {x y : V} {k : Bool} (r : RH K p h H) (ra : RV K H p (Ow p h) a x) (rb : RV K H p (Ow p h) b y) (e : eqV h a b = some k) : rEqX K x y H k := by
  have other : eqV h a b = (match datV h 64 a, datV h 64 b with
    | some d, some e => if (SeqAt.shaped d && SeqAt.shaped e) = true then some (PyData.eqv d e) else none
    | _, _ => none) → rEqX K x y H k := fun e0 => by
    rw [e0] at e
    cases e1 : datV h 64 a with
    | none => rw [e1] at e; cases e
    | some d =>
      cases e2 : datV h 64 b with
      | none => rw [e1, e2] at e; cases e
      | some d2 =>
        rw [e1, e2] at e
        have e : (if (SeqAt.shaped d && SeqAt.shaped d2) = true then some (PyData.eqv d d2) else none) = some k := e
        by_cases hs : (SeqAt.shaped d && SeqAt.shaped d2) = true
        · rw [if_pos hs] at e
          have hs' := Bool.and_eq_true_iff.mp hs
          exact .inr ⟨d, d2, datV_ok r 64 a x d ra e1, datV_ok r 64 b y d2 rb e2, hs'.1, hs'.2, (Option.some.inj e).symm⟩
        · rw [if_neg hs] at e; cases e
  cases a with
  | int i =>
    cases b with
    | int j => cases ra; cases rb; cases e; exact .inl ⟨rfl, by simp⟩
    | str j => cases ra; cases rb; cases e; exact .inl ⟨rfl, by simp⟩
    | non => cases ra; cases rb; cases e; exact .inl ⟨rfl, by simp⟩
    | _ => exact other rfl
  | str i =>
    cases b with
    | int j => cases ra; cases rb; cases e; exact .inl ⟨rfl, by simp⟩
    | str j => cases ra; cases rb; cases e; exact .inl ⟨rfl, by simp⟩
    | non => cases ra; cases rb; cases e; exact .inl ⟨rfl, by simp⟩
    | bl j => cases ra; cases rb; cases e; exact .inl ⟨rfl, by simp⟩
    | _ => exact other rfl
  | bl i =>
    cases b with
    | str j => cases ra; cases rb; cases e; exact .inl ⟨rfl, by simp⟩
    | non => cases ra; cases rb; cases e; exact .inl ⟨rfl, by simp⟩
    | bl j => cases ra; cases rb; cases e; exact .inl ⟨rfl, by simp⟩
    | _ => exact other rfl
  | non =>
    cases b with
    | int j => cases ra; cases rb; cases e; exact .inl ⟨rfl, by simp⟩
    | str j => cases ra; cases rb; cases e; exact .inl ⟨rfl, by simp⟩
    | bl j => cases ra; cases rb; cases e; exact .inl ⟨rfl, by simp⟩
    | non => cases ra; cases rb; cases e; exact .inl ⟨rfl, by simp⟩
    | _ => exact other rfl
  | _ => exact other rfl
theorem op_eqS {X : Cx} (hu : X.A.units + 64 < cLine) : OpS X (compareOp .Eq) eqVV := by
  refine opr_imp (OpR.or op_eq (op_eqD hu)) ?_
  rintro x y H Q ⟨p, h, va, vb, r, ra, rb, q⟩
  unfold eqVV at q
  cases e : eqV h va vb with
  | none => rw [e] at q; exact q.elim
  | some k =>
    rw [e] at q
    have q' : Q (.bl k) H := pv_here q r .bl
    rcases eqV_ok r ra rb e with ⟨h1, rfl⟩ | ⟨d, d2, h1, h2, h3, h4, rfl⟩
    · exact .inl ⟨h1, q'⟩
    · exact .inr ⟨d, d2, h1, h2, h3, h4, q'⟩
theorem op_neS {X : Cx} (hu : X.A.units + 64 < cLine) : OpS X (compareOp .NotEq) neV := by
  refine opr_imp (OpR.or op_ne (op_neD hu)) ?_
  rintro x y H Q ⟨p, h, va, vb, r, ra, rb, q⟩
  unfold neV at q
  cases e : eqV h va vb with
  | none => rw [e] at q; exact q.elim
  | some k =>
    rw [e] at q
    have q' : Q (.bl (!k)) H := pv_here q r .bl
    rcases eqV_ok r ra rb e with ⟨h1, rfl⟩ | ⟨d, d2, h1, h2, h3, h4, rfl⟩
    · exact .inl ⟨h1, q'⟩
    · exact .inr ⟨d, d2, h1, h2, h3, h4, q'⟩
/-- order of ints -/
def ordV (g : Int → Int → Bool) (_ : Hs) : Val → Val → Option Val
  | .int i, .int j => some (.bl (g i j))
  | _, _ => none
theorem opS_ord {X : Cx} {f : Value → Value → Sem Value} {g : Int → Int → Bool} (o : OpR X f (rI0 fun i j => .bl (g i j))) : OpS X f (ordV g) := by
  refine opr_imp o ?_
  rintro x y H Q ⟨p, h, va, vb, r, ra, rb, q⟩
  cases va with
  | int i =>
    cases vb with
    | int j => cases ra; cases rb; exact ⟨i, j, rfl, rfl, pv_here q r .bl⟩
    | _ => exact q.elim
  | _ => exact False.elim q
/-- is None, is True -/
def isV (neg : Bool) (_ : Hs) : Val → Val → Option Val
  | .non, .non => some (.bl (!neg))
  | .glo _, .non => none
  | .loc _, .non => some (.bl neg)
  | .bl a, .bl b => some (.bl (if neg then !decide (a = b) else decide (a = b)))
  | _, .non => some (.bl neg)
  | _, _ => none
theorem isV_aux {K : PySem.W.Frag} {p : Loc} {h : Hs} {H : Hp} {a b : Val} {x y : V} {Q : VK} {neg : Bool} (r : RH K p h H) (ra : RV K H p (Ow p h) a x) (rb : RV K H p (Ow p h) b y) (q : PV1 K p h H (isV neg h a b) Q) :
    (y = .non ∧ Q (.bl (if neg then !decide (x = .non) else decide (x = .non))) H) ∨ ∃ a b, x = .bl a ∧ y = .bl b ∧ Q (.bl (if neg then !decide (a = b) else decide (a = b))) H := by
  cases b with
  | non =>
    cases rb
    refine .inl ⟨rfl, ?_⟩
    cases ra <;> first | exact q.elim | (have z := pv_here q r .bl; cases neg <;> simpa using z)
  | bl b =>
    cases rb
    cases ra <;> first | exact q.elim | exact .inr ⟨_, _, rfl, rfl, pv_here q r .bl⟩
  | _ => cases a <;> exact q.elim
theorem op_isS {X : Cx} : OpS X (compareOp .Is) (isV false) := by
  refine opr_imp (OpR.or op_isN op_is_bl) ?_
  rintro x y H Q ⟨p, h, va, vb, r, ra, rb, q⟩
  exact isV_aux (neg := false) r ra rb q
theorem op_isnotS {X : Cx} : OpS X (compareOp .IsNot) (isV true) := by
  refine opr_imp (OpR.or op_notN op_isnot_bl) ?_
  rintro x y H Q ⟨p, h, va, vb, r, ra, rb, q⟩
  exact isV_aux (neg := true) r ra rb q
/-- in, not in -/
def flatE : Val → Option V
  | .non => some .non
  | .bl b => some (.bl b)
  | .int i => some (.int i)
  | .str s => some (.str s)
  | _ => none
def flats : List Val → Option (List V)
  | [] => some []
  | v :: l => (match flatE v, flats l with
    | some x, some xs => some (x :: xs)
    | _, _ => none)
theorem flatE_ok {K : PySem.W.Frag} {H : Hp} {p : Loc} {ow : Addr → Prop} {v : Val} {x y : V} (q : RV K H p ow v x) (e : flatE v = some y) : x = y ∧ flatV y = true := by
  cases q <;> cases e <;> exact ⟨rfl, rfl⟩
theorem flats_ok {K : PySem.W.Frag} {H : Hp} {p : Loc} {ow : Addr → Prop} : ∀ {l : List Val} {xs ys : List V}, RVs K H p ow l xs → flats l = some ys → xs = ys ∧ ys.all flatV = true
  | _, _, _, .nil, e => by cases e; exact ⟨rfl, rfl⟩
  | v :: l, _, ys, .cons r s, e => by
    have e : (match flatE v, flats l with
      | some x, some xs => some (x :: xs)
      | _, _ => none) = some ys := e
    cases e1 : flatE v with
    | none => rw [e1] at e; cases e
    | some x =>
      cases e2 : flats l with
      | none => rw [e1, e2] at e; cases e
      | some zs =>
        rw [e1, e2] at e
        cases e
        obtain ⟨rfl, h1⟩ := flatE_ok r e1
        obtain ⟨rfl, h2⟩ := flats_ok s e2
        exact ⟨rfl, by simp [h1, h2]⟩
def inVV (neg : Bool) (h : Hs) : Val → Val → Option Val
  | .str x, .str y => some (.bl (if neg then !(!(Builtin.Str.occurrences y x 0 y.length 1).isEmpty) else !(Builtin.Str.occurrences y x 0 y.length 1).isEmpty))
  | a, b => (match flatE a, (seqOf h b).bind flats with
    | some x, some xs => some (.bl (if neg then !inV x xs else inV x xs))
    | _, _ => none)
theorem in_aux {K : PySem.W.Frag} {p : Loc} {h : Hs} {H : Hp} {a b : Val} {x y : V} {Q : VK} {neg : Bool} (r : RH K p h H) (ra : RV K H p (Ow p h) a x) (rb : RV K H p (Ow p h) b y) (q : PV1 K p h H (inVV neg h a b) Q) :
    (∃ i j, x = .str i ∧ y = .str j ∧ Q (.bl (if neg then !(!(Builtin.Str.occurrences j i 0 j.length 1).isEmpty) else !(Builtin.Str.occurrences j i 0 j.length 1).isEmpty)) H) ∨ rIn K neg x y H Q := by
  have other : inVV neg h a b = (match flatE a, (seqOf h b).bind flats with
    | some x, some xs => some (.bl (if neg then !inV x xs else inV x xs))
    | _, _ => none) → rIn K neg x y H Q := fun e => by
    rw [e] at q
    cases e1 : flatE a with
    | none => rw [e1] at q; exact q.elim
    | some z =>
      cases e2 : seqOf h b with
      | none => rw [e1, e2] at q; exact q.elim
      | some l =>
        cases e3 : flats l with
        | none => rw [e1, e2] at q; simp only [Option.bind_some, e3] at q; exact q.elim
        | some zs =>
          rw [e1, e2] at q
          simp only [Option.bind_some, e3] at q
          obtain ⟨rfl, h1⟩ := flatE_ok ra e1
          obtain ⟨c, xs, rfl, h2, s⟩ := seqOf_ok r rb e2
          obtain ⟨rfl, h3⟩ := flats_ok s e3
          exact ⟨c, xs, rfl, h2, h1, h3, pv_here q r .bl⟩
  cases a with
  | str i =>
    cases b with
    | str j => cases ra; cases rb; exact .inl ⟨i, j, rfl, rfl, pv_here q r .bl⟩
    | _ => exact .inr (other rfl)
  | _ => exact .inr (other rfl)
theorem op_inS {X : Cx} : OpS X (compareOp .In) (inVV false) := by
  refine opr_imp (OpR.or op_in_str op_in_seq) ?_
  rintro x y H Q ⟨p, h, va, vb, r, ra, rb, q⟩
  exact in_aux (neg := false) r ra rb q
theorem op_notinS {X : Cx} : OpS X (compareOp .NotIn) (inVV true) := by
  refine opr_imp (OpR.or op_notin_str op_notIn_seq) ?_
  rintro x y H Q ⟨p, h, va, vb, r, ra, rb, q⟩
  exact in_aux (neg := true) r ra rb q
def cmpV : CmpOp → Hs → Val → Val → Option Val
  | .Eq => eqVV
  | .NotEq => neV
  | .Lt => ordV fun i j => decide (i < j)
  | .LtE => ordV fun i j => decide (i ≤ j)
  | .Gt => ordV fun i j => decide (j < i)
  | .GtE => ordV fun i j => decide (j ≤ i)
  | .Is => isV false
  | .IsNot => isV true
  | .In => inVV false
  | .NotIn => inVV true
theorem cmpV_ok {X : Cx} (hu : X.A.units + 64 < cLine) (op : CmpOp) : OpS X (compareOp op) (cmpV op) := by
  cases op
  · exact op_eqS hu
  · exact op_neS hu
  · exact opS_ord op_lt
  · exact opS_ord op_le
  · exact opS_ord op_gt
  · exact opS_ord op_ge
  · exact op_isS
  · exact op_isnotS
  · exact op_inS
  · exact op_notinS

/-! ### subscripts -/
def ixV (h : Hs) : Val → Val → Option Val
  | .str z, .int i => if z.length ≤ sizeLine then (atI z.cps.toList i).map fun c => .str ⟨#[c]⟩ else none
  | a, .int i => (seqOf h a).bind fun l => atI l i
  | _, _ => none
theorem atI_rvs {K : PySem.W.Frag} {H : Hp} {p : Loc} {ow : Addr → Prop} {l : List Val} {xs : List V} {i : Int} {v : Val} (s : RVs K H p ow l xs) (e : atI l i = some v) : ∃ x, atI xs i = some x ∧ RV K H p ow v x := by
  unfold atI at e ⊢
  rw [← s.length]
  cases h : ixN l.length i with
  | none => rw [h] at e; cases e
  | some j => rw [h] at e; exact s.get (i := j) e
def IxS (X : Cx) (g : Hs → Val → Val → Option Val) : Prop := IxR X fun x y H Q => ∃ p h va vb, RH X.K p h H ∧ RV X.K H p (Ow p h) va x ∧ RV X.K H p (Ow p h) vb y ∧ PV1 X.K p h H (g h va vb) Q
theorem ixr_imp {X : Cx} {r r' : R2} (h : IxR X r) (i : ∀ x y H Q, r' x y H Q → r x y H Q) : IxR X r' := fun a b pins s σ H x y u v Q I rx ry q e => h a b pins s σ H x y u v Q I rx ry (i x y H Q q) e
theorem ixS_ok {X : Cx} : IxS X ixV := by
  refine ixr_imp ix_seq ?_
  rintro x y H Q ⟨p, h, va, vb, r, ra, rb, q⟩
  have other : ∀ i, vb = .int i → ixV h va vb = ((seqOf h va).bind fun l => atI l i) → rIx X.K x y H Q := fun i ei e => by
    rw [e] at q
    subst ei
    cases rb
    cases e1 : seqOf h va with
    | none => rw [e1] at q; exact q.elim
    | some l =>
      rw [e1] at q
      simp only [Option.bind_some] at q
      cases e2 : atI l i with
      | none => rw [e2] at q; exact q.elim
      | some v =>
        rw [e2] at q
        obtain ⟨a, xs, rfl, h1, s⟩ := seqOf_ok r ra e1
        obtain ⟨z, e3, rz⟩ := atI_rvs s e2
        rcases h1 with h1 | h1
        · exact .inl ⟨a, xs, i, z, rfl, rfl, h1, e3, pv_here q r rz⟩
        · exact .inr (.inl ⟨a, xs, i, z, rfl, rfl, h1, e3, pv_here q r rz⟩)
  cases vb with
  | int i =>
    cases va with
    | str z =>
      cases ra; cases rb
      have q : PV1 X.K p h H (if z.length ≤ sizeLine then (atI z.cps.toList i).map (fun c => Val.str ⟨#[c]⟩) else none) Q := q
      by_cases hz : z.length ≤ sizeLine
      · rw [if_pos hz] at q
        cases e2 : atI z.cps.toList i with
        | none => rw [e2] at q; exact q.elim
        | some c => rw [e2] at q; exact .inr (.inr ⟨z, i, c, rfl, rfl, hz, e2, pv_here q r .str⟩)
      · rw [if_neg hz] at q; exact q.elim
    | _ => exact other i rfl rfl
  | _ => cases va <;> exact q.elim
/-- slices, the parts told or not -/
def cutL (l : List Val) (lo hi : Option Int) : List Val := (l.drop (HT.sIx l.length 0 lo)).take (HT.sIx l.length l.length hi - HT.sIx l.length 0 lo)
def slV (h : Hs) (v : Val) (lo hi : Option Int) : Option Val := match v with
  | .str z => if z.length ≤ sizeLine then some (.str (cutS z lo hi)) else none
  | .tup l => some (.tup (cutL l lo hi))
  | .scr l => some (.lst (cutL l lo hi))
  | v => (lstOf h v).map fun l => .lst (cutL l lo hi)
def SlS (X : Cx) (g : Hs → Val → Option Int → Option Int → Option Val) : Prop := SlR X fun x lo hi H Q => ∃ p h v, RH X.K p h H ∧ RV X.K H p (Ow p h) v x ∧ PV1 X.K p h H (g h v lo hi) Q
theorem slr_imp {X : Cx} {r r' : V → Option Int → Option Int → Hp → VK → Prop} (h : SlR X r) (i : ∀ x lo hi H Q, r' x lo hi H Q → r x lo hi H Q) : SlR X r' := fun pins s σ H x v vl vu lo hi sl Q I rx hs pl pu q => h pins s σ H x v vl vu lo hi sl Q I rx hs pl pu (i x lo hi H Q q)
theorem cut_rvs {K : PySem.W.Frag} {H : Hp} {p : Loc} {ow : Addr → Prop} {l : List Val} {xs : List V} {lo hi : Option Int} (s : RVs K H p ow l xs) : RVs K H p ow (cutL l lo hi) (cutV xs lo hi) := by
  unfold cutL cutV
  rw [← s.length]
  exact (s.drop _).take _
theorem slS_ok {X : Cx} : SlS X slV := by
  refine slr_imp (SlR.or sl_list (SlR.or sl_tupA sl_str)) ?_
  rintro x lo hi H Q ⟨p, h, v, r, rv, q⟩
  have lists : ∀ {l : List Val} {a : Addr} {xs : List V}, SqL X.K H a xs → RVs X.K H p (Ow p h) l xs → x = .ref a → PV1 X.K p h H (some (.lst (cutL l lo hi))) Q → rSlL X.K x lo hi H Q := fun {l a xs} h1 s e q => ⟨a, xs, e, h1, pv_newL q r (cut_rvs s)⟩
  have other : slV h v lo hi = ((lstOf h v).map fun l => .lst (cutL l lo hi)) → rSlL X.K x lo hi H Q := fun e => by
    rw [e] at q
    cases e1 : lstOf h v with
    | none => rw [e1] at q; exact q.elim
    | some l =>
      rw [e1] at q
      obtain ⟨a, xs, e2, h1, s⟩ := lstOf_ok r rv e1
      exact lists (SqL.of h1) s e2 q
  cases v with
  | str z =>
    cases rv
    have q : PV1 X.K p h H (if z.length ≤ sizeLine then some (.str (cutS z lo hi)) else none) Q := q
    by_cases hz : z.length ≤ sizeLine
    · rw [if_pos hz] at q; exact .inr (.inr ⟨z, rfl, hz, pv_here q r .str⟩)
    · rw [if_neg hz] at q; exact q.elim
  | tup l =>
    cases rv with
    | @tup _ a xs f s =>
      refine .inr (.inl ⟨a, xs, rfl, f.sq, fun ⟨e1, e2⟩ => ?_, fun _ => pv_newT q r (cut_rvs s)⟩)
      have el : cutL l lo hi = l := by
        unfold cutL
        rw [s.length, e1, e2, List.drop_zero, Nat.sub_zero, ← s.length, List.take_length]
      have q : PV1 X.K p h H (some (.tup (cutL l lo hi))) Q := q
      rw [el] at q
      exact pv_here q r (.tup f s)
  | scr l =>
    cases rv with
    | scr f s => exact .inl (lists f.sq s rfl q)
  | _ => exact .inl (other rfl)
end Ev

namespace Ev
open PySem PySem.Spec PyProof.Rows L2

/-! ### list comprehensions -/
def compL (f : TgF) (mt : Rho → M Bool) (me : Rho → M Val) (ρ : Rho) : List Val → M (List Val)
  | [] => pure []
  | v :: l => fun h => match f h v ρ with
    | none => .bad
    | some ρ1 => (do
        let b ← mt ρ1
        if b = true then do
          let x ← me ρ1
          let xs ← compL f mt me ρ l
          pure (x :: xs)
        else compL f mt me ρ l : M (List Val)) h
/-- no exception leaves -/
def noX {α : Type} (m : M α) : M α := fun h => match m h with
  | .ok a h' => .ok a h'
  | _ => .bad
def wipeR (ρ : Rho) : List Nat → Rho
  | [] => ρ
  | v :: vs => (wipeR ρ vs).set v none
theorem wipeR_length (ρ : Rho) : ∀ vs : List Nat, (wipeR ρ vs).length = ρ.length
  | [] => rfl
  | v :: vs => by unfold wipeR; rw [List.length_set, wipeR_length ρ vs]
theorem RS.wipe {K : PySem.W.Frag} {p : Loc} {h : Hs} {H : Hp} {ρ : Rho} {σ : L2.St} (r : RS K p h H ρ σ) : ∀ vs : List Nat, RS K p h H (wipeR ρ vs) (L2.wipe σ vs)
  | [] => r
  | v :: vs => by
    have ih := RS.wipe r vs
    unfold wipeR L2.wipe
    refine ⟨ih.rh, by rw [List.length_set, List.length_set]; exact ih.len, fun i w e => ?_⟩
    by_cases hi : v = i
    · subst hi
      by_cases hv : v < (wipeR ρ vs).length
      · rw [List.getElem?_set_self hv] at e; cases e
      · rw [List.getElem?_eq_none (by rw [List.length_set]; omega)] at e; cases e
    · rw [List.getElem?_set_ne hi] at e ⊢
      exact ih.at_ i w e
theorem wipe_get (σ : L2.St) : ∀ (vs : List Nat) (i : Nat), (L2.wipe σ vs)[i]? = if i ∈ vs ∧ i < σ.length then some none else σ[i]?
  | [], i => by simp [L2.wipe]
  | v :: vs, i => by
    unfold L2.wipe
    by_cases hi : v = i
    · subst hi
      by_cases hv : v < σ.length
      · rw [List.getElem?_set_self (by rw [wipe_length]; exact hv), if_pos ⟨by simp, hv⟩]
      · rw [List.getElem?_eq_none (by rw [List.length_set, wipe_length]; omega), if_neg (by intro z; exact hv z.2), List.getElem?_eq_none (by omega)]
    · rw [List.getElem?_set_ne hi, wipe_get σ vs i]
      have e : (i ∈ v :: vs ∧ i < σ.length) ↔ (i ∈ vs ∧ i < σ.length) := by
        rw [List.mem_cons]
        constructor
        · rintro ⟨z | z, y⟩
          · exact absurd z.symm hi
          · exact ⟨z, y⟩
        · rintro ⟨z, y⟩; exact ⟨.inr z, y⟩
      by_cases q : i ∈ vs ∧ i < σ.length
      · rw [if_pos q, if_pos (e.mpr q)]
      · rw [if_neg q, if_neg (fun z => q (e.mp z))]
theorem wipe_out {σ σ' : L2.St} {sl vs : List Nat} (o : Out_ sl σ σ') (s : ∀ i ∈ sl, i ∈ vs) : L2.wipe σ' vs = L2.wipe σ vs := by
  refine List.ext_getElem? fun i => ?_
  rw [wipe_get, wipe_get, o.1]
  by_cases q : i ∈ vs ∧ i < σ.length
  · rw [if_pos q, if_pos q]
  · rw [if_neg q, if_neg q]
    by_cases hi : i ∈ vs
    · have hl : ¬ i < σ.length := fun z => q ⟨hi, z⟩
      rw [List.getElem?_eq_none (by rw [o.1]; omega), List.getElem?_eq_none (by omega)]
    · exact o.2 i fun z => hi (s i z)
theorem wipe_wipe (σ : L2.St) (vs : List Nat) : L2.wipe (L2.wipe σ vs) vs = L2.wipe σ vs := by
  refine List.ext_getElem? fun i => ?_
  rw [wipe_get, wipe_get, wipe_length]
  by_cases q : i ∈ vs ∧ i < σ.length
  · rw [if_pos q, if_pos q]
  · rw [if_neg q, if_neg q]

def NoW : WX := fun _ _ _ _ => False
section
variable {X : Cx} {W : WX}
theorem bind_split {α β : Type} {m : M α} {f : α → M β} {h : Hs} {r : Out β} (e : (m >>= f) h = r) : (∃ a h', m h = .ok a h' ∧ f a h' = r) ∨ (∃ x h', m h = .exc x h' ∧ r = .exc x h') ∨ (m h = .bad ∧ r = .bad) := by
  cases q : m h with
  | ok a h' => rw [bind_ok q] at e; exact .inl ⟨a, h', rfl, e⟩
  | exc x h' => rw [bind_exc q] at e; exact .inr (.inl ⟨x, h', rfl, e.symm⟩)
  | bad =>
    have e2 : (m >>= f) h = .bad := by
      show M.bind m f h = _
      unfold M.bind
      rw [q]
    rw [e2] at e
    exact .inr (.inr ⟨rfl, e.symm⟩)
/-- the list at D holds acc; l is still to be walked -/
def CInv (K : PySem.W.Frag) (f : TgF) (mt : Rho → M Bool) (me : Rho → M Val) (ρ : Rho) (σ : L2.St) (l : List Val) (D : Addr) (p0 : Loc) (h0 : Hs) (H0 : Hp) (Q : VK) (i : Nat) (H : Hp) : Prop :=
  ∃ p h acc xs ys h', RS K (p.hide D) h H ρ σ ∧ Stp p0 h0 H0 p h H ∧ H D = some (.lst xs) ∧ RVs K H (p.hide D) (Ow (p.hide D) h) acc xs ∧ acc.length ≤ i ∧ compL f mt me ρ (l.drop i) h = .ok ys h' ∧
    ∀ p' H' x, Stp p0 h0 H0 p' h' H' → RH K p' h' H' → RV K H' p' (Ow p' h') (.lst (acc ++ ys)) x → Q x H'
def lcM (f : TgF) (mt : Rho → M Bool) (me : Rho → M Val) (ρ : Rho) (l : List Val) : M Val := fun h => if l.length ≤ sizeLine then (match compL f mt me ρ l h with
  | .ok ys h' => .ok (.lst ys) h'
  | _ => .bad) else .bad
theorem tLc_of {own : List (Str × Nat)} {mi : Rho → M (List Val)} {f : TgF} {sl : List Nat} {mt : Rho → M Bool} {me : Rho → M Val} (hsl : ∀ i ∈ sl, i ∈ own.map (·.2)) {σ : L2.St} {H : Hp} {Q : VK}
    (q : tE X.K W (fun ρ => do let l ← mi ρ; lcM f mt me (wipeR ρ (own.map (·.2))) l) σ H Q) : tLc (tI X.K W mi) (tGt X.K sl f) (tT X.K NoW mt) (tE X.K NoW me) (own.map (·.2)) σ H Q := by
  obtain ⟨p, ρ, h, r, q⟩ := q
  refine ⟨p, ρ, h, r, ?_⟩
  have q : PO X.K (RV X.K) (fun c d H' => W c d σ H') ((mi ρ >>= fun l => lcM f mt me (wipeR ρ (own.map (·.2))) l) h) p h H Q := q
  rcases bind_split (m := mi ρ) (f := fun l => lcM f mt me (wipeR ρ (own.map (·.2))) l) (h := h) rfl with ⟨l, h1, em, e2⟩ | ⟨x, h1, em, e2⟩ | ⟨em, e2⟩
  rotate_left
  · rw [em]; rw [e2] at q; exact q
  · rw [em]; rw [e2] at q; exact q
  rw [← e2] at q
  rw [em]
  intro p1 H1 J s1 r1 it D hD
  unfold lcM at q
  by_cases hz : l.length ≤ sizeLine
  rotate_left
  · rw [if_neg hz] at q; exact q.elim
  rw [if_pos hz] at q
  generalize hρ : wipeR ρ (own.map (·.2)) = ρw at q
  have rw1 : RS X.K p1 h1 H1 ρw (L2.wipe σ (own.map (·.2))) := by rw [← hρ]; exact (r.stp s1 r1).wipe _
  cases ec : compL f mt me ρw l h1 with
  | bad => rw [ec] at q; exact q.elim
  | exc x h' => rw [ec] at q; exact q.elim
  | ok ys h2 =>
  rw [ec] at q
  have q : ∀ p' H' x, Stp p h H p' h2 H' → RH X.K p' h2 H' → RV X.K H' p' (Ow p' h2) (.lst ys) x → Q x H' := q
  have nz : ¬ p1.z D := fun z => r1.zne hD z rfl
  have start : CInv X.K f mt me ρw (L2.wipe σ (own.map (·.2))) l D p1 h1 H1 Q 0 (upd H1 D (.lst [])) := ⟨p1, h1, [], [], ys, h2, ⟨rh_hide r1 hD, rw1.len, fun j w e => let ⟨x, e1, v⟩ := rw1.at_ j w e; ⟨x, e1, v.monq (kq_hide hD)⟩⟩,
    stp_new r1 hD, upd_same, .nil, Nat.le_refl _, by simpa using ec, fun p' H' x s r' v => q p' H' x (s1.trans s) r' v⟩
  refine ⟨fun i m H => i + m = l.length ∧ CInv X.K f mt me ρw (L2.wipe σ (own.map (·.2))) l D p1 h1 H1 Q i H, ⟨l.length, by omega, start⟩, ?_⟩
  rintro i m H3 ⟨hm, p3, h3, acc, xs, zs, h4, r3, s3, hD3, va, hacc, ez, k3⟩
  have nz3 : ¬ p3.z D := by rw [s3.zz]; exact nz
  have k3q : Kq H1 p1 (Ow p1 h1) H3 (p3.hide D) (Ow (p3.hide D) h3) := ⟨fun b u e hb => let ⟨e1, n1⟩ := s3.fr b u e hb; ⟨e1, fun z => (ow_hide.mp z).elim n1 fun y => ne_of_none e hD y⟩, s3.px⟩
  obtain ⟨go, stop⟩ := it (p3.hide D) h3 H3 k3q r3.rh
  by_cases hlt : i < l.length
  rotate_left
  · have ei : i = l.length := by omega
    subst ei
    rw [List.drop_length] at ez
    cases ez
    refine .inl ⟨stop, k3 p3 H3 _ s3 (rh_show r3.rh) ?_⟩
    rw [List.append_nil]
    have v2 : RVs X.K H3 p3 (Ow p3 h3) acc xs := va.monq kq_show
    exact .lst hD3 (show_not r3.rh nz3) v2
  obtain ⟨g1, y1⟩ := go i l[i] (List.getElem?_eq_getElem hlt)
  refine .inr ⟨g1, CInv X.K f mt me ρw (L2.wipe σ (own.map (·.2))) l D p1 h1 H1 Q (i + 1), fun H' c => ⟨m - 1, by omega, by omega, c⟩, fun x H5 y => ?_⟩
  obtain ⟨P5, s5, r5, v5⟩ := y1 x H5 y
  obtain ⟨p5, rfl, z5⟩ := hid_of s5
  have s05 := stp_thru hD s3 s5 z5
  have a5 : RVs X.K H5 (p5.hide D) (Ow (p5.hide D) h3) acc xs := va.mono s5
  have hD5 : H5 D = some (.lst xs) := (s5.hid D (.inr rfl)).trans hD3
  refine ⟨p5.hide D, ρw, h3, l[i], r3.stp s5 r5, v5, ?_⟩
  rw [List.drop_eq_getElem_cons hlt] at ez
  have ez : (match f h3 l[i] ρw with
    | none => Out.bad
    | some ρ1 => (mt ρ1 >>= fun b => if b = true then (me ρ1 >>= fun x => compL f mt me ρw (l.drop (i + 1)) >>= fun xs => pure (x :: xs)) else compL f mt me ρw (l.drop (i + 1)) : M (List Val)) h3) = .ok zs h4 := ez
  cases ef : f h3 l[i] ρw with
  | none => rw [ef] at ez; cases ez
  | some ρ1 =>
  rw [ef] at ez
  dsimp only at ez
  intro P6 H6 σ6 s6 r6 o6
  obtain ⟨p6, rfl, z6⟩ := hid_of s6
  refine ⟨by rw [wipe_out o6 hsl, wipe_wipe], p6.hide D, ρ1, h3, r6, ?_⟩
  rcases bind_split ez with ⟨b, h7, em7, ez⟩ | ⟨_, _, _, e9⟩ | ⟨_, e9⟩
  rotate_left
  · cases e9
  · cases e9
  rw [em7]
  intro P7 H7 b' s7 r7 eb
  have eb : b = b' := eb
  subst eb
  obtain ⟨p7, rfl, z7⟩ := hid_of s7
  have s57 := (s5.trans s6).trans s7
  have z57 : p7.z = p3.z := by rw [z7, z6, z5]
  have s07 := stp_thru hD s3 s57 z57
  have rw7 : RS X.K (p7.hide D) h7 H7 ρw (L2.wipe σ (own.map (·.2))) := r3.stp s57 r7
  have a7 : RVs X.K H7 (p7.hide D) (Ow (p7.hide D) h7) acc xs := va.mono s57
  have hD7 : H7 D = some (.lst xs) := (s57.hid D (.inr rfl)).trans hD3
  cases b with
  | false =>
    simp only [Bool.false_eq_true, if_false] at ez ⊢
    exact ⟨p7, h7, acc, xs, zs, h4, rw7, s07, hD7, a7, by omega, ez, k3⟩
  | true =>
    simp only [if_true] at ez ⊢
    refine ⟨p7.hide D, ρ1, h7, r6.stp s7 r7, ?_⟩
    rcases bind_split ez with ⟨v, h8, em8, ez⟩ | ⟨_, _, _, e9⟩ | ⟨_, e9⟩
    rotate_left
    · cases e9
    · cases e9
    rw [em8]
    intro P8 H8 y8 s8 r8 v8
    obtain ⟨p8, rfl, z8⟩ := hid_of s8
    rcases bind_split ez with ⟨ws, h9, em9, ez⟩ | ⟨_, _, _, e9⟩ | ⟨_, e9⟩
    rotate_left
    · cases e9
    · cases e9
    cases ez
    have s58 := s57.trans s8
    have hD8 : H8 D = some (.lst xs) := (s58.hid D (.inr rfl)).trans hD3
    have s08 := stp_thru hD s3 s58 (by rw [z8, z57])
    have kd : Kq H8 (p8.hide D) (Ow (p8.hide D) h8) (upd H8 D (.lst (xs ++ [y8]))) (p8.hide D) (Ow (p8.hide D) h8) := kq_hid (.inr rfl)
    have a8 : RVs X.K H8 (p8.hide D) (Ow (p8.hide D) h8) acc xs := va.mono s58
    have rw8 := r3.stp s58 r8
    refine ⟨xs, hD8, by rw [← va.length]; omega, p8, h8, acc ++ [v], xs ++ [y8], ws, h4, ⟨rh_hid r8 (.inr rfl), rw8.len, fun j w e => let ⟨x, e1, v⟩ := rw8.at_ j w e; ⟨x, e1, v.monq kd⟩⟩, stp_updD hD nz s08, upd_same,
      (a8.append (.cons v8 .nil)).monq kd, by rw [List.length_append, List.length_singleton]; omega, em9, fun p' H' x s r' v => k3 p' H' x s r' ?_⟩
    rw [List.append_assoc] at v
    exact v
theorem pe_lcS {tg elt iter : Expr} {ifs : List Expr} {scope : Scope} {own : List (Str × Nat)} {pos : Pos} {mi : Rho → M (List Val)} {f : TgF} {sl : List Nat} {mt : Rho → M Bool} {me : Rho → M Val} (hc : X.calm = true) (hN : X.N.Nodup) (hi : PI X tg iter (tI X.K W mi)) (ok : BlkOk X.N X.env.scope scope own)
    (hg : ∀ (s : Shared) (H : Hp) (C : Addr) (cl : List (Str × Addr)) (fp : List Addr), PG (X.blk s H scope (compEnvC scope cl C X.env) fp) tg (tGt X.K sl f)) (hsl : ∀ i ∈ sl, i ∈ own.map (·.2))
    (ht : ∀ (s : Shared) (H : Hp) (C : Addr) (cl : List (Str × Addr)) (fp : List Addr), PTs (X.blk s H scope (compEnvC scope cl C X.env) fp) ifs (tT X.K NoW mt))
    (he : ∀ (s : Shared) (H : Hp) (C : Addr) (cl : List (Str × Addr)) (fp : List Addr), PE (X.blk s H scope (compEnvC scope cl C X.env) fp) elt (tE X.K NoW me)) (hs : ∀ x, foldedSetIterable iter X.env x = pure x) :
    PE X (.ListComp elt [⟨tg, iter, ifs, 0⟩] scope pos) (tE X.K W fun ρ => do let l ← mi ρ; lcM f mt me (wipeR ρ (own.map (·.2))) l) :=
  pe_imp (pe_lc hc hN hi ok hg ht he hs) fun σ H Q q => tLc_of hsl q
theorem ps_lcS {tg elt iter : Expr} {ifs : List Expr} {scope : Scope} {own : List (Str × Nat)} {pos spos py : Pos} {y : Str} {i : Nat} {mi : Rho → M (List Val)} {f : TgF} {sl : List Nat} {mt : Rho → M Bool} {me : Rho → M Val} (hc : X.calm = true) (hN : X.N.Nodup) (hy : X.N[i]? = some y) (hx : L2.Loc X.env.scope y) (hfn : X.fn y = true ∨ X.env.scope.names.lookup y = some .local)
    (hi : PI X tg iter (tI X.K W mi)) (ok : BlkOk X.N X.env.scope scope own)
    (hg : ∀ (s : Shared) (H : Hp) (C : Addr) (cl : List (Str × Addr)) (fp : List Addr), PG (X.blk s H scope (compEnvC scope cl C X.env) fp) tg (tGt X.K sl f)) (hsl : ∀ i ∈ sl, i ∈ own.map (·.2))
    (ht : ∀ (s : Shared) (H : Hp) (C : Addr) (cl : List (Str × Addr)) (fp : List Addr), PTs (X.blk s H scope (compEnvC scope cl C X.env) fp) ifs (tT X.K NoW mt))
    (he : ∀ (s : Shared) (H : Hp) (C : Addr) (cl : List (Str × Addr)) (fp : List Addr), PE (X.blk s H scope (compEnvC scope cl C X.env) fp) elt (tE X.K NoW me)) (hs : ∀ x, foldedSetIterable iter X.env x = pure x) :
    PS X (.Assign [.Name y py] (.ListComp elt [⟨tg, iter, ifs, 0⟩] scope pos) spos) (tS X.K W fun ρ => withE (do let l ← mi ρ; lcM f mt me (wipeR ρ (own.map (·.2))) l) ρ fun v => pure (.next (ρ.set i (some v)))) := by
  have fin : ∀ {D : Ends} {σ : L2.St} {H : Hp}, tS X.K W (fun ρ => withE (do let l ← mi ρ; lcM f mt me (wipeR ρ (own.map (·.2))) l) ρ fun v => pure (.next (ρ.set i (some v)))) D σ H → tAsg (tE X.K W fun ρ => do let l ← mi ρ; lcM f mt me (wipeR ρ (own.map (·.2))) l) (gName i) D σ H := fun {D σ H} ⟨p, ρ, h, r, q⟩ =>
    ⟨p, ρ, h, r, (PF.withE r q).imp fun y H1 ⟨p1, h1, v, r1, v1, q1⟩ => q1 p1 H1 _ .refl (r1.set v1 i)⟩
  cases hb : (X.env.blockKind == .function && X.env.kindOf y == some .local && py.line == pos.line && !(scope.names.any fun (n, k) => n == y && (k == .local || k == .cell))) with
  | false =>
    refine ps_imp (ps_set hN hy hx (pe_lcS (W := W) hc hN hi ok hg hsl ht he hs) (by show pure (X.env.blockKind == .function && X.env.kindOf y == some .local && py.line == pos.line && !(scope.names.any fun (n, k) => n == y && (k == .local || k == .cell))) = _; rw [hb]) hfn) fun D σ H q => fin q
  | true =>
    have hl : X.env.scope.names.lookup y = some .local := by
      simp only [Bool.and_eq_true] at hb
      have := hb.1.1.2
      exact beq_iff_eq.mp this
    refine ps_imp (ps_setLc hc hN hy hl (by show pure (X.env.blockKind == .function && X.env.kindOf y == some .local && py.line == pos.line && !(scope.names.any fun (n, k) => n == y && (k == .local || k == .cell))) = _; rw [hb]) hi ok hg ht he hs) fun D σ H q => ?_
    exact tLc_of hsl (fin q)
end
end Ev

namespace Ev
open PySem PySem.Spec PyProof.Rows L2

/-! ### what is walked -/
theorem itr_list {K : PySem.W.Frag} {p0 : Loc} {h0 : Hs} {H0 : Hp} {a : Addr} {l : List Val} {xs : List V} (f : FL K H0 (Ow p0 h0) a xs) (s : RVs K H0 p0 (Ow p0 h0) l xs) : ItR K (Itl K a) l p0 h0 H0 := by
  intro p h H k r
  have f' := (k.fl f).sq
  have s' := s.monq k
  refine ⟨fun i v e => ?_, ⟨xs, f', by rw [s.length]; exact Nat.le_refl _⟩⟩
  obtain ⟨x, e1, r1⟩ := s'.get e
  refine ⟨⟨xs, x, f', e1⟩, fun y H' ⟨e2, q⟩ => ?_⟩
  subst e2
  have e3 := q xs f'
  rw [e1] at e3
  cases e3
  exact ⟨p, .refl, r, r1⟩
theorem itr_tup {K : PySem.W.Frag} {p0 : Loc} {h0 : Hs} {H0 : Hp} {a : Addr} {l : List Val} {xs : List V} (f : FT K H0 (Ow p0 h0) a xs) (s : RVs K H0 p0 (Ow p0 h0) l xs) : ItR K (Itt K a) l p0 h0 H0 := by
  intro p h H k r
  have f' := (k.ft f).sq
  have s' := s.monq k
  refine ⟨fun i v e => ?_, ⟨xs, f', by rw [s.length]; exact Nat.le_refl _⟩⟩
  obtain ⟨x, e1, r1⟩ := s'.get e
  refine ⟨⟨xs, x, f', e1⟩, fun y H' ⟨e2, q⟩ => ?_⟩
  subst e2
  have e3 := q xs f'
  rw [e1] at e3
  cases e3
  exact ⟨p, .refl, r, r1⟩
def chars (s : Str) : List Val := s.cps.toList.map fun c => .str ⟨#[c]⟩
def walkOf : Val → Option (List Val)
  | .lst l => some l
  | .scr l => some l
  | .tup l => some l
  | .str s => some (chars s)
  | _ => none
def rangeL (lo : Int) (n : Nat) : List Val := (List.range n).map fun (i : Nat) => .int (lo + (i : Int))
theorem itr_range {K : PySem.W.Frag} {p0 : Loc} {h0 : Hs} {H0 : Hp} {lo : Int} {n : Nat} : ItR K (Itr lo n) (rangeL lo n) p0 h0 H0 := by
  intro p h H k r
  refine ⟨fun i v e => ?_, by show n ≤ (rangeL lo n).length; simp [rangeL]⟩
  unfold rangeL at e
  rw [List.getElem?_map] at e
  cases hi : (List.range n)[i]? with
  | none => rw [hi] at e; cases e
  | some j =>
    rw [hi] at e
    obtain ⟨h1, h2⟩ := List.getElem?_eq_some_iff.mp hi
    rw [List.getElem_range] at h2
    subst h2
    cases e
    rw [List.length_range] at h1
    exact ⟨h1, fun y H' ⟨e2, e3⟩ => by subst e2 e3; exact ⟨p, .refl, r, .int⟩⟩
def okR (i : Int) : Bool := decide (-(2 ^ 62) ≤ i) && decide (i < 2 ^ 62)
theorem okR_ok {i : Int} (h : okR i = true) : -(2 ^ 62) ≤ i ∧ i < 2 ^ 62 := by
  obtain ⟨h1, h2⟩ := Bool.and_eq_true_iff.mp h
  exact ⟨of_decide_eq_true h1, of_decide_eq_true h2⟩
def rngV : List Val → Option (List Val)
  | [.int j] => if okR j = true then some (rangeL 0 j.toNat) else none
  | [.int i, .int j] => if (okR i && okR j) = true then some (rangeL i (j - i).toNat) else none
  | _ => none
section
variable {X : Cx} {W : WX} {tg : Expr}
/-- from a reading of a value to what is walked -/
theorem tI_of {mi : Rho → M (List Val)} {α β : Type} {R : Rl α β} {m : Rho → M α} {g : α → Option (List Val)} {σ : L2.St} {H : Hp} {Q : It → Hp → Prop} {T : β → Hp → Prop} (e : ∀ ρ, mi ρ = (m ρ >>= fun a => liftO (g a)))
    (q : tI X.K W mi σ H Q) (k : ∀ p1 h1 H1 a x l, RH X.K p1 h1 H1 → R H1 p1 (Ow p1 h1) a x → g a = some l → (∀ J, ItR X.K J l p1 h1 H1 → Q J H1) → T x H1) : tG X.K R W m σ H T := by
  obtain ⟨p, ρ, h, r, q⟩ := q
  rw [e ρ] at q
  refine ⟨p, ρ, h, r, ?_⟩
  rcases bind_split (m := m ρ) (f := fun a => (liftO (g a) : M (List Val))) (h := h) rfl with ⟨a, h1, em, e2⟩ | ⟨x, h1, em, e2⟩ | ⟨em, e2⟩
  · rw [em]
    rw [← e2] at q
    intro p1 H1 x s1 r1 v1
    cases eg : g a with
    | none => unfold liftO at q; rw [eg] at q; exact q.elim
    | some l =>
      unfold liftO at q
      rw [eg] at q
      exact k p1 h1 H1 a x l r1 v1 eg fun J it => q p1 H1 J s1 r1 it
  · rw [em]; rw [e2] at q; exact q
  · rw [em]; rw [e2] at q; exact q
theorem pi_seqS {e : Expr} {m : Rho → M Val} (he : PE X e (tE X.K W m)) : PI X tg e (tI X.K W fun ρ => do let v ← m ρ; liftO (walkOf v)) := by
  refine pi_imp (pi_or (pi_list he) (pi_or (pi_tup he) (pi_str he))) fun σ H Q q => ?_
  -- the value is one, and decides
  obtain ⟨p, ρ, h, r, q0⟩ := id q
  rcases bind_split (m := m ρ) (f := fun v => (liftO (walkOf v) : M (List Val))) (h := h) rfl with ⟨v, h1, em, e2⟩ | ⟨x, h1, em, e2⟩ | ⟨em, e2⟩
  · have q0 : (match (m ρ >>= fun v => (liftO (walkOf v) : M (List Val))) h with
      | .ok l h' => ∀ p' H' J, Stp p h H p' h' H' → RH X.K p' h' H' → ItR X.K J l p' h' H' → Q J H'
      | .exc e h' => ∀ p' H' c d, Stp p h H p' h' H' → RH X.K p' h' H' → RX X.K H' p' (Ow p' h') e c d → W c d σ H'
      | .bad => False) := q0
    rw [← e2] at q0
    have lists : ∀ {l : List Val}, walkOf v = some l → (∀ p1 H1 x, RV X.K H1 p1 (Ow p1 h1) v x → ∃ a xs, x = .ref a ∧ FL X.K H1 (Ow p1 h1) a xs ∧ RVs X.K H1 p1 (Ow p1 h1) l xs) → iList X.K (tE X.K W m) σ H Q := fun {l} ew hv => by
      unfold liftO at q0
      rw [ew] at q0
      refine ⟨p, ρ, h, r, ?_⟩
      rw [em]
      intro p1 H1 x s1 r1 v1
      obtain ⟨a, xs, rfl, f, s⟩ := hv p1 H1 x v1
      exact ⟨a, rfl, ⟨xs, f.sq⟩, q0 p1 H1 _ s1 r1 (itr_list f s)⟩
    cases v with
    | lst l => exact .inl (lists rfl fun p1 H1 x q => by cases q with | lst f n s => exact ⟨_, _, rfl, .inl ⟨.inl f, n⟩, s⟩)
    | scr l => exact .inl (lists rfl fun p1 H1 x q => by cases q with | scr f s => exact ⟨_, _, rfl, f, s⟩)
    | tup l =>
      refine .inr (.inl ⟨p, ρ, h, r, ?_⟩)
      rw [em]
      intro p1 H1 x s1 r1 v1
      cases v1 with
      | @tup _ a xs f s => exact ⟨a, rfl, ⟨xs, f.sq⟩, q0 p1 H1 _ s1 r1 (itr_tup f s)⟩
    | str z =>
      refine .inr (.inr ⟨p, ρ, h, r, ?_⟩)
      rw [em]
      intro p1 H1 x s1 r1 v1
      cases v1
      refine ⟨z, rfl, q0 p1 H1 _ s1 r1 fun p2 h2 H2 k2 r2 => ⟨fun i w e => ?_, ?_⟩⟩
      · unfold chars at e
        rw [List.getElem?_map] at e
        cases hc : z.cps.toList[i]? with
        | none => rw [hc] at e; cases e
        | some c =>
          rw [hc] at e
          cases e
          have hl : i < z.cps.size := by
            have := (List.getElem?_eq_some_iff.mp hc).1
            rw [Array.length_toList] at this
            exact this
          refine ⟨hl, fun y H' ⟨e3, c', e4, e5⟩ => ?_⟩
          subst e3 e5
          have e6 : z.cps.toList[i]? = some c' := by rw [Array.getElem?_toList]; exact e4
          rw [hc] at e6
          cases e6
          exact ⟨p2, .refl, r2, .str⟩
      · show z.cps.size ≤ (chars z).length
        unfold chars
        rw [List.length_map, Array.length_toList]
        exact Nat.le_refl _
    | _ => exact q0.elim
  · refine .inl ⟨p, ρ, h, r, ?_⟩
    rw [em]
    have q0 : (match (m ρ >>= fun v => (liftO (walkOf v) : M (List Val))) h with
      | .ok l h' => ∀ p' H' J, Stp p h H p' h' H' → RH X.K p' h' H' → ItR X.K J l p' h' H' → Q J H'
      | .exc e h' => ∀ p' H' c d, Stp p h H p' h' H' → RH X.K p' h' H' → RX X.K H' p' (Ow p' h') e c d → W c d σ H'
      | .bad => False) := q0
    rw [e2] at q0
    exact q0
  · have q0 : (match (m ρ >>= fun v => (liftO (walkOf v) : M (List Val))) h with
      | .ok l h' => ∀ p' H' J, Stp p h H p' h' H' → RH X.K p' h' H' → ItR X.K J l p' h' H' → Q J H'
      | .exc e h' => ∀ p' H' c d, Stp p h H p' h' H' → RH X.K p' h' H' → RX X.K H' p' (Ow p' h') e c d → W c d σ H'
      | .bad => False) := q0
    rw [e2] at q0
    exact q0.elim
theorem pi_rngS1 {a : Expr} {ml : Rho → M (List Val)} {p pos : Pos} (hg : Gl X "range") (hm : X.mg "range" = none) (ha : PA X [a] (tA X.K W ml)) (hs : starEach [a] X.env = [(false, eval a X.env)]) :
    PI X tg (.Call (.Name "range" p) [a] [] pos) (tI X.K W fun ρ => do let vs ← ml ρ; liftO (match vs with | [_] => rngV vs | _ => none)) := by
  refine pi_imp (pi_range1 hg hm ha hs) fun σ H Q q => ?_
  refine tI_of (R := RVs X.K) (m := ml) (g := fun vs => match vs with | [_] => rngV vs | _ => none) (fun _ => rfl) q fun p1 h1 H1 vs x l r1 v1 e1 it => ?_
  cases v1 with
  | nil => cases e1
  | @cons v y vs ys rv s =>
    cases s with
    | cons _ _ => cases e1
    | nil =>
      cases rv with
      | @int j =>
        have e1 : (if okR j = true then some (rangeL 0 j.toNat) else none) = some l := e1
        by_cases hk : okR j = true
        · rw [if_pos hk] at e1
          cases e1
          exact ⟨j, rfl, (okR_ok hk).1, (okR_ok hk).2, it _ itr_range⟩
        · rw [if_neg hk] at e1; cases e1
      | _ => cases e1
theorem pi_rngS2 {a b : Expr} {ml : Rho → M (List Val)} {p pos : Pos} (hg : Gl X "range") (hm : X.mg "range" = none) (ha : PA X [a, b] (tA X.K W ml)) (hs : starEach [a, b] X.env = [(false, eval a X.env), (false, eval b X.env)]) (hs2 : starEach [b] X.env = [(false, eval b X.env)]) :
    PI X tg (.Call (.Name "range" p) [a, b] [] pos) (tI X.K W fun ρ => do let vs ← ml ρ; liftO (match vs with | [_, _] => rngV vs | _ => none)) := by
  refine pi_imp (pi_range2 hg hm ha hs hs2) fun σ H Q q => ?_
  refine tI_of (R := RVs X.K) (m := ml) (g := fun vs => match vs with | [_, _] => rngV vs | _ => none) (fun _ => rfl) q fun p1 h1 H1 vs x l r1 v1 e1 it => ?_
  cases v1 with
  | nil => cases e1
  | @cons v y vs ys rv s =>
    cases s with
    | nil => cases e1
    | @cons w z vs ys rw s =>
      cases s with
      | cons _ _ => cases e1
      | nil =>
        cases rv with
        | @int i =>
          cases rw with
          | @int j =>
            have e1 : (if (okR i && okR j) = true then some (rangeL i (j - i).toNat) else none) = some l := e1
            by_cases hk : (okR i && okR j) = true
            · rw [if_pos hk] at e1
              cases e1
              obtain ⟨h1, h2⟩ := Bool.and_eq_true_iff.mp hk
              exact ⟨i, j, rfl, ⟨(okR_ok h1).1, (okR_ok h1).2, (okR_ok h2).1, (okR_ok h2).2⟩, it _ itr_range⟩
            · rw [if_neg hk] at e1; cases e1
          | _ => cases e1
        | _ => cases e1
end

/-! ### argument lists -/
def notStar : Expr → Bool
  | .Starred _ _ => false
  | _ => true
theorem star_cons {e : Expr} {es : List Expr} {env : Env} (h : notStar e = true) : starEach (e :: es) env = (false, eval e env) :: starEach es env := by
  cases e <;> first | rfl | (cases h)
theorem star_all : ∀ {es : List Expr} {env : Env}, es.all notStar = true → (starEach es env).all (fun x => !x.1) = true
  | [], _, _ => rfl
  | e :: es, env, h => by
    rw [List.all_cons, Bool.and_eq_true_iff] at h
    rw [star_cons h.1, List.all_cons, star_all h.2]
    rfl
theorem back_none {es : List Expr} {env : Env} {pos : Pos} (h : es.all notStar = true) : (backTo pos (starEach es env)).any (·.1) = false := by
  have h1 := star_all (env := env) h
  unfold backTo
  rw [List.any_map]
  rw [List.any_eq_false]
  intro x hx
  have := List.all_eq_true.mp h1 x hx
  obtain ⟨b, t⟩ := x
  cases b with
  | false => simp
  | true => simp at this
section
variable {X : Cx} {W : WX}
theorem pa_nilS : PA X [] (tA X.K W fun _ => pure []) := pa_imp pa_nil fun σ H Q ⟨p, ρ, h, r, q⟩ => q p H [] .refl r.rh .nil
theorem pa_consS {e : Expr} {es : List Expr} {m : Rho → M Val} {ml : Rho → M (List Val)} (he : PE X e (tE X.K W m)) (hl : PA X es (tA X.K W ml)) (hs : notStar e = true) :
    PA X (e :: es) (tA X.K W fun ρ => do let v ← m ρ; let vs ← ml ρ; pure (v :: vs)) := by
  refine pa_imp (pa_cons he hl (star_cons hs)) fun σ H Q q => ?_
  refine tG.bind q fun p1 ρ h1 v x H1 r1 v1 q1 => ?_
  refine ⟨p1, ρ, h1, r1, (PO.bind q1).imp fun xs H2 ⟨p2, h2, vs, s2, r2, v2, q2⟩ => ?_⟩
  exact q2 p2 H2 (x :: xs) .refl r2 (.cons (v1.mono s2) v2)
theorem pe_tupS {es : List Expr} {k : Nat} {pos : Pos} {ml : Rho → M (List Val)} (h : PA X es (tA X.K W ml)) : PE X (.Tuple es k pos) (tE X.K W fun ρ => do let vs ← ml ρ; liftO (if vs.length ≤ sizeLine then some (.tup vs) else none)) := by
  refine pe_imp (pe_tup h) fun σ H Q q => ?_
  refine tG.bind q fun p1 ρ h1 vs xs H1 r1 v1 q1 => ?_
  have q1 := po_lift q1
  by_cases hz : vs.length ≤ sizeLine
  · rw [if_pos hz] at q1
    exact ⟨by rw [← v1.length]; exact hz, pv_newT q1 r1.rh v1⟩
  · rw [if_neg hz] at q1; exact q1.elim
theorem pe_lstS {es : List Expr} {pos : Pos} {ml : Rho → M (List Val)} (h : PA X es (tA X.K W ml)) : PE X (.List es pos) (tE X.K W fun ρ => do let vs ← ml ρ; liftO (if vs.length ≤ sizeLine then some (.lst vs) else none)) := by
  refine pe_imp (pe_lst h) fun σ H Q q => ?_
  refine tG.bind q fun p1 ρ h1 vs xs H1 r1 v1 q1 => ?_
  have q1 := po_lift q1
  by_cases hz : vs.length ≤ sizeLine
  · rw [if_pos hz] at q1
    exact ⟨by rw [← v1.length]; exact hz, pv_newL q1 r1.rh v1⟩
  · rw [if_neg hz] at q1; exact q1.elim
/-- a list that may change -/
def allocL (l : List Val) : M Val := fun h => if l.length ≤ sizeLine then .ok (.loc h.length) (h ++ [some (.lst l)]) else .bad
theorem pe_lstA {es : List Expr} {pos : Pos} {ml : Rho → M (List Val)} (h : PA X es (tA X.K W ml)) : PE X (.List es pos) (tE X.K W fun ρ => do let vs ← ml ρ; allocL vs) := by
  refine pe_imp (pe_lst h) fun σ H Q q => ?_
  refine tG.bind q fun p1 ρ h1 vs xs H1 r1 v1 q1 => ?_
  unfold allocL at q1
  by_cases hz : vs.length ≤ sizeLine
  · rw [if_pos hz] at q1
    refine ⟨by rw [← v1.length]; exact hz, fun a ha => ?_⟩
    have s := stp_push (o := HO.lst xs) (u := Ob.lst vs) r1.rh ha
    refine q1 _ _ _ s (rh_push r1.rh ha ⟨xs, rfl, v1.mono s⟩) (.loc ?_)
    show (p1.l ++ [a])[h1.length]? = some a
    rw [← r1.rh.len, List.getElem?_append_right (Nat.le_refl _), Nat.sub_self]; rfl
  · rw [if_neg hz] at q1; exact q1.elim
/-- o[i], o[lo:hi] -/
theorem pe_ixS {a b : Expr} {pos : Pos} {ma mb : Rho → M Val} (ha : PE X a (tE X.K W ma)) (hb : PE X b (tE X.K W mb)) (hs : PlainIx b) : PE X (.Subscript a b pos) (tE X.K W fun ρ => do let x ← ma ρ; let y ← mb ρ; fun h => liftO (ixV h x y) h) := by
  refine pe_imp (pe_ix ixS_ok ha hb hs) fun σ H Q q => ?_
  refine tG.bind q fun p1 ρ h1 va x H1 r1 v1 q1 => ?_
  refine ⟨p1, ρ, h1, r1, (PO.bind q1).imp fun y H2 ⟨p2, h2, vb, s2, r2, v2, q2⟩ => ?_⟩
  exact ⟨p2, h2, va, vb, r2, v1.mono s2, v2, po_lift q2⟩
/-- a part of a slice: none, or an int -/
def RO1 : Rl (Option Int) (Option Int) := fun _ _ _ a b => a = b
def partM (m : Option (Rho → M Val)) (ρ : Rho) : M (Option Int) := match m with
  | none => pure none
  | some m => do let v ← m ρ; (match v with | .int i => pure (some i) | _ => M.bad)
def PartS (X : Cx) (W : WX) (e : Option Expr) (m : Option (Rho → M Val)) : Prop := match e, m with
  | none, none => True
  | some e, some m => PE X e (tE X.K W m)
  | _, _ => False
theorem po_partS {e : Option Expr} {m : Option (Rho → M Val)} (h : PartS X W e m) : L2.PO X e (tG X.K RO1 W (partM m)) := by
  cases e with
  | none =>
    cases m with
    | some m => exact h.elim
    | none =>
      have z : L2.PO X none tNoPart := po_none
      refine ⟨fun pins s σ H Q I q => z.run pins s σ H Q I ?_⟩
      obtain ⟨p, ρ, h, r, q⟩ := q
      exact q p H none .refl r.rh rfl
  | some e =>
    cases m with
    | none => exact h.elim
    | some m =>
      have z : L2.PO X (some e) (tPart (tE X.K W m)) := po_some h
      refine ⟨fun pins s σ H Q I q => z.run pins s σ H Q I ?_⟩
      refine tG.bind (m := m) (f := fun _ v => (match v with | .int i => pure (some i) | _ => M.bad : M (Option Int))) q fun p1 ρ h1 v x H1 r1 v1 q1 => ?_
      cases v1 with
      | @int i => exact ⟨i, rfl, q1 p1 H1 (some i) .refl r1.rh rfl⟩
      | _ => exact q1.elim
theorem pe_slS {a : Expr} {lo hi : Option Expr} {p2 pos : Pos} {ma : Rho → M Val} {ml mh : Option (Rho → M Val)} (ha : PE X a (tE X.K W ma)) (hl : PartS X W lo ml) (hh : PartS X W hi mh) :
    PE X (.Subscript a (.Slice lo hi none p2) pos) (tE X.K W fun ρ => do let x ← ma ρ; let l ← partM ml ρ; let u ← partM mh ρ; fun h => liftO (slV h x l u) h) := by
  refine pe_imp (pe_slice slS_ok ha (po_partS hl) (po_partS hh)) fun σ H Q q => ?_
  refine tG.bind q fun p1 ρ h1 va x H1 r1 v1 q1 => ?_
  refine ⟨p1, ρ, h1, r1, (PO.bind q1).imp fun l H2 ⟨p2, h2, l', s2, r2, e2, q2⟩ => ?_⟩
  have e2 : l' = l := e2
  subst e2
  have rs2 := r1.stp s2 r2
  refine ⟨p2, ρ, h2, rs2, (PO.bind q2).imp fun u H3 ⟨p3, h3, u', s3, r3, e3, q3⟩ => ?_⟩
  have e3 : u' = u := e3
  subst e3
  exact ⟨p3, h3, va, r3, (v1.mono s2).mono s3, po_lift q3⟩
end
end Ev

namespace Ev
open PySem PySem.Spec PyProof.Rows L2

/-! ### built-in functions -/
theorem rvs1 {K : PySem.W.Frag} {H : Hp} {p : Loc} {ow : Addr → Prop} {v : Val} {xs : List V} (s : RVs K H p ow [v] xs) : ∃ x, xs = [x] ∧ RV K H p ow v x := by
  cases s with
  | cons r s => cases s; exact ⟨_, rfl, r⟩
theorem rvs2 {K : PySem.W.Frag} {H : Hp} {p : Loc} {ow : Addr → Prop} {v w : Val} {xs : List V} (s : RVs K H p ow [v, w] xs) : ∃ x y, xs = [x, y] ∧ RV K H p ow v x ∧ RV K H p ow w y := by
  cases s with
  | cons r s => obtain ⟨y, rfl, q⟩ := rvs1 s; exact ⟨_, y, rfl, r, q⟩
def intsOf : List Val → Option (List Int)
  | [] => some []
  | .int i :: l => (intsOf l).map (i :: ·)
  | _ => none
def boolsOf : List Val → Option (List Bool)
  | [] => some []
  | .bl i :: l => (boolsOf l).map (i :: ·)
  | _ => none
section
variable {K : PySem.W.Frag} {H : Hp} {p : Loc} {ow : Addr → Prop}
theorem intsOf_ok : ∀ {l : List Val} {xs : List V} {ns : List Int}, RVs K H p ow l xs → intsOf l = some ns → xs = ns.map V.int
  | _, _, _, .nil, e => by cases e; rfl
  | v :: l, _, ns, .cons r s, e => by
    cases v with
    | int i =>
      have e : (intsOf l).map (i :: ·) = some ns := e
      cases e1 : intsOf l with
      | none => rw [e1] at e; cases e
      | some ms => rw [e1] at e; cases e; cases r; rw [intsOf_ok s e1]; rfl
    | _ => cases e
theorem boolsOf_ok : ∀ {l : List Val} {xs : List V} {ns : List Bool}, RVs K H p ow l xs → boolsOf l = some ns → xs = ns.map V.bl
  | _, _, _, .nil, e => by cases e; rfl
  | v :: l, _, ns, .cons r s, e => by
    cases v with
    | bl i =>
      have e : (boolsOf l).map (i :: ·) = some ns := e
      cases e1 : boolsOf l with
      | none => rw [e1] at e; cases e
      | some ms => rw [e1] at e; cases e; cases r; rw [boolsOf_ok s e1]; rfl
    | _ => cases e
end
def lenV (h : Hs) : List Val → Option Val
  | [.str s] => if s.length ≤ sizeLine then some (.int s.length) else none
  | [v] => (seqOf h v).map fun l => .int (l.length : Int)
  | _ => none
theorem len_S {X : Cx} : CallS X (.builtin "len") lenV := by
  refine callr_imp (CallR.or call_len_seq call_len_str) ?_
  rintro xs H Q ⟨p, h, vs, r, s, q⟩
  cases s with
  | nil => exact q.elim
  | @cons v x l ys rv s =>
    cases s with
    | cons _ _ => cases v <;> exact q.elim
    | nil =>
      have other : lenV h [v] = ((seqOf h v).map fun l => Val.int (l.length : Int)) → ∃ a ys, [x] = [V.ref a] ∧ (SqL X.K H a ys ∨ SqT X.K H a ys) ∧ Q (.int ys.length) H := fun e => by
        rw [e] at q
        cases e1 : seqOf h v with
        | none => rw [e1] at q; exact q.elim
        | some l =>
          rw [e1] at q
          obtain ⟨a, xs, rfl, h1, s⟩ := seqOf_ok r rv e1
          exact ⟨a, xs, rfl, h1, by rw [← s.length]; exact pv_here q r .int⟩
      cases v with
      | str z =>
        cases rv
        have q : PV1 X.K p h H (if z.length ≤ sizeLine then some (.int z.length) else none) Q := q
        by_cases hz : z.length ≤ sizeLine
        · rw [if_pos hz] at q; exact .inr ⟨z, rfl, hz, pv_here q r .int⟩
        · rw [if_neg hz] at q; exact q.elim
      | _ => exact .inl (other rfl)
def absV1 (_ : Hs) : List Val → Option Val
  | [.int i] => some (.int (if i < 0 then -i else i))
  | _ => none
theorem abs_S {X : Cx} : CallS X (.builtin "abs") absV1 := by
  refine callr_imp call_abs ?_
  rintro xs H Q ⟨p, h, vs, r, s, q⟩
  match vs, s, q with
  | [.int i], s, q =>
    obtain ⟨x, rfl, rv⟩ := rvs1 s
    cases rv
    exact ⟨i, rfl, pv_here q r .int⟩
  | [], _, q => exact q.elim
  | v :: w :: l, _, q => cases v <;> exact q.elim
  | [.non], _, q => exact q.elim
  | [.bl _], _, q => exact q.elim
  | [.str _], _, q => exact q.elim
  | [.ty _], _, q => exact q.elim
  | [.tup _], _, q => exact q.elim
  | [.lst _], _, q => exact q.elim
  | [.scr _], _, q => exact q.elim
  | [.dct _ _], _, q => exact q.elim
  | [.obj _ _ _], _, q => exact q.elim
  | [.glo _], _, q => exact q.elim
  | [.loc _], _, q => exact q.elim
/-- of one list -/
def list1 (f : List Val → Option Val) (h : Hs) : List Val → Option Val
  | [v] => (match v with
    | .tup _ => none
    | v => (seqOf h v).bind f)
  | _ => none
theorem list1_ok {K : PySem.W.Frag} {p : Loc} {h : Hs} {H : Hp} {f : List Val → Option Val} {vs : List Val} {xs : List V} {Q : VK} (r : RH K p h H) (s : RVs K H p (Ow p h) vs xs) (q : PV1 K p h H (list1 f h vs) Q) :
    ∃ a ys l, xs = [.ref a] ∧ SqL K H a ys ∧ RVs K H p (Ow p h) l ys ∧ PV1 K p h H (f l) Q := by
  cases s with
  | nil => exact q.elim
  | @cons v x l ys rv s =>
    cases s with
    | cons _ _ => exact q.elim
    | nil =>
      have go : list1 f h [v] = (seqOf h v).bind f → (∀ l, v ≠ .tup l) → ∃ a ys l, [x] = [V.ref a] ∧ SqL K H a ys ∧ RVs K H p (Ow p h) l ys ∧ PV1 K p h H (f l) Q := fun e nt => by
        rw [e] at q
        cases e1 : seqOf h v with
        | none => rw [e1] at q; exact q.elim
        | some l =>
          rw [e1] at q
          cases v with
          | tup l => exact absurd rfl (nt l)
          | scr l => cases rv with | scr g s => cases e1; exact ⟨_, _, _, rfl, g.sq, s, q⟩
          | lst l => obtain ⟨a, xs, e2, h1, s⟩ := lstOf_ok r rv e1; exact ⟨a, xs, l, by rw [e2], SqL.of h1, by cases e1; exact s, by cases e1; exact q⟩
          | loc n => obtain ⟨a, xs, e2, h1, s⟩ := lstOf_ok r rv e1; exact ⟨a, xs, _, by rw [e2], SqL.of h1, s, q⟩
          | _ => cases e1
      cases v with
      | tup l => exact q.elim
      | _ => exact go rfl (fun _ z => nomatch z)
theorem sum_S {X : Cx} (hc : X.calm = true) : CallS X (.builtin "sum") (list1 fun l => (intsOf l).map fun ns => .int ns.sum) := by
  refine callr_imp (cr_sum hc) ?_
  rintro xs H Q ⟨p, h, vs, r, s, q⟩
  obtain ⟨a, ys, l, rfl, h1, s1, q⟩ := list1_ok r s q
  cases e : intsOf l with
  | none => rw [e] at q; exact q.elim
  | some ns => rw [e] at q; rw [intsOf_ok s1 e] at h1; exact ⟨a, ns, rfl, h1, pv_here q r .int⟩
theorem all_S {X : Cx} (hc : X.calm = true) : CallS X (.builtin "all") (list1 fun l => (boolsOf l).map fun ns => .bl (ns.all id)) := by
  refine callr_imp (cr_all hc) ?_
  rintro xs H Q ⟨p, h, vs, r, s, q⟩
  obtain ⟨a, ys, l, rfl, h1, s1, q⟩ := list1_ok r s q
  cases e : boolsOf l with
  | none => rw [e] at q; exact q.elim
  | some ns => rw [e] at q; rw [boolsOf_ok s1 e] at h1; exact ⟨a, ns, rfl, h1, pv_here q r .bl⟩
theorem any_S {X : Cx} (hc : X.calm = true) : CallS X (.builtin "any") (list1 fun l => (boolsOf l).map fun ns => .bl (ns.any id)) := by
  refine callr_imp (cr_any hc) ?_
  rintro xs H Q ⟨p, h, vs, r, s, q⟩
  obtain ⟨a, ys, l, rfl, h1, s1, q⟩ := list1_ok r s q
  cases e : boolsOf l with
  | none => rw [e] at q; exact q.elim
  | some ns => rw [e] at q; rw [boolsOf_ok s1 e] at h1; exact ⟨a, ns, rfl, h1, pv_here q r .bl⟩
def int1 (_ : Hs) : List Val → Option Val
  | [.int i] => some (.int i)
  | [.bl k] => some (.int (if k then 1 else 0))
  | [.str s] => if s.length ≤ 640 then (PySem.intText? s).map .int else none
  | _ => none
theorem int_S {X : Cx} : CallS X (.type "int") int1 := by
  refine callr_imp (CallR.or call_int1 call_int_str) ?_
  rintro xs H Q ⟨p, h, vs, r, s, q⟩
  match vs, s, q with
  | [.int i], s, q => obtain ⟨x, rfl, rv⟩ := rvs1 s; cases rv; exact .inl (.inl ⟨i, rfl, pv_here q r .int⟩)
  | [.bl k], s, q => obtain ⟨x, rfl, rv⟩ := rvs1 s; cases rv; exact .inl (.inr ⟨k, rfl, pv_here q r .int⟩)
  | [.str z], s, q =>
    obtain ⟨x, rfl, rv⟩ := rvs1 s
    cases rv
    have q : PV1 X.K p h H (if z.length ≤ 640 then (PySem.intText? z).map .int else none) Q := q
    by_cases hz : z.length ≤ 640
    · rw [if_pos hz] at q
      cases e : PySem.intText? z with
      | none => rw [e] at q; exact q.elim
      | some n => rw [e] at q; exact .inr ⟨z, n, rfl, e, hz, pv_here q r .int⟩
    · rw [if_neg hz] at q; exact q.elim
  | [], _, q => exact q.elim
  | v :: w :: l, _, q => cases v <;> exact q.elim
  | [.non], _, q => exact q.elim
  | [.ty _], _, q => exact q.elim
  | [.tup _], _, q => exact q.elim
  | [.lst _], _, q => exact q.elim
  | [.scr _], _, q => exact q.elim
  | [.dct _ _], _, q => exact q.elim
  | [.obj _ _ _], _, q => exact q.elim
  | [.glo _], _, q => exact q.elim
  | [.loc _], _, q => exact q.elim

/-! ### isinstance -/
abbrev Tag := String ⊕ Str
def Tag.v (K : PySem.W.Frag) : Tag → Value
  | .inl n => .type n
  | .inr c => .ref (He.ga K c)
def tagOf (h : Hs) : Val → Option Tag
  | .non => some (.inl "NoneType")
  | .bl _ => some (.inl "bool")
  | .int _ => some (.inl "int")
  | .str _ => some (.inl "str")
  | .tup _ => some (.inl "tuple")
  | .lst _ => some (.inl "list")
  | .scr _ => some (.inl "list")
  | .dct _ _ => some (.inl "dict")
  | .obj c _ _ => some (.inr c)
  | .loc n => (match h[n]? with
    | some (some (.lst _)) => some (.inl "list")
    | some (some (.dct _)) => some (.inl "dict")
    | some (some (.ins c _)) => some (.inr c)
    | _ => none)
  | _ => none
/-- what isinstance asks of an own class -/
structure InsK (K : PySem.W.Frag) (C : Addr) : Prop where
  cl : Cls K C
  ha : PySem.W.findIn K (.ref C) "__class__" = some (some (.builtin "object.__class__"))
  hn : PySem.W.specialIn K (.builtin "object.__class__") "__get__" = some (some (.builtin "getset_descriptor.__get__"))
  htk : PySem.W.takesIn K (.builtin "object.__class__") = some true
  hm : PySem.W.mroIn K C (.type "object") = some true
/-- the table of what isinstance answers where an own class stands; which classes may be asked of -/
structure Kits where
  own : List Str
  kit : List ((Tag × Tag) × Bool)
def Kits.get (T : Kits) (t u : Tag) : Option Bool := match t, u with
  | .inl a, .inl b => kitB a b
  | _, _ => T.kit.lookup (t, u)
structure KitsOk (T : Kits) (K : PySem.W.Frag) : Prop where
  own : ∀ c ∈ T.own, InsK K (He.ga K c)
  kit : ∀ t u b, T.kit.lookup (t, u) = some b → PySem.W.kitOne K (t.v K) (u.v K) = some b
theorem KitsOk.get {T : Kits} {K : PySem.W.Frag} (k : KitsOk T K) {t u : Tag} {b : Bool} (e : T.get t u = some b) : PySem.W.kitOne K (t.v K) (u.v K) = some b := by
  cases t with
  | inl a =>
    cases u with
    | inl c => exact kit_ty e
    | inr c => exact k.kit _ _ _ e
  | inr a => exact k.kit _ _ _ e
def tagsOf (T : Kits) (h : Hs) (v : Val) : Option Tag := match tagOf h v with
  | some (.inr c) => if c ∈ T.own then some (.inr c) else none
  | t => t
theorem tag_ok {T : Kits} {K : PySem.W.Frag} (k : KitsOk T K) {p : Loc} {h : Hs} {H : Hp} {v : Val} {x : V} {t : Tag} (r : RH K p h H) (q : RV K H p (Ow p h) v x) (e : tagsOf T h v = some t) : TyX K H x (t.v K) := by
  have ins : ∀ {c : Str} {a dx : Addr} {fs : List (Str × V)}, H a = some (.ins (He.ga K c) dx fs) → (if c ∈ T.own then some (Sum.inr c : Tag) else none) = some t → TyX K H (.ref a) (t.v K) := fun {c a dx fs} e1 e2 => by
    by_cases hc : c ∈ T.own
    · rw [if_pos hc] at e2
      cases e2
      have i := k.own c hc
      exact .base (.ins e1 i.cl i.ha i.hn i.htk i.hm)
    · rw [if_neg hc] at e2; cases e2
  have ft : ∀ {a : Addr} {xs : List V}, FT K H (Ow p h) a xs → TyX K H (.ref a) (.type "tuple") := fun {a xs} f => by
    rcases f with ⟨f, _⟩ | ⟨o, its, n, f, c, _⟩
    · exact .base (.tup f)
    · exact .kTuple f c
  have fl : ∀ {a : Addr} {xs : List V}, FL K H (Ow p h) a xs → TyX K H (.ref a) (.type "list") := fun {a xs} f => by
    rcases f with ⟨f | ⟨o, f⟩, _⟩ | ⟨o, its, n, f, c, _⟩
    · exact .base (.lst f)
    · exact .base (.frz f)
    · exact .kList f c
  unfold tagsOf at e
  cases q with
  | non => cases e; exact .base .non
  | bl => cases e; exact .base (.bl _)
  | int => cases e; exact .base (.int _)
  | str => cases e; exact .base (.str _)
  | tup f _ => cases e; exact ft f
  | lst f _ _ => cases e; exact .base (.lst f)
  | scr f _ => cases e; exact fl f
  | dct f _ _ _ => cases e; exact .base (.dK f)
  | obj f _ _ _ => exact ins f e
  | ty => cases e
  | glo => cases e
  | @loc n a en =>
    have e : (match (match h[n]? with
      | some (some (.lst _)) => some (Sum.inl "list" : Tag)
      | some (some (.dct _)) => some (.inl "dict")
      | some (some (.ins c _)) => some (.inr c)
      | _ => none) with
      | some (.inr c) => if c ∈ T.own then some (Sum.inr c : Tag) else none
      | t => t) = some t := e
    cases hn : h[n]? with
    | none => rw [hn] at e; cases e
    | some o =>
      cases o with
      | none => rw [hn] at e; cases e
      | some ob =>
        rw [hn] at e
        obtain ⟨b, eb, q⟩ := r.at_ n _ hn
        rw [en] at eb
        cases eb
        cases ob with
        | lst l => cases e; obtain ⟨xs, e1, _⟩ := q; exact .base (.lst e1)
        | dct l => cases e; obtain ⟨xs, e1, _⟩ := q; exact .base (.dK e1)
        | ins c l => obtain ⟨dx, xs, e1, _⟩ := q; exact ins e1 e
def clsTag : Val → Option Tag
  | .ty n => some (.inl n)
  | .glo c => some (.inr c)
  | _ => none
theorem clsTag_ok {K : PySem.W.Frag} {H : Hp} {p : Loc} {ow : Addr → Prop} {v : Val} {x : V} {t : Tag} (q : RV K H p ow v x) (e : clsTag v = some t) : ClsV x (t.v K) := by
  cases q <;> cases e
  · exact .ty _
  · exact .own _
def clsTags : List Val → Option (List Tag)
  | [] => some []
  | v :: l => (match clsTag v, clsTags l with
    | some t, some ts => some (t :: ts)
    | _, _ => none)
theorem clsTags_ok {K : PySem.W.Frag} {H : Hp} {p : Loc} {ow : Addr → Prop} : ∀ {l : List Val} {xs : List V} {ts : List Tag}, RVs K H p ow l xs → clsTags l = some ts → Paired ClsV xs (ts.map (Tag.v K))
  | _, _, _, .nil, e => by cases e; exact .nil
  | v :: l, _, ts, .cons r s, e => by
    have e : (match clsTag v, clsTags l with
      | some t, some ts => some (t :: ts)
      | _, _ => none) = some ts := e
    cases e1 : clsTag v with
    | none => rw [e1] at e; cases e
    | some t =>
      cases e2 : clsTags l with
      | none => rw [e1, e2] at e; cases e
      | some us => rw [e1, e2] at e; cases e; exact .cons (clsTag_ok r e1) (clsTags_ok s e2)
def kitAnyV (T : Kits) (t : Tag) : List Tag → Option Bool
  | [] => some false
  | u :: us => (match T.get t u with
    | some true => some true
    | some false => kitAnyV T t us
    | none => none)
theorem kitAnyV_ok {T : Kits} {K : PySem.W.Frag} (k : KitsOk T K) {t : Tag} : ∀ {us : List Tag} {b : Bool}, kitAnyV T t us = some b → PySem.W.kitAny K (t.v K) (us.map (Tag.v K)) = some b
  | [], b, e => e
  | u :: us, b, e => by
    have e : (match T.get t u with
      | some true => some true
      | some false => kitAnyV T t us
      | none => none) = some b := e
    cases e1 : T.get t u with
    | none => rw [e1] at e; cases e
    | some c =>
      rw [e1] at e
      cases c with
      | true => cases e; exact kitAny_cons (k.get e1) (fun z => nomatch z) fun _ => rfl
      | false => exact kitAny_cons (k.get e1) (fun _ => kitAnyV_ok k e) fun z => nomatch z
def isiV (T : Kits) (h : Hs) : List Val → Option Val
  | [v, .tup l] => (match tagsOf T h v, clsTags l with
    | some t, some us => (kitAnyV T t us).map .bl
    | _, _ => none)
  | [v, c] => (match tagsOf T h v, clsTag c with
    | some t, some u => (T.get t u).map .bl
    | _, _ => none)
  | _ => none
theorem isi_S {X : Cx} {T : Kits} (k : KitsOk T X.K) : CallS X (.builtin "isinstance") (isiV T) := by
  refine callr_imp (CallR.or call_isi (CallR.or call_isiT call_isiK)) ?_
  rintro xs H Q ⟨p, h, vs, r, s, q⟩
  cases s with
  | nil => exact q.elim
  | @cons v x l ys rv s =>
    cases s with
    | nil => exact q.elim
    | @cons c y l ys rc s =>
      cases s with
      | cons _ _ => cases c <;> exact q.elim
      | nil =>
        have one : isiV T h [v, c] = (match tagsOf T h v, clsTag c with
            | some t, some u => (T.get t u).map .bl
            | _, _ => none) → rIsi X.K [x, y] H Q := fun e => by
          rw [e] at q
          cases e1 : tagsOf T h v with
          | none => rw [e1] at q; exact q.elim
          | some t =>
            cases e2 : clsTag c with
            | none => rw [e1, e2] at q; exact q.elim
            | some u =>
              rw [e1, e2] at q
              dsimp only at q
              cases e3 : T.get t u with
              | none => rw [e3] at q; exact q.elim
              | some b => rw [e3] at q; exact ⟨x, y, _, _, b, rfl, clsTag_ok rc e2, tag_ok k r rv e1, k.get e3, pv_here q r .bl⟩
        cases c with
        | tup l =>
          have q : PV1 X.K p h H (match tagsOf T h v, clsTags l with
            | some t, some us => (kitAnyV T t us).map .bl
            | _, _ => none) Q := q
          cases e1 : tagsOf T h v with
          | none => rw [e1] at q; exact q.elim
          | some t =>
            cases e2 : clsTags l with
            | none => rw [e1, e2] at q; exact q.elim
            | some us =>
              rw [e1, e2] at q
              dsimp only at q
              cases e3 : kitAnyV T t us with
              | none => rw [e3] at q; exact q.elim
              | some b =>
                rw [e3] at q
                cases rc with
                | @tup _ a ys f s =>
                  have hc := clsTags_ok (K := X.K) s e2
                  rcases f with ⟨f, _⟩ | ⟨⟨oc, od, odt, osl⟩, its, n, f, c, d, hz, rv2⟩
                  · exact .inr (.inl ⟨x, a, ys, _, _, b, rfl, f, hc, tag_ok k r rv e1, kitAnyV_ok k e3, pv_here q r .bl⟩)
                  · have e5 := ClsV.all hc rv2
                    simp only at c d
                    subst c d
                    have e6 : its = (us.map (Tag.v X.K)).toArray := by rw [← e5]
                    subst e6
                    exact .inr (.inr ⟨x, a, od, us.map (Tag.v X.K), n, osl, _, b, rfl, f, tag_ok k r rv e1, kitAnyV_ok k e3, pv_here q r .bl⟩)
        | _ => exact .inl (one rfl)
end Ev

namespace Ev
open PySem PySem.Spec PyProof.Rows L2

/-! ### methods of built-in kinds -/
/-- the kind of what a method is asked of -/
def tyO (h : Hs) : Val → Option String
  | .str _ => some "str"
  | .lst _ => some "list"
  | .scr _ => some "list"
  | .dct _ _ => some "dict"
  | .loc n => (match h[n]? with
    | some (some (.lst _)) => some "list"
    | some (some (.dct _)) => some "dict"
    | _ => none)
  | _ => none
theorem tyO_ok {K : PySem.W.Frag} {p : Loc} {h : Hs} {H : Hp} {v : Val} {x : V} {t : String} (r : RH K p h H) (q : RV K H p (Ow p h) v x) (e : tyO h v = some t) : tyV K t x H := by
  cases q with
  | str => cases e; exact rfl
  | lst f n s => cases e; exact .inl ⟨rfl, _, .inl (.inl f)⟩
  | scr f s => cases e; exact .inl ⟨rfl, _, f.sq⟩
  | dct f n k s => cases e; exact .inr (.inr (.inl ⟨rfl, .inl ⟨_, f⟩⟩))
  | @loc n a en =>
    unfold tyO at e
    dsimp only at e
    cases hn : h[n]? with
    | none => rw [hn] at e; cases e
    | some ob =>
      rw [hn] at e
      cases ob with
      | none => cases e
      | some ob =>
        obtain ⟨b, eb, q6⟩ := r.at_ n _ hn
        rw [en] at eb
        cases eb
        cases ob with
        | lst l =>
          cases e
          obtain ⟨xs, e1, _⟩ := q6
          exact .inl ⟨rfl, _, .inl (.inl e1)⟩
        | dct l =>
          cases e
          obtain ⟨xs, e1, _⟩ := q6
          exact .inr (.inr (.inl ⟨rfl, .inl ⟨_, e1⟩⟩))
        | ins c l => cases e
  | _ => cases e
abbrev MtF := Val → List Val → M Val
def MtS (X : Cx) (t : String) (m : Str) (g : MtF) : Prop := ∃ id, PlainAttrs t ∧ Slot t m id ∧ typeOf (.builtin id) = pure (.type "method_descriptor") ∧
  MtR X id fun x xs H Q => ∃ p h v vs, RH X.K p h H ∧ RV X.K H p (Ow p h) v x ∧ RVs X.K H p (Ow p h) vs xs ∧ PO X.K (RV X.K) (fun _ _ _ => False) (g v vs h) p h H Q
theorem mtr_imp {X : Cx} {id : String} {r r' : V → List V → Hp → VK → Prop} (m : MtR X id r) (i : ∀ x xs H Q, r' x xs H Q → r x xs H Q) : MtR X id r' := fun pins s σ H x xs v us Q I rx rs q => m pins s σ H x xs v us Q I rx rs (i x xs H Q q)
def strsOf : List Val → Option (List Str)
  | [] => some []
  | .str s :: l => (strsOf l).map (s :: ·)
  | _ => none
theorem strsOf_ok {K : PySem.W.Frag} {H : Hp} {p : Loc} {ow : Addr → Prop} : ∀ {l : List Val} {xs : List V} {ys : List Str}, RVs K H p ow l xs → strsOf l = some ys → xs = ys.map V.str
  | [], _, _, .nil, e => by cases e; rfl
  | v :: l, _, ys, .cons r s, e => by
    cases v with
    | str z =>
      unfold strsOf at e
      cases q : strsOf l with
      | none => rw [q] at e; cases e
      | some zs =>
        rw [q] at e
        cases e
        cases r
        rw [strsOf_ok s q]
        rfl
    | _ => cases e
theorem rvs_strs {K : PySem.W.Frag} {H : Hp} {p : Loc} {ow : Addr → Prop} : ∀ ys : List Str, RVs K H p ow (ys.map Val.str) (ys.map V.str)
  | [] => .nil
  | _ :: ys => .cons .str (rvs_strs ys)
def mSplit : MtF := fun v vs h => match v, vs with
  | .str a, [.str b] => if (b.length == 0) = false ∧ a.length + 2 ≤ sizeLine then .ok (.lst ((Txt.split a b).map Val.str)) h else .bad
  | _, _ => .bad
def mJoin : MtF := fun v vs h => match v, vs with
  | .str a, [w] => (match (seqOf h w).bind strsOf with
    | some ys => if (ys.map (·.length)).sum + ys.length * a.length ≤ 16777216 then .ok (.str (Txt.join a ys)) h else .bad
    | none => .bad)
  | _, _ => .bad
def mAppend : MtF := fun v vs h => match v, vs with
  | .loc n, [w] => (match h[n]? with
    | some (some (.lst l)) => if l.length < sizeLine then .ok .non (h.set n (some (.lst (l ++ [w])))) else .bad
    | _ => .bad)
  | _, _ => .bad
theorem mSplit_ok {X : Cx} : MtS X "str" "split" mSplit := by
  refine ⟨_, F.plainAttrs_str, F.slot_str_split, F.type_str_split, mtr_imp mt_split ?_⟩
  rintro x xs H Q ⟨p, h, v, vs, r, rv, rs, q⟩
  unfold mSplit at q
  cases rv with
  | @str a =>
    match vs, rs, q with
    | [.str b], rs, q =>
      obtain ⟨y, rfl, ry⟩ := rvs1 rs
      cases ry
      dsimp only at q
      by_cases hc : (b.length == 0) = false ∧ a.length + 2 ≤ sizeLine
      · rw [if_pos hc] at q
        refine ⟨a, b, rfl, rfl, hc.1, hc.2, ?_⟩
        exact pv_newL (q : PV1 X.K p h H (some (.lst _)) Q) r (rvs_strs _)
      · rw [if_neg hc] at q; exact q.elim
    | [], _, q => exact q.elim
    | b :: c :: l, _, q => cases b <;> exact q.elim
    | [.non], _, q => exact q.elim
    | [.bl _], _, q => exact q.elim
    | [.int _], _, q => exact q.elim
    | [.ty _], _, q => exact q.elim
    | [.tup _], _, q => exact q.elim
    | [.lst _], _, q => exact q.elim
    | [.scr _], _, q => exact q.elim
    | [.dct _ _], _, q => exact q.elim
    | [.obj _ _ _], _, q => exact q.elim
    | [.glo _], _, q => exact q.elim
    | [.loc _], _, q => exact q.elim
  | _ => exact q.elim
theorem mJoin_ok {X : Cx} : MtS X "str" "join" mJoin := by
  refine ⟨_, F.plainAttrs_str, F.slot_str_join, F.type_str_join, mtr_imp mt_join ?_⟩
  rintro x xs H Q ⟨p, h, v, vs, r, rv, rs, q⟩
  unfold mJoin at q
  cases rv with
  | @str a =>
    match vs, rs, q with
    | [w], rs, q =>
      obtain ⟨y, rfl, ry⟩ := rvs1 rs
      dsimp only at q
      cases e : (seqOf h w).bind strsOf with
      | none => rw [e] at q; exact q.elim
      | some ys =>
        rw [e] at q
        dsimp only at q
        by_cases hc : (ys.map (·.length)).sum + ys.length * a.length ≤ 16777216
        · rw [if_pos hc] at q
          cases e1 : seqOf h w with
          | none => rw [e1] at e; cases e
          | some l =>
            rw [e1] at e
            have e : strsOf l = some ys := e
            obtain ⟨b, xs, rfl, hb, s⟩ := seqOf_ok r ry e1
            have ex := strsOf_ok s e
            subst ex
            exact ⟨a, b, ys, rfl, rfl, hb, hc, q p H _ .refl r .str⟩
        · rw [if_neg hc] at q; exact q.elim
    | [], _, q => exact q.elim
    | _ :: _ :: _, _, q => exact q.elim
  | _ => exact q.elim
theorem mAppend_ok {X : Cx} : MtS X "list" "append" mAppend := by
  refine ⟨_, F.plainAttrs_list, F.slot_list_append, F.type_list_append, mtr_imp mt_append ?_⟩
  rintro x xs H Q ⟨p, h, v, vs, r, rv, rs, q⟩
  unfold mAppend at q
  cases rv with
  | @loc n a en =>
    match vs, rs, q with
    | [w], rs, q =>
      obtain ⟨y, rfl, ry⟩ := rvs1 rs
      dsimp only at q
      cases hn : h[n]? with
      | none => rw [hn] at q; exact q.elim
      | some ob =>
        rw [hn] at q
        cases ob with
        | none => exact q.elim
        | some ob =>
          cases ob with
          | lst l =>
            dsimp only at q
            obtain ⟨b, eb, q6⟩ := r.at_ n _ hn
            rw [en] at eb
            cases eb
            obtain ⟨ys, e1, sx⟩ := q6
            by_cases hc : l.length < sizeLine
            · rw [if_pos hc] at q
              refine ⟨a, ys, y, rfl, rfl, e1, by rw [← sx.length]; exact hc, ?_⟩
              have st := stp_set (o := HO.lst (ys ++ [y])) (u := Ob.lst (l ++ [w])) r hn en
              exact q p _ _ st (rh_set r hn en ⟨_, rfl, (sx.append (.cons ry .nil)).mono st⟩) .non
            · rw [if_neg hc] at q; exact q.elim
          | _ => exact q.elim
    | [], _, q => exact q.elim
    | _ :: _ :: _, _, q => exact q.elim
  | _ => exact q.elim
def mtab (t : String) (m : Str) : Option MtF :=
  if t = "str" ∧ m = "split" then some mSplit else if t = "str" ∧ m = "join" then some mJoin else if t = "list" ∧ m = "append" then some mAppend else none
theorem mtab_ok {X : Cx} {t : String} {m : Str} {g : MtF} (h : mtab t m = some g) : MtS X t m g := by
  unfold mtab at h
  by_cases h1 : t = "str" ∧ m = "split"
  · rw [if_pos h1] at h; cases h; rw [h1.1, h1.2]; exact mSplit_ok
  rw [if_neg h1] at h
  by_cases h1 : t = "str" ∧ m = "join"
  · rw [if_pos h1] at h; cases h; rw [h1.1, h1.2]; exact mJoin_ok
  rw [if_neg h1] at h
  by_cases h1 : t = "list" ∧ m = "append"
  · rw [if_pos h1] at h; cases h; rw [h1.1, h1.2]; exact mAppend_ok
  rw [if_neg h1] at h
  cases h
end Ev

namespace Ev
open PySem PySem.Spec PyProof.Rows L2

/-! ### dict displays -/
def keyO : Val → Option Key
  | .int i => some (.inl i)
  | .str s => some (.inr s)
  | _ => none
def keysOf : List Val → Option (List Key)
  | [] => some []
  | v :: l => (match keyO v, keysOf l with
    | some k, some ks => some (k :: ks)
    | _, _ => none)
theorem keyO_ok {K : PySem.W.Frag} {H : Hp} {p : Loc} {ow : Addr → Prop} {v : Val} {x : V} {k : Key} (r : RV K H p ow v x) (e : keyO v = some k) : x = kV k := by
  cases r <;> cases e <;> rfl
theorem keysOf_ok {K : PySem.W.Frag} {H : Hp} {p : Loc} {ow : Addr → Prop} : ∀ {l : List Val} {xs : List V} {ks : List Key}, RVs K H p ow l xs → keysOf l = some ks → xs = ks.map kV
  | [], _, _, .nil, e => by cases e; rfl
  | v :: l, _, ks, .cons r s, e => by
    unfold keysOf at e
    cases q : keyO v with
    | none => rw [q] at e; cases e
    | some k =>
      cases q2 : keysOf l with
      | none => rw [q, q2] at e; cases e
      | some ks' =>
        rw [q, q2] at e
        cases e
        rw [keyO_ok r q, keysOf_ok s q2]
        rfl
abbrev PrM := (Rho → M Val) × (Rho → M Val)
def pairsM : List PrM → Rho → M (List (Val × Val))
  | [], _ => pure []
  | m :: ms, ρ => do let k ← m.1 ρ; let v ← m.2 ρ; let r ← pairsM ms ρ; pure ((k, v) :: r)
def dctOf (ps : List (Val × Val)) : Option Val := match keysOf (ps.map (·.1)) with
  | some ks => if ks.Nodup ∧ ks.length ≤ 15 then some (.dct ks (ps.map (·.2))) else none
  | none => none
def dispM (ms : List PrM) (ρ : Rho) : M Val := do let ps ← pairsM ms ρ; liftO (dctOf ps)
section
variable {K : PySem.W.Frag} {W : WX}
theorem RS.monq {p p' : Loc} {h h' : Hs} {H H' : Hp} {ρ : Rho} {σ : L2.St} (r : RS K p h H ρ σ) (k : Kq H p (Ow p h) H' p' (Ow p' h')) (r' : RH K p' h' H') : RS K p' h' H' ρ σ :=
  ⟨r', r.len, fun i v e => let ⟨x, e1, q⟩ := r.at_ i v e; ⟨x, e1, q.monq k⟩⟩
theorem rx_show {p : Loc} {h : Hs} {H : Hp} {D : Addr} {e : Exc} {c : Value} {d : Option Addr} (x : RX K H (p.hide D) (Ow (p.hide D) h) e c d) : RX K H p (Ow p h) e c d := by
  refine ⟨x.1, ?_⟩
  have x2 := x.2
  cases d with
  | none => exact x2
  | some dx =>
    obtain ⟨xs, e1, n, r⟩ := x2
    exact ⟨xs, e1, fun q => n (ow_hide.mpr (.inl q)), r.monq kq_show⟩
theorem tPairs_of {p0 : Loc} {h0 : Hs} {H0 : Hp} {D : Addr} {σ : L2.St} {ρ : Rho} (nD : H0 D = none) : ∀ {ms : List PrM} {p : Loc} {h : Hs} {H : Hp} {Q : List (V × V) → Hp → Prop}, RS K (p.hide D) h H ρ σ → Stp p0 h0 H0 p h H → H D = some (.dK []) →
    (match pairsM ms ρ h with
      | .ok ps h' => ∀ p' H' xs, Stp p0 h0 H0 p' h' H' → Stp (p.hide D) h H (p'.hide D) h' H' → RH K (p'.hide D) h' H' → H' D = some (.dK []) → RVs K H' (p'.hide D) (Ow (p'.hide D) h') (ps.map (·.1)) (xs.map (·.1)) → RVs K H' (p'.hide D) (Ow (p'.hide D) h') (ps.map (·.2)) (xs.map (·.2)) → Q xs H'
      | .exc e h' => ∀ p' H' c d, Stp p0 h0 H0 p' h' H' → RH K p' h' H' → RX K H' p' (Ow p' h') e c d → W c d σ H'
      | .bad => False) →
    tPairs (ms.map fun m => (tE K W m.1, tE K W m.2)) σ H Q
  | [], p, h, H, Q, rs, st, hD, q => q p H [] st .refl rs.rh hD .nil .nil
  | m :: ms, p, h, H, Q, rs, st, hD, q => by
    have zp : p.z = p0.z := st.zz
    refine ⟨p.hide D, ρ, h, rs, ?_⟩
    have q : (match (m.1 ρ >>= fun k => m.2 ρ >>= fun v => pairsM ms ρ >>= fun r => pure ((k, v) :: r)) h with
      | .ok ps h' => ∀ p' H' xs, Stp p0 h0 H0 p' h' H' → Stp (p.hide D) h H (p'.hide D) h' H' → RH K (p'.hide D) h' H' → H' D = some (.dK []) → RVs K H' (p'.hide D) (Ow (p'.hide D) h') (ps.map (·.1)) (xs.map (·.1)) → RVs K H' (p'.hide D) (Ow (p'.hide D) h') (ps.map (·.2)) (xs.map (·.2)) → Q xs H'
      | .exc e h' => ∀ p' H' c d, Stp p0 h0 H0 p' h' H' → RH K p' h' H' → RX K H' p' (Ow p' h') e c d → W c d σ H'
      | .bad => False) := q
    cases e1 : m.1 ρ h with
    | bad =>
      have : (m.1 ρ >>= fun k => m.2 ρ >>= fun v => pairsM ms ρ >>= fun r => pure ((k, v) :: r)) h = .bad := by
        show M.bind _ _ h = _
        unfold M.bind
        rw [e1]
      rw [this] at q
      exact q.elim
    | exc x h1 =>
      rw [bind_exc e1] at q
      intro P1 H1 c d s1 r1 x1
      obtain ⟨p1, rfl, z1⟩ := hid_of s1
      exact q p1 H1 c d (stp_thru nD st s1 z1) (rh_show r1) (rx_show x1)
    | ok k h1 =>
    rw [bind_ok e1] at q
    intro P1 H1 x s1 r1 v1
    obtain ⟨p1, rfl, z1⟩ := hid_of s1
    have st1 := stp_thru nD st s1 z1
    have rs1 := rs.stp s1 r1
    have hD1 : H1 D = some (.dK []) := (s1.hid D (.inr rfl)).trans hD
    refine ⟨p1.hide D, ρ, h1, rs1, ?_⟩
    cases e2 : m.2 ρ h1 with
    | bad =>
      have : (m.2 ρ >>= fun v => pairsM ms ρ >>= fun r => pure ((k, v) :: r)) h1 = .bad := by
        show M.bind _ _ h1 = _
        unfold M.bind
        rw [e2]
      rw [this] at q
      exact q.elim
    | exc x h2 =>
      rw [bind_exc e2] at q
      intro P2 H2 c d s2 r2 x2
      obtain ⟨p2, rfl, z2⟩ := hid_of s2
      exact q p2 H2 c d (stp_thru nD st1 s2 z2) (rh_show r2) (rx_show x2)
    | ok v h2 =>
    rw [bind_ok e2] at q
    intro P2 H2 y s2 r2 v2
    obtain ⟨p2, rfl, z2⟩ := hid_of s2
    have st2 := stp_thru nD st1 s2 z2
    have rs2 := rs1.stp s2 r2
    have hD2 : H2 D = some (.dK []) := (s2.hid D (.inr rfl)).trans hD1
    refine tPairs_of nD rs2 st2 hD2 ?_
    cases e3 : pairsM ms ρ h2 with
    | bad =>
      have : (pairsM ms ρ >>= fun r => pure ((k, v) :: r)) h2 = .bad := by
        show M.bind _ _ h2 = _
        unfold M.bind
        rw [e3]
      rw [this] at q
      exact q.elim
    | exc x h3 => rw [bind_exc e3] at q; exact q
    | ok ps h3 =>
    rw [bind_ok e3] at q
    intro p3 H3 xs s3 s23 r3 hD3 ra rb
    exact q p3 H3 ((x, y) :: xs) s3 ((s1.trans s2).trans s23) r3 hD3 (.cons ((v1.mono s2).mono s23) ra) (.cons (v2.mono s23) rb)
theorem mergeK_nodup : ∀ {more acc : List (Key × V)}, ((acc ++ more).map (·.1)).Nodup → mergeK acc more = acc ++ more
  | [], acc, _ => (List.append_nil _).symm
  | kv :: more, acc, hn => by
    have hk : (acc.any fun z => decide (z.1 = kv.1)) = false := by
      rw [List.any_eq_false]
      intro z hz hd
      rw [List.map_append, List.nodup_append] at hn
      exact hn.2.2 _ (List.mem_map_of_mem hz) _ (List.mem_cons_self) (of_decide_eq_true hd)
    have e : putK acc kv.1 kv.2 = acc ++ [kv] := by
      unfold putK
      rw [hk]
      rfl
    show mergeK (putK acc kv.1 kv.2) more = _
    rw [e, mergeK_nodup (by rw [List.append_assoc]; exact hn), List.append_assoc]
    rfl
theorem zip_pairs : ∀ {xs : List (V × V)} {ks : List Key}, xs.map (·.1) = ks.map kV → xs = (ks.zip (xs.map (·.2))).map (fun kv => (kV kv.1, kv.2)) ∧ (ks.zip (xs.map (·.2))).map (·.1) = ks ∧ (ks.zip (xs.map (·.2))).map (·.2) = xs.map (·.2)
  | [], [], _ => ⟨rfl, rfl, rfl⟩
  | [], _ :: _, e => by cases e
  | _ :: _, [], e => by cases e
  | (a, b) :: xs, k :: ks, e => by
    rw [List.map_cons, List.map_cons] at e
    injection e with e1 e2
    obtain ⟨h1, h2, h3⟩ := zip_pairs e2
    have e1 : a = kV k := e1
    refine ⟨?_, ?_, ?_⟩
    · rw [e1]
      exact congrArg (List.cons (kV k, b)) h1
    · exact congrArg (List.cons k) h2
    · exact congrArg (List.cons b) h3
end
section
variable {X : Cx} {W : WX}
theorem pe_dispS {keys : List (Option Expr)} {values : List Expr} {ms : List PrM} {pos : Pos} (h : PPs X pos keys values (ms.map fun m => (tE X.K W m.1, tE X.K W m.2))) (hall : keys.all (·.isSome) = true) (hl : keys.length = values.length) (h0 : keys ≠ [])
    (h15 : keys.length ≤ 15) : PE X (.Dict keys values pos) (tE X.K W fun ρ => dispM ms ρ) := by
  refine pe_imp (pe_disp h hall hl h0 h15) fun σ H Q ⟨p, ρ, h1, rs, q⟩ => ?_
  intro D hD
  have nz : ¬ p.z D := fun z => rs.rh.zne hD z rfl
  refine tPairs_of (p0 := p) (h0 := h1) (H0 := H) hD (p := p) (h := h1) (H := upd H D (.dK [])) (rs.monq (kq_hide hD) (rh_hide rs.rh hD)) (stp_new rs.rh hD) upd_same ?_
  have q : PO X.K (RV X.K) (fun c d H' => W c d σ H') ((pairsM ms ρ >>= fun ps => liftO (dctOf ps)) h1) p h1 H Q := q
  cases e : pairsM ms ρ h1 with
  | bad =>
    have : (pairsM ms ρ >>= fun ps => liftO (dctOf ps)) h1 = .bad := by
      show M.bind _ _ h1 = _
      unfold M.bind
      rw [e]
    rw [this] at q
    exact q.elim
  | exc x h2 => rw [bind_exc e] at q; exact q
  | ok ps h2 =>
  rw [bind_ok e] at q
  intro p2 H2 xs s2 s12 r2 hD2 ra rb
  unfold dctOf at q
  cases ek : keysOf (ps.map (·.1)) with
  | none => rw [ek] at q; exact q.elim
  | some ks =>
  rw [ek] at q
  dsimp only at q
  by_cases hc : ks.Nodup ∧ ks.length ≤ 15
  rotate_left
  · rw [if_neg hc] at q; exact q.elim
  rw [if_pos hc] at q
  have ex := keysOf_ok ra ek
  obtain ⟨z1, z2, z3⟩ := zip_pairs ex
  have hm : mergeK [] (ks.zip (xs.map (·.2))) = ks.zip (xs.map (·.2)) := mergeK_nodup (by rw [List.nil_append, z2]; exact hc.1)
  refine ⟨hD2, ks.zip (xs.map (·.2)), z1, ?_, ?_⟩
  · have : ((ks.zip (xs.map (·.2))).map (·.1)).length = ks.length := by rw [z2]
    rw [List.length_map] at this
    omega
  rw [hm]
  have nz2 : ¬ p2.z D := by rw [s2.zz]; exact nz
  have st := stp_updD (o := HO.dK (ks.zip (xs.map (·.2)))) hD nz s2
  have r3 : RH X.K (p2.hide D) h2 (upd H2 D (.dK (ks.zip (xs.map (·.2))))) := rh_hid r2 (.inr rfl)
  refine q p2 _ _ st (rh_show r3) (.dct upd_same (show_not r3 nz2) z2 ?_)
  rw [z3]
  exact (rb.monq (kq_hid (p := p2.hide D) (show (p2.hide D).z D from .inr rfl))).monq kq_show
theorem pe_dnewS {pos : Pos} : PE X (.Dict [] [] pos) (tE X.K W fun _ => pure (.dct [] [])) := by
  refine pe_imp pe_dnewK fun σ H Q ⟨p, ρ, h, rs, q⟩ => ?_
  intro D hD
  have n : ¬ Ow p h D := fun o => by
    rcases o with ⟨k, o, e1, e2⟩ | z
    · obtain ⟨b, e3, r⟩ := rs.rh.at_ k o e1
      rw [e2] at e3
      cases e3
      obtain ⟨u, eu⟩ := r.some
      rw [hD] at eu
      cases eu
    · exact rs.rh.zne hD z rfl
  exact q p _ (.ref D) (stp_new rs.rh hD) (rh_new rs.rh hD) (.dct upd_same n rfl .nil)
theorem pe_dnewM {pos : Pos} : PE X (.Dict [] [] pos) (tE X.K W fun _ h => .ok (.loc h.length) (h ++ [some (.dct [])])) := by
  refine pe_imp pe_dnewK fun σ H Q ⟨p, ρ, h, rs, q⟩ => ?_
  intro D hD
  have s := stp_push (o := HO.dK []) (u := Ob.dct []) rs.rh hD
  refine q _ _ (.ref D) s (rh_push rs.rh hD ⟨[], rfl, .nil⟩) (.loc ?_)
  show (p.l ++ [D])[h.length]? = some D
  rw [← rs.rh.len, List.getElem?_append_right (Nat.le_refl _), Nat.sub_self]
  rfl
end
end Ev

namespace Ev
open PySem PySem.Spec PyProof.Rows L2

/-! ### the text's table -/
structure Sx where
  N : List Str
  sc : Scope
  own : Scope
structure DefI where
  key : Str × Option Str
  ps : List Str
  N : List Str
  dfl : List Val
  sc : Scope
  body : List Stmt
structure Tb where
  glob : List (Str × Val)
  free : List Str
  kits : Kits
  defs : List DefI
  mu : List (Nat × Nat)
def Tb.mut (T : Tb) (pos : Pos) : Bool := T.mu.contains (pos.line, pos.col)
def findD : List DefI → (Str × Option Str) → Option DefI
  | [], _ => none
  | d :: r, k => if d.key = k then some d else findD r k
theorem findD_ok : ∀ {l : List DefI} {k : Str × Option Str} {d : DefI}, findD l k = some d → d ∈ l ∧ d.key = k
  | [], _, _, e => by cases e
  | d :: r, k, d', e => by
    unfold findD at e
    by_cases h : d.key = k
    · rw [if_pos h] at e; cases e; exact ⟨List.mem_cons_self, h⟩
    · rw [if_neg h] at e; obtain ⟨h1, h2⟩ := findD_ok e; exact ⟨List.mem_cons_of_mem _ h1, h2⟩
abbrev Cl := (Str × Option Str) → List Val → M Val

/-- one level of the small machine, over what the levels below do -/
structure Evs where
  e : Sx → Expr → Rho → M Val
  t : Sx → Expr → Rho → M Bool
  x : Sx → List Stmt → Rho → M Fl
def Evs.bad : Evs := ⟨fun _ _ _ => M.bad, fun _ _ _ => M.bad, fun _ _ _ => M.bad⟩

def okName (x : Str) : Bool := !(x == ("__debug__" : Str)) && !(x == ("__classdict__" : Str)) && !(x == ("__name__" : Str))
def bltTy (x : Str) : Option String :=
  if x = "int" then some "int" else if x = "str" then some "str" else if x = "bool" then some "bool" else if x = "tuple" then some "tuple" else if x = "list" then some "list"
  else if x = "dict" then some "dict" else if x = "ValueError" then some "ValueError" else none
def slotE (S : Sx) (x : Str) (ρ : Rho) : M Val := fun h => match slotOf S.N x with
  | some i => (match ρ[i]? with
    | some (some v) => .ok v h
    | _ => .bad)
  | none => .bad
def nameE (T : Tb) (S : Sx) (x : Str) (ρ : Rho) : M Val := if okName x = true then (match S.sc.names.lookup x with
  | some .local => slotE S x ρ
  | some .cell => slotE S x ρ
  | some .free => slotE S x ρ
  | some .globalImplicit => (match T.glob.lookup x with
    | some v => pure v
    | none => if T.free.contains x = true then liftO ((bltTy x).map .ty) else M.bad)
  | _ => M.bad) else M.bad
def evL (r : Evs) (S : Sx) : List Expr → Rho → M (List Val)
  | [], _ => pure []
  | e :: es, ρ => do let v ← r.e S e ρ; let vs ← evL r S es ρ; pure (v :: vs)
def bltF (T : Kits) (x : Str) : Option (Hs → List Val → Option Val) :=
  if x = "len" then some lenV else if x = "abs" then some absV1 else if x = "sum" then some (list1 fun l => (intsOf l).map fun ns => .int ns.sum)
  else if x = "all" then some (list1 fun l => (boolsOf l).map fun ns => .bl (ns.all id)) else if x = "any" then some (list1 fun l => (boolsOf l).map fun ns => .bl (ns.any id))
  else if x = "isinstance" then some (isiV T) else none
def bltC (x : Str) : Option (Hs → List Val → Option Val) := if x = "int" then some int1 else none
def callD (cl : Cl) (d : DefI) (vs : List Val) : M Val := if vs.length ≤ d.ps.length ∧ d.ps.length ≤ vs.length + d.dfl.length then cl d.key (vs ++ d.dfl.drop (d.dfl.length - (d.ps.length - vs.length))) else M.bad
def callE (T : Tb) (cl : Cl) (r : Evs) (S : Sx) (f : Expr) (args : List Expr) (ρ : Rho) : M Val := match f with
  | .Name x _ => if okName x = true ∧ S.sc.names.lookup x = some .globalImplicit ∧ args.all notStar = true then (match findD T.defs (x, none) with
    | some d => do let vs ← evL r S args ρ; callD cl d vs
    | none => if T.free.contains x = true then (match args with
      | [] => M.bad
      | _ :: _ => (match bltF T.kits x with
        | some g => do let vs ← evL r S args ρ; fun h => liftO (g h vs) h
        | none => (match bltC x with
          | some g => do let vs ← evL r S args ρ; fun h => liftO (g h vs) h
          | none => M.bad))) else M.bad) else M.bad
  | _ => M.bad
/-- o.m(..) -/
def baseOk : Expr → Bool
  | .Call (.Name _ _) [] [] _ => false
  | _ => true
def methE (T : Tb) (cl : Cl) (r : Evs) (S : Sx) (o : Expr) (m : Str) (args : List Expr) (ρ : Rho) : M Val := do
  let x ← r.e S o ρ
  fun h => match tyO h x with
    | some t => (match mtab t m with
      | some g => (do let vs ← evL r S args ρ; noX (g x vs) : M Val) h
      | none => .bad)
    | none => .bad
def prE (r : Evs) (S : Sx) : List (Option Expr) → List Expr → List PrM
  | some k :: ks, v :: vs => (r.e S k, r.e S v) :: prE r S ks vs
  | _, _ => []
def dictE (T : Tb) (r : Evs) (S : Sx) (keys : List (Option Expr)) (values : List Expr) (pos : Pos) (ρ : Rho) : M Val := match keys, values with
  | [], [] => if T.mut pos = true then (fun h => .ok (.loc h.length) (h ++ [some (.dct [])])) else pure (.dct [] [])
  | k :: ks, vs => if ((k :: ks).all (·.isSome) && (decide ((k :: ks).length = vs.length) && decide ((k :: ks).length ≤ 15))) = true then dispM (prE r S (k :: ks) vs) ρ else M.bad
  | _, _ => M.bad
def plainIx : Expr → Bool
  | .Slice _ _ _ _ => false
  | _ => true
/-- targets: names, tuples of names -/
def stok (S : Sx) (x : Str) : Bool := match S.own.names.lookup x with
  | some .local => true
  | some .cell => true
  | _ => false
def tgtS (S : Sx) : List Expr → Option (List Nat × TgsF)
  | [] => some ([], tgNil)
  | .Name x _ :: r => if stok S x = true then (match slotOf S.N x, tgtS S r with
    | some i, some (sl, g) => some ([i] ++ sl, tgCons (tgName i) g)
    | _, _ => none) else none
  | _ => none
def tgt (S : Sx) : Expr → Option (List Nat × TgF)
  | .Name x _ => if stok S x = true then (slotOf S.N x).map fun i => ([i], tgName i) else none
  | .Tuple es _ _ => (tgtS S es).map fun g => (g.1, tgTup es.length g.2)
  | _ => none
/-- what is walked -/
def iterE (T : Tb) (r : Evs) (S : Sx) (it : Expr) (ρ : Rho) : M (List Val) := match it with
  | .Call (.Name x _) args [] _ => if x = "range" ∧ S.sc.names.lookup x = some .globalImplicit ∧ T.free.contains x = true then (match args with
    | [a] => if notStar a = true then (do let vs ← evL r S [a] ρ; liftO (match vs with | [_] => rngV vs | _ => none)) else M.bad
    | [a, b] => if (notStar a && notStar b) = true then (do let vs ← evL r S [a, b] ρ; liftO (match vs with | [_, _] => rngV vs | _ => none)) else M.bad
    | _ => M.bad) else (do let v ← r.e S it ρ; liftO (walkOf v))
  | _ => do let v ← r.e S it ρ; liftO (walkOf v)
def notSet : Expr → Bool
  | .Set _ _ _ => false
  | _ => true
/-- the slots of a block's own names -/
def ownOf (N : List Str) (sc : Scope) : List (Str × Nat) := sc.names.filterMap fun y => match y.2 with
  | .local => (slotOf N y.1).map fun i => (y.1, i)
  | .cell => (slotOf N y.1).map fun i => (y.1, i)
  | _ => none
def blkS (S : Sx) (sc : Scope) : Sx := ⟨S.N, relS sc S.sc, sc⟩
def ifsT (r : Evs) (S : Sx) (ifs : List Expr) (ρ : Rho) : M Bool := match ifs with
  | [] => pure true
  | [c] => r.t S c ρ
  | _ => M.bad
def lcE (T : Tb) (r : Evs) (S : Sx) (elt tg iter : Expr) (ifs : List Expr) (sc : Scope) (ρ : Rho) : M Val :=
  if (blkC S.N S.sc sc (ownOf S.N sc) && notSet iter) = true then (match tgt (blkS S sc) tg with
    | some (sl, f) => if (sl.all fun i => (ownOf S.N sc).any fun q => q.2 == i) = true then
        (do let l ← iterE T r S iter ρ; lcM f (ifsT r (blkS S sc) ifs) (r.e (blkS S sc) elt) (wipeR ρ ((ownOf S.N sc).map (·.2))) l) else M.bad
    | none => M.bad) else M.bad
def chain1 (r : Evs) (S : Sx) (a : Expr) (op op' : CmpOp) (b c : Expr) (ρ : Rho) : M Val := do
  let x ← r.e S a ρ
  let y ← r.e S b ρ
  let k ← (fun h => liftO (cmpV op h x y) h : M Val)
  match k with
  | .bl true => do let z ← r.e S c ρ; fun h => liftO (cmpV op' h y z) h
  | .bl false => pure (.bl false)
  | _ => M.bad
def partE (r : Evs) (S : Sx) : Option Expr → Option (Rho → M Val)
  | none => none
  | some e => some (r.e S e)
def boolE (r : Evs) (S : Sx) (op : BoolOp) : List Expr → Rho → M Val
  | [], _ => M.bad
  | [a], ρ => r.e S a ρ
  | a :: b :: l, ρ => do
    let v ← r.e S a ρ
    let k ← (fun h => liftB (truV h v) h : M Bool)
    match op, k with
    | .And, true => boolE r S op (b :: l) ρ
    | .And, false => pure v
    | .Or, true => pure v
    | .Or, false => boolE r S op (b :: l) ρ
def stepE (T : Tb) (cl : Cl) (r : Evs) (S : Sx) (x : Expr) (ρ : Rho) : M Val := match x with
  | .Constant .none _ _ => pure .non
  | .Constant (.bool b) _ _ => pure (.bl b)
  | .Constant (.int i) _ _ => pure (.int i)
  | .Constant (.str s) _ _ => pure (.str s)
  | .Name x _ => nameE T S x ρ
  | .BinOp a op b _ => (match binV op with
    | some g => do let x ← r.e S a ρ; let y ← r.e S b ρ; fun h => liftO (g h x y) h
    | none => M.bad)
  | .UnaryOp .Not a _ => do let v ← r.e S a ρ; let k ← (fun h => liftB (truV h v) h : M Bool); pure (.bl (!k))
  | .UnaryOp .USub a _ => do let v ← r.e S a ρ; liftO (match v with | .int i => some (.int (-i)) | _ => none)
  | .BoolOp op es _ => boolE r S op es ρ
  | .Compare a [op] [b] _ => if notSet b = true then (do let x ← r.e S a ρ; let y ← r.e S b ρ; fun h => liftO (cmpV op h x y) h) else M.bad
  | .Compare a [op, op'] [b, c] _ => if (notSet b && notSet c) = true then chain1 r S a op op' b c ρ else M.bad
  | .IfExp c a b _ => do let k ← r.t S c ρ; if k = true then r.e S a ρ else r.e S b ρ
  | .List es pos => if es.all notStar = true then (do let vs ← evL r S es ρ; if T.mut pos = true then allocL vs else liftO (if vs.length ≤ sizeLine then some (.lst vs) else none)) else M.bad
  | .Tuple es _ _ => if es.all notStar = true then (do let vs ← evL r S es ρ; liftO (if vs.length ≤ sizeLine then some (.tup vs) else none)) else M.bad
  | .ListComp elt [⟨tg, iter, ifs, 0⟩] sc _ => lcE T r S elt tg iter ifs sc ρ
  | .Subscript a (.Slice lo hi none _) _ => do let x ← r.e S a ρ; let l ← partM (partE r S lo) ρ; let u ← partM (partE r S hi) ρ; fun h => liftO (slV h x l u) h
  | .Subscript a b _ => if plainIx b = true then (do let x ← r.e S a ρ; let y ← r.e S b ρ; fun h => liftO (ixV h x y) h) else M.bad
  | .Call (.Attribute o m apos) args [] pos => if ((apos.endLine == pos.line) && (baseOk o && (args.all notStar && decide (args.length < 30)))) = true then methE T cl r S o m args ρ else M.bad
  | .Call f args [] _ => callE T cl r S f args ρ
  | .Dict keys values pos => dictE T r S keys values pos ρ
  | _ => M.bad
/-- tests -/
def boolT (r : Evs) (S : Sx) (op : BoolOp) : List Expr → Rho → M Bool
  | [], _ => M.bad
  | [a], ρ => r.t S a ρ
  | a :: b :: l, ρ => do
    let k ← r.t S a ρ
    match op, k with
    | .And, true => boolT r S op (b :: l) ρ
    | .And, false => pure false
    | .Or, true => pure true
    | .Or, false => boolT r S op (b :: l) ρ
def toB (m : M Val) : M Bool := do let v ← m; (match v with | .bl b => pure b | _ => M.bad)
def plainT : Expr → Bool
  | .UnaryOp .Not _ _ => false
  | .BoolOp _ _ _ => false
  | .IfExp _ _ _ _ => false
  | .Compare _ _ _ _ => false
  | _ => true
def stepT (T : Tb) (cl : Cl) (r : Evs) (S : Sx) (x : Expr) (ρ : Rho) : M Bool := match x with
  | .UnaryOp .Not a _ => do let k ← r.t S a ρ; pure (!k)
  | .BoolOp op es _ => boolT r S op es ρ
  | .Compare a [op] [b] _ => if notSet b = true then toB (do let x ← r.e S a ρ; let y ← r.e S b ρ; fun h => liftO (cmpV op h x y) h) else M.bad
  | .Compare a [op, op'] [b, c] _ => if (notSet b && notSet c) = true then toB (chain1 r S a op op' b c ρ) else M.bad
  | x => if plainT x = true then (do let v ← stepE T cl r S x ρ; fun h => liftB (truV h v) h) else M.bad
/-! ### statements -/
def notComp : Expr → Bool
  | .ListComp _ _ _ _ => false
  | .SetComp _ _ _ _ => false
  | .DictComp _ _ _ _ _ => false
  | _ => true
def notTup : Expr → Bool
  | .Tuple _ _ _ => false
  | .List _ _ => false
  | _ => true
/-- a list's place set -/
def setIx (a i v : Val) : M Unit := fun h => match a, i with
  | .loc n, .int k => (match h[n]? with
    | some (some (.lst l)) => (match ixN l.length k with
      | some j => .ok () (h.set n (some (.lst (l.set j v))))
      | none => .bad)
    | _ => .bad)
  | _, _ => .bad
def augV (op : Operator) : Option (Hs → Val → Val → Option Val) := match op with
  | .Add => some (intV (fun _ _ => true) fun i j => i + j)
  | .Sub => some (intV (fun _ _ => true) fun i j => i - j)
  | _ => none
def asgE (T : Tb) (cl : Cl) (r : Evs) (S : Sx) (t e : Expr) (ρ : Rho) : M Fl := match t with
  | .Name x _ => if stok S x = true then (match slotOf S.N x with
    | some i => withE (if notComp e = true then r.e S e ρ else stepE T cl r S e ρ) ρ fun v => pure (.next (ρ.set i (some v)))
    | none => M.bad) else M.bad
  | .Tuple ts k p => if notTup e = true then (match tgt S (.Tuple ts k p) with
    | some (_, f) => withE (r.e S e ρ) ρ fun v h => (match f h v ρ with
      | some ρ' => .ok (.next ρ') h
      | none => .bad)
    | none => M.bad) else M.bad
  | .Subscript o i _ => if plainIx i = true then withE (do let v ← r.e S e ρ; let a ← r.e S o ρ; let k ← r.e S i ρ; setIx a k v) ρ fun _ => pure (.next ρ) else M.bad
  | _ => M.bad
def isDoc : Expr → Bool
  | .Constant (.str _) _ _ => true
  | _ => false
def step1 (T : Tb) (cl : Cl) (r : Evs) (S : Sx) (st : Stmt) (ρ : Rho) : M Fl := match st with
  | .Expr e _ => if isDoc e = true then pure (.next ρ) else if notComp e = true then withE (r.e S e ρ) ρ (fun _ => pure (.next ρ)) else M.bad
  | .Return (some e) _ => withE (r.e S e ρ) ρ fun v => pure (.ret v)
  | .Return none _ => pure (.ret .non)
  | .Pass _ => pure (.next ρ)
  | .Break _ => pure (.brk ρ)
  | .Continue _ => pure (.cont ρ)
  | .If c a b _ => withE (r.t S c ρ) ρ fun k => if k = true then r.x S a ρ else r.x S b ρ
  | .For tg iter body [] _ => if notSet iter = true then (match tgt S tg with
    | some (_, f) => withE (iterE T r S iter ρ) ρ fun l => forL f (r.x S body) l ρ
    | none => M.bad) else M.bad
  | .While c body [] _ => whileL (r.t S c) (r.x S body) 1000000 ρ
  | .Assign [t] e _ => asgE T cl r S t e ρ
  | .AugAssign (.Name x _) op e _ => if (stok S x && okName x) = true then (match augV op with
    | some g => withE (do let v ← slotE S x ρ; let w ← r.e S e ρ; fun h => liftO (g h v w) h) ρ fun v h => (match slotOf S.N x with
      | some i => .ok (.next (ρ.set i (some v))) h
      | none => .bad)
    | none => M.bad) else M.bad
  | _ => M.bad
def stepX (T : Tb) (cl : Cl) (r : Evs) (S : Sx) : List Stmt → Rho → M Fl
  | [], ρ => pure (.next ρ)
  | st :: rest, ρ => andThen (step1 T cl r S st ρ) (stepX T cl r S rest)
def stepEv (T : Tb) (cl : Cl) (r : Evs) : Evs := ⟨stepE T cl r, stepT T cl r, stepX T cl r⟩
def evN (T : Tb) (cl : Cl) : Nat → Evs
  | 0 => Evs.bad
  | n + 1 => stepEv T cl (evN T cl n)
/-- a def's body run -/
def endF (m : M Fl) : M Val := fun h => match m h with
  | .ok (.ret v) h' => .ok v h'
  | .ok (.next _) h' => .ok .non h'
  | .ok (.rse e _) h' => .exc e h'
  | _ => .bad
def startR (N : List Str) (vs : List Val) : Rho := vs.map some ++ List.replicate (N.length - vs.length) none
def runD (T : Tb) (cl : Cl) (d : DefI) (vs : List Val) : M Val := if vs.length = d.ps.length then endF ((evN T cl 60).x ⟨d.N, d.sc, d.sc⟩ d.body (startR d.N vs)) else M.bad
def callN (T : Tb) : Nat → Cl
  | 0 => fun _ _ => M.bad
  | k + 1 => fun key vs => match findD T.defs key with
    | some d => runD T (callN T k) d vs
    | none => M.bad
end Ev

namespace Ev
open PySem PySem.Spec PyProof.Rows L2

/-! ### what the table's defs promise -/
def spOf (K : PySem.W.Frag) (n : Nat) (g : List Val → M Val) : Sp := fun vs H Q E => vs.length = n ∧ ∃ p h args, RH K p h H ∧ RVs K H p (Ow p h) args vs ∧ PO K (RV K) E (g args h) p h H Q
structure DOk (P : Program) (w : World) (K : PySem.W.Frag) (mg : Str → Option Value) (base : Heap) (k : Nat) (cl : Cl) (d : DefI) : Prop where
  fn : ∃ fd, FnOk P w K mg base (L2.CX P w) k (He.fAd K d.key) fd d.ps (spOf K d.ps.length (cl d.key)) ∧
    ∀ j, j ≤ d.dfl.length → ∃ dvs ds, (∀ H p ow, RVs K H p ow (d.dfl.drop (d.dfl.length - j)) dvs) ∧ Vals dvs ds ∧ Binds K fd d.ps ds
  kp : PySem.W.keepIn K (.ref (He.fAd K d.key)) = true
  mg_ : d.key.2 = none → mg d.key.1 = some (.ref (He.fAd K d.key))
structure TOk (T : Tb) (P : Program) (w : World) (K : PySem.W.Frag) (mg : Str → Option Value) : Prop where
  glob : ∀ x v, T.glob.lookup x = some v → ∃ xv u, mg x = some u ∧ RelV xv u ∧ ∀ H p ow, RV K H p ow v xv
  free : ∀ x, T.free.contains x = true → mg x = none
  kits : KitsOk T.kits K
structure Good (T : Tb) (cl : Cl) (X : Cx) (S : Sx) (W : WX) : Prop where
  N : X.N = S.N
  nd : X.N.Nodup
  sc : X.env.scope = S.sc
  st : ∀ x, stok S x = true → L2.Loc X.env.scope x ∧ (X.fn x = true ∨ X.env.scope.names.lookup x = some .local)
  calm : X.calm = true
  pass : PassesOwn (model X.prog X.w) X.A X.env X.xe
  tk : L2.Takes X W
  hu : X.A.units + 64 < cLine
  tab : TOk T X.prog X.w X.K X.mg
  k : ∃ k, Room k X.A ∧ ∀ d ∈ T.defs, DOk X.prog X.w X.K X.mg X.base k cl d
structure Snd (T : Tb) (cl : Cl) (r : Evs) : Prop where
  e : ∀ X S W e, Good T cl X S W → PE X e (tE X.K W (r.e S e))
  t : ∀ X S W e, Good T cl X S W → PT X e (tT X.K W (r.t S e))
  x : ∀ X S W l, Good T cl X S W → PSs X l (tS X.K W (r.x S l))

section
variable {X : Cx} {W : WX}
theorem pe_bad {e : Expr} : PE X e (tE X.K W fun _ => M.bad) := ⟨fun _ _ _ _ _ _ ⟨_, _, _, _, q⟩ => q.elim⟩
theorem pt_bad {e : Expr} : PT X e (tT X.K W fun _ => M.bad) := ⟨fun _ _ _ _ _ _ ⟨_, _, _, _, q⟩ => q.elim⟩
theorem ps_bad {s : Stmt} : PS X s (tS X.K W fun _ => M.bad) := ⟨fun _ _ _ _ _ _ ⟨_, _, _, _, q⟩ => q.elim⟩
theorem pss_bad {s : List Stmt} : PSs X s (tS X.K W fun _ => M.bad) := ⟨fun _ _ _ _ _ _ ⟨_, _, _, _, q⟩ => q.elim⟩
theorem pi_bad {tg e : Expr} : PI X tg e (tI X.K W fun _ => M.bad) := ⟨fun _ _ _ _ _ _ ⟨_, _, _, _, q⟩ => q.elim⟩
theorem pe_if {e : Expr} {c : Prop} [Decidable c] {m : Rho → M Val} (h : c → PE X e (tE X.K W m)) : PE X e (tE X.K W fun ρ => if c then m ρ else M.bad) := by
  by_cases q : c
  · simp only [if_pos q]; exact h q
  · simp only [if_neg q]; exact pe_bad
theorem pt_if {e : Expr} {c : Prop} [Decidable c] {m : Rho → M Bool} (h : c → PT X e (tT X.K W m)) : PT X e (tT X.K W fun ρ => if c then m ρ else M.bad) := by
  by_cases q : c
  · simp only [if_pos q]; exact h q
  · simp only [if_neg q]; exact pt_bad
theorem ps_ifc {e : Stmt} {c : Prop} [Decidable c] {m : Rho → M Fl} (h : c → PS X e (tS X.K W m)) : PS X e (tS X.K W fun ρ => if c then m ρ else M.bad) := by
  by_cases q : c
  · simp only [if_pos q]; exact h q
  · simp only [if_neg q]; exact ps_bad
/-- constants -/
theorem pe_k {e : Expr} {v : V} {w : Val} (h : PE X e (tC v)) (r : ∀ H p ow, RV X.K H p ow w v) : PE X e (tE X.K W fun _ => pure w) := pe_imp h fun σ H Q ⟨p, ρ, h, rs, q⟩ => q p H v .refl rs.rh (r _ _ _)

/-! ### names -/
theorem okName_ok {x : Str} (h : okName x = true) : (x == ("__debug__" : Str)) = false ∧ (x == ("__classdict__" : Str)) = false ∧ x ≠ "__name__" := by
  unfold okName at h
  simp only [Bool.and_eq_true, Bool.not_eq_true'] at h
  exact ⟨h.1.1, h.1.2, beq_eq_false_iff_ne.mp h.2⟩
theorem ite_some {α : Type} {c : Prop} [Decidable c] {a b : Option α} {n : α} (h : (if c then a else b) = some n) : (c ∧ a = some n) ∨ b = some n := by
  by_cases q : c
  · rw [if_pos q] at h; exact .inl ⟨q, h⟩
  · rw [if_neg q] at h; exact .inr h
theorem bltTy_ok {x : Str} {n : String} (h : bltTy x = some n) : bootBuiltins x = some (.type n) := by
  unfold bltTy at h
  rcases ite_some h with ⟨e, q⟩ | h
  · subst e; cases q; decide +kernel
  rcases ite_some h with ⟨e, q⟩ | h
  · subst e; cases q; decide +kernel
  rcases ite_some h with ⟨e, q⟩ | h
  · subst e; cases q; decide +kernel
  rcases ite_some h with ⟨e, q⟩ | h
  · subst e; cases q; decide +kernel
  rcases ite_some h with ⟨e, q⟩ | h
  · subst e; cases q; decide +kernel
  rcases ite_some h with ⟨e, q⟩ | h
  · subst e; cases q; decide +kernel
  rcases ite_some h with ⟨e, q⟩ | h
  · subst e; cases q; decide +kernel
  cases h
end
section
variable {T : Tb} {cl : Cl} {X : Cx} {S : Sx} {W : WX}
theorem pe_slot (g : Good T cl X S W) {x : Str} {pos : Pos} (hn : okName x = true) (hv : Vis X.env.scope x) : PE X (.Name x pos) (tE X.K W (slotE S x)) := by
  obtain ⟨h1, h2, _⟩ := okName_ok hn
  cases hs : slotOf S.N x with
  | none =>
    refine ⟨fun _ _ _ _ _ _ ⟨p, ρ, h, _, q⟩ => ?_⟩
    unfold slotE at q
    rw [hs] at q
    exact q.elim
  | some i =>
    have hi : X.N[i]? = some x := by rw [g.N]; exact slotOf_ok hs
    refine pe_imp (pe_var hi hv h1 h2) fun σ H Q ⟨p, ρ, h, r, q⟩ => ?_
    unfold slotE at q
    rw [hs] at q
    dsimp only at q
    cases e : ρ[i]? with
    | none => rw [e] at q; exact q.elim
    | some o =>
      rw [e] at q
      cases o with
      | none => exact q.elim
      | some v =>
        obtain ⟨y, e1, rv⟩ := r.at_ i v e
        exact ⟨y, e1, q p H y .refl r.rh rv⟩
theorem pe_nameS (g : Good T cl X S W) {x : Str} {pos : Pos} : PE X (.Name x pos) (tE X.K W (nameE T S x)) := by
  show PE X (.Name x pos) (tE X.K W fun ρ => nameE T S x ρ)
  unfold nameE
  refine pe_if fun hn => ?_
  obtain ⟨h1, h2, h3⟩ := okName_ok hn
  cases hk : S.sc.names.lookup x with
  | none => exact pe_bad
  | some k =>
    have hk' : X.env.scope.names.lookup x = some k := by rw [g.sc]; exact hk
    cases k with
    | «local» => exact pe_slot g hn (.inl hk')
    | cell => exact pe_slot g hn (.inr (.inl hk'))
    | free => exact pe_slot g hn (.inr (.inr hk'))
    | globalExplicit => exact pe_bad
    | globalImplicit =>
      have hg : Gl X x := hk'
      dsimp only
      cases e : T.glob.lookup x with
      | some v =>
        obtain ⟨xv, u, e1, r1, r2⟩ := g.tab.glob x v e
        exact pe_k (pe_glob hg e1 r1 h1) r2
      | none =>
        refine pe_if fun hf => ?_
        cases e2 : bltTy x with
        | none =>
          refine ⟨fun _ _ _ _ _ _ ⟨p, ρ, h, _, q⟩ => ?_⟩
          exact q.elim
        | some n =>
          refine pe_imp (pe_bltn (v := .ty n) hg (g.tab.free x hf) (bltTy_ok e2) rfl h3 h1) fun σ H Q ⟨p, ρ, h, rs, q⟩ => ?_
          exact q p H _ .refl rs.rh .ty

/-! ### tests -/
theorem pt_toB {e : Expr} {m : Rho → M Val} {t : TE} (h : PT X e (tB t)) (i : ∀ σ H Q, tE X.K W m σ H Q → t σ H Q) : PT X e (tT X.K W fun ρ => toB (m ρ)) := by
  refine pt_imp h fun σ H Q q => i σ H _ ?_
  refine tG.bind (m := m) (f := fun _ v => (match v with | .bl b => pure b | _ => M.bad : M Bool)) q fun p1 ρ h1 v x H1 r1 v1 q1 => ?_
  cases v1 with
  | @bl b => exact ⟨b, rfl, q1 p1 H1 b .refl r1.rh rfl⟩
  | _ => exact q1.elim
theorem po_liftB {K : PySem.W.Frag} {W : XK} {p : Loc} {h : Hs} {H : Hp} {o : Option Bool} {Q : Bool → Hp → Prop} (r : RH K p h H) (q : PO K RB W (liftB o h) p h H Q) : ∃ k, o = some k ∧ Q k H := by
  cases o with
  | some k => exact ⟨k, rfl, q p H k .refl r rfl⟩
  | none => exact q.elim
theorem pt_truthS {e : Expr} {m : Rho → M Val} (he : PE X e (tE X.K W m)) (hp : ∀ whole, isTrue e X.env whole = (do let v ← whole; standAt e.pos; holding [v] (truthy v))) : PT X e (tT X.K W fun ρ => do let v ← m ρ; fun h => liftB (truV h v) h) := by
  refine pt_imp (pt_truth he hp) fun σ H Q q => ?_
  refine tG.bind q fun p1 ρ h1 v x H1 r1 v1 q1 => ?_
  obtain ⟨k, e1, q2⟩ := po_liftB r1.rh q1
  exact ⟨k, truV_ok r1.rh v1 e1, q2⟩
theorem pt_notS {a : Expr} {pos : Pos} {m : Rho → M Bool} (h : PT X a (tT X.K W m)) : PT X (.UnaryOp .Not a pos) (tT X.K W fun ρ => do let k ← m ρ; pure (!k)) := by
  refine pt_imp (pt_not h) fun σ H Q q => ?_
  refine tG.bind q fun p1 ρ h1 k x H1 r1 v1 q1 => ?_
  have v1 : k = x := v1
  subst v1
  exact q1 p1 H1 (!k) .refl r1.rh rfl
theorem plainT_ok {e : Expr} {env : Env} (h : plainT e = true) : ∀ whole, isTrue e env whole = (do let v ← whole; standAt e.pos; holding [v] (truthy v)) := by
  intro whole
  cases e <;> first | rfl | (cases h; done) | skip
  rename_i op _ _
  cases op <;> first | rfl | cases h
theorem notSet_ok {b : Expr} {op : CmpOp} (h : notSet b = true) : behindInMarks op b = false := by
  cases b <;> first | rfl | cases h
theorem plainIx_ok {b : Expr} (h : plainIx b = true) : PlainIx b := by
  intro o i
  cases b <;> first | rfl | cases h
/-! ### lists of arguments -/
theorem pa_L {r : Evs} (s : Snd T cl r) (g : Good T cl X S W) : ∀ {es : List Expr}, es.all notStar = true → PA X es (tA X.K W (evL r S es))
  | [], _ => pa_nilS
  | e :: es, h => by
    rw [List.all_cons, Bool.and_eq_true_iff] at h
    exact pa_consS (s.e X S W e g) (pa_L s g h.2) h.1
/-! ### calls -/
theorem run_fnS {k : Nat} {f : Addr} {fd : FuncData} {ps : List Str} {sp : Sp} {dvs : List V} {ds : List Value} {pins : List (Addr × Obj)} {σ : L2.St} {H : Hp} {s : Shared} {Q : VK} {us : List Value} {vs : List V} (F : FnOk X.prog X.w X.K X.mg X.base (L2.CX X.prog X.w) k f fd ps sp) (hr : Room k X.A)
    (hb : Binds X.K fd ps ds) (hd : Vals dvs ds) (tk : L2.Takes X W) (I : Inv X pins σ H s) (r : Vals vs us) (h : sp (vs ++ dvs) H Q fun c d H' => W c d σ H') : wpAny (model X.prog X.w) X.A (call (.ref f) us) (EP X pins σ Q) X.xe s := by
  have r2 : Vals (vs ++ dvs) (us ++ ds) := r.append hd
  have hl : (us ++ ds).length = ps.length := by rw [← r2.length]; exact F.len _ _ _ _ h
  refine wpAny_call (codeAny_mono (F.run X.A X.stack s H ⟨us, []⟩ (us ++ ds) (vs ++ dvs) Q _ hr I.env0 (hb s us I.kIn hl) r2 h) fun r s' hq => ?_)
  cases r with
  | error e => exact tk e s' (XE.of_call I (fun cls d H' h => h) hq)
  | ok fl =>
    cases fl with
    | ret u => exact I.after hq
    | next => exact False.elim hq
    | brk => exact False.elim hq
    | cont => exact False.elim hq
theorem call_fin {d : DefI} (g : Good T cl X S W) {k : Nat} {fd : FuncData} (hr : Room k X.A) (F : FnOk X.prog X.w X.K X.mg X.base (L2.CX X.prog X.w) k (He.fAd X.K d.key) fd d.ps (spOf X.K d.ps.length (cl d.key)))
    (hb : ∀ j, j ≤ d.dfl.length → ∃ dvs ds, (∀ H p ow, RVs X.K H p ow (d.dfl.drop (d.dfl.length - j)) dvs) ∧ Vals dvs ds ∧ Binds X.K fd d.ps ds)
    {pins : List (Addr × Obj)} {s1 : Shared} {σ : L2.St} {H1 : Hp} {Q : VK} {us : List Value} {xs : List V} {p1 : Loc} {h1 : Hs} {vs : List Val} (I : Inv X pins σ H1 s1) (r : Vals xs us) (rh : RH X.K p1 h1 H1) (rv : RVs X.K H1 p1 (Ow p1 h1) vs xs)
    (q : PO X.K (RV X.K) (fun c d H' => W c d σ H') (callD cl d vs h1) p1 h1 H1 Q) : wpAny (model X.prog X.w) X.A (call (.ref (He.fAd X.K d.key)) us) (EP X pins σ Q) X.xe s1 := by
  unfold callD at q
  by_cases hc : vs.length ≤ d.ps.length ∧ d.ps.length ≤ vs.length + d.dfl.length
  · rw [if_pos hc] at q
    obtain ⟨dvs, ds, rd, vd, bd⟩ := hb (d.ps.length - vs.length) (by omega)
    have rd' := rd H1 p1 (Ow p1 h1)
    have ld := rd'.length
    rw [List.length_drop] at ld
    refine run_fnS F hr bd vd g.tk I r ⟨?_, p1, h1, _, rh, rv.append rd', q⟩
    rw [List.length_append, ← rv.length, ← ld]
    omega
  · rw [if_neg hc] at q; exact q.elim
theorem pe_callDS {x : Str} {p pos : Pos} {e : Expr} {es : List Expr} {d : DefI} {ml : Rho → M (List Val)} (g : Good T cl X S W) (hd : d ∈ T.defs) (hk : d.key = (x, none)) (hn : okName x = true) (hg : Gl X x) (hs : (e :: es).all notStar = true) (ha : PA X (e :: es) (tA X.K W ml)) :
    PE X (.Call (.Name x p) (e :: es) [] pos) (tE X.K W fun ρ => do let vs ← ml ρ; callD cl d vs) := by
  obtain ⟨h1, h2, h3⟩ := okName_ok hn
  obtain ⟨k, hr, hD⟩ := g.k
  obtain ⟨⟨fd, F, hb⟩, kp, hm⟩ := hD d hd
  have hm := hm (by rw [hk])
  have em : X.mg x = some (.ref (He.fAd X.K d.key)) := by rw [hk] at hm ⊢; exact hm
  refine ⟨fun pins s σ H Q I q => ?_⟩
  refine wpAny_Call_Name_kw (ld_glob I hg em ?_ h1)
  rw [List.all_cons, Bool.and_eq_true_iff] at hs
  refine PySem.W.callWith_K (h₀ := X.base) I.ok.mod.kin kp (thn (ha.run pos pins s σ H _ I (tG.bind (T := fun xs H1 => ∃ p1 h1 vs, RH X.K p1 h1 H1 ∧ RVs X.K H1 p1 (Ow p1 h1) vs xs ∧ PO X.K (RV X.K) (fun c d H' => W c d σ H') (callD cl d vs h1) p1 h1 H1 Q) q fun p1 ρ h1 vs xs H1 r1 v1 q1 => ⟨p1, h1, vs, r1.rh, v1, q1⟩)) fun us s1 ⟨xs, H1, I1, r, p1, h1, vs, r1, v1, q1⟩ => ⟨I1.kIn, ?_⟩) (star_cons hs.1) (back_none hs.2)
  exact call_fin g hr F hb I1 r r1 v1 q1
theorem pe_callDS0 {x : Str} {p pos : Pos} {d : DefI} (g : Good T cl X S W) (hd : d ∈ T.defs) (hk : d.key = (x, none)) (hn : okName x = true) (hg : Gl X x) :
    PE X (.Call (.Name x p) [] [] pos) (tE X.K W fun ρ => do let vs ← (pure [] : M (List Val)); callD cl d vs) := by
  obtain ⟨h1, h2, h3⟩ := okName_ok hn
  obtain ⟨k, hr, hD⟩ := g.k
  obtain ⟨⟨fd, F, hb⟩, kp, hm⟩ := hD d hd
  have hm := hm (by rw [hk])
  have em : X.mg x = some (.ref (He.fAd X.K d.key)) := by rw [hk] at hm ⊢; exact hm
  refine ⟨fun pins s σ H Q I ⟨p1, ρ, h2, r1, q⟩ => ?_⟩
  refine wpAny_Call_Name_kw (ld_glob I hg em ?_ h1)
  refine PySem.W.callWith_K0 I.kIn kp ?_
  have q : PO X.K (RV X.K) (fun c d H' => W c d σ H') (callD cl d [] h2) p1 h2 H Q := q
  exact call_fin g hr F hb I .nil r1.rh .nil q

/-! ### built-ins -/
theorem bltF_ok {x : Str} {g : Hs → List Val → Option Val} {K : Kits} (hc : X.calm = true) (k : KitsOk K X.K) (h : bltF K x = some g) : ∃ id, bootBuiltins x = some (.builtin id) ∧ CallS X (.builtin id) g := by
  unfold bltF at h
  rcases ite_some h with ⟨e, q⟩ | h
  · subst e; cases q; exact ⟨_, by decide +kernel, len_S⟩
  rcases ite_some h with ⟨e, q⟩ | h
  · subst e; cases q; exact ⟨_, by decide +kernel, abs_S⟩
  rcases ite_some h with ⟨e, q⟩ | h
  · subst e; cases q; exact ⟨_, by decide +kernel, sum_S hc⟩
  rcases ite_some h with ⟨e, q⟩ | h
  · subst e; cases q; exact ⟨_, by decide +kernel, all_S hc⟩
  rcases ite_some h with ⟨e, q⟩ | h
  · subst e; cases q; exact ⟨_, by decide +kernel, any_S hc⟩
  rcases ite_some h with ⟨e, q⟩ | h
  · subst e; cases q; exact ⟨_, by decide +kernel, isi_S k⟩
  cases h
theorem bltC_ok {x : Str} {g : Hs → List Val → Option Val} (h : bltC x = some g) : ∃ id, bootBuiltins x = some (.type id) ∧ CallS X (.type id) g := by
  unfold bltC at h
  rcases ite_some h with ⟨e, q⟩ | h
  · subst e; cases q; exact ⟨_, by decide +kernel, int_S⟩
  cases h
theorem pe_bltS {x : Str} {p pos : Pos} {e : Expr} {es : List Expr} {f : Hs → List Val → Option Val} {id : String} {ml : Rho → M (List Val)} (hn : okName x = true) (hg : Gl X x) (hm : X.mg x = none) (hb : bootBuiltins x = some (.builtin id)) (hc : CallS X (.builtin id) f) (hs : (e :: es).all notStar = true) (ha : PA X (e :: es) (tA X.K W ml)) :
    PE X (.Call (.Name x p) (e :: es) [] pos) (tE X.K W fun ρ => do let vs ← ml ρ; fun h => liftO (f h vs) h) := by
  obtain ⟨h1, h2, h3⟩ := okName_ok hn
  rw [List.all_cons, Bool.and_eq_true_iff] at hs
  refine pe_imp (pe_callB hc hg hm hb ha h3 h1 (star_cons hs.1) (back_none hs.2)) fun σ H Q q => ?_
  exact tG.bind q fun p1 ρ h1 vs xs H1 r1 v1 q1 => ⟨p1, h1, vs, r1.rh, v1, po_lift q1⟩
theorem pe_tyS {x : Str} {p pos : Pos} {e : Expr} {es : List Expr} {f : Hs → List Val → Option Val} {id : String} {ml : Rho → M (List Val)} (hn : okName x = true) (hg : Gl X x) (hm : X.mg x = none) (hb : bootBuiltins x = some (.type id)) (hc : CallS X (.type id) f) (hs : (e :: es).all notStar = true) (ha : PA X (e :: es) (tA X.K W ml)) :
    PE X (.Call (.Name x p) (e :: es) [] pos) (tE X.K W fun ρ => do let vs ← ml ρ; fun h => liftO (f h vs) h) := by
  obtain ⟨h1, h2, h3⟩ := okName_ok hn
  rw [List.all_cons, Bool.and_eq_true_iff] at hs
  refine pe_imp (pe_callTy hc hg hm hb ha h3 h1 (star_cons hs.1) (back_none hs.2)) fun σ H Q q => ?_
  exact tG.bind q fun p1 ρ h1 vs xs H1 r1 v1 q1 => ⟨p1, h1, vs, r1.rh, v1, po_lift q1⟩
theorem pe_callE {r : Evs} (s : Snd T cl r) (g : Good T cl X S W) {f : Expr} {args : List Expr} {pos : Pos} : PE X (.Call f args [] pos) (tE X.K W (callE T cl r S f args)) := by
  cases f with
  | Name x p =>
    show PE X _ (tE X.K W fun ρ => if okName x = true ∧ S.sc.names.lookup x = some .globalImplicit ∧ args.all notStar = true then _ else M.bad)
    refine pe_if fun ⟨hn, hk, hs⟩ => ?_
    have hg : Gl X x := by
      show X.env.scope.names.lookup x = _
      rw [g.sc]; exact hk
    cases e : findD T.defs (x, none) with
    | some d =>
      obtain ⟨hd, ek⟩ := findD_ok e
      cases args with
      | nil => exact pe_callDS0 g hd ek hn hg
      | cons a as => exact pe_callDS g hd ek hn hg hs (pa_L s g hs)
    | none =>
      refine pe_if fun hf => ?_
      cases args with
      | nil => exact pe_bad
      | cons a as =>
        cases e1 : bltF T.kits x with
        | some f1 =>
          obtain ⟨id, hb, hc⟩ := bltF_ok (X := X) g.calm g.tab.kits e1
          simp only [e1]
          exact pe_bltS hn hg (g.tab.free x hf) hb hc hs (pa_L s g hs)
        | none =>
          cases e2 : bltC x with
          | some f1 =>
            obtain ⟨id, hb, hc⟩ := bltC_ok (X := X) e2
            simp only [e1, e2]
            exact pe_tyS hn hg (g.tab.free x hf) hb hc hs (pa_L s g hs)
          | none =>
            simp only [e1, e2]
            exact pe_bad
  | _ => exact pe_bad
end
end Ev

namespace Ev
open PySem PySem.Spec PyProof.Rows L2

/-! ### method calls -/
theorem base_ok {o : Expr} {m : Str} {env : Env} (h : baseOk o = true) (w : Sem Value) : attributeBase o m env w = w := by
  unfold attributeBase
  split
  · cases h
  · rfl
theorem back_star {pos : Pos} {env : Env} : ∀ {es : List Expr}, es.all notStar = true → (backTo pos (starEach es env)).all (fun x => !x.1) = true
  | [], _ => rfl
  | e :: es, h => by
    have := back_none (pos := pos) (env := env) h
    rw [List.all_eq_true]
    intro x hx
    rw [List.any_eq_false] at this
    have := this x hx
    simpa using this
theorem meth_form {pos : Pos} {env : Env} {es : List Expr} (h : es.all notStar = true) (h30 : es.length < 30) : ((backTo pos (starEach es env)).all (fun x => !x.1) && (backToKw pos (keywordEach [] env)).all (fun x => x.1.isSome)
      && decide (es.length + ([] : List Keyword).length + (if ([] : List Keyword).isEmpty then 0 else 1) < 30)) = true := by
  rw [back_star h]
  show (true && true && decide (es.length + 0 + 0 < 30)) = true
  rw [decide_eq_true (by omega)]
  rfl
theorem meth_ht {o : Expr} {m : Str} {apos pos : Pos} {args : List Expr} {env : Env} (hb : baseOk o = true) (hl : (apos.endLine == pos.line) = true) (hs : args.all notStar = true) (h30 : args.length < 30) :
    eval (.Call (.Attribute o m apos) args [] pos) env = (do
      let ov ← eval o env
      standAt apos.atName
      let (f, first) ← holding [ov] (getMethod ov m (do return (← importBound o env).getD true))
      callWith pos f first (backTo pos (starEach args env)) (backToKw pos (keywordEach [] env))) := by
  rw [arm_eval_Call, base_ok hb]
  have hform : methodCallForm (args.length + ([] : List Keyword).length) (backTo pos (starEach args env)) (backToKw pos (keywordEach [] env)) = true := meth_form hs h30
  have hpos : methodCallPos true o env apos pos = pure pos := by unfold methodCallPos; simp [hl]
  unfold methodCall
  rw [hform, hpos]
  simp only [pure_bind]
  rfl
section
variable {T : Tb} {cl : Cl} {X : Cx} {S : Sx} {W : WX}
/-- an exception, or nothing, ahead of the method's look -/
theorem pe_methX {o : Expr} {m : Str} {apos pos : Pos} {args : List Expr} {mo : Rho → M Val} (ho : PE X o (tE X.K W mo)) (hb : baseOk o = true) (hl : (apos.endLine == pos.line) = true) (hs : args.all notStar = true) (h30 : args.length < 30)
    {pins : List (Addr × Obj)} {s : Shared} {σ : L2.St} {H : Hp} {Q : VK} (I : Inv X pins σ H s) {p : Loc} {ρ : Rho} {h h' : Hs} {x : Exc} (rs : RS X.K p h H ρ σ) (e : mo ρ h = .exc x h')
    (q : PO X.K (RV X.K) (fun c d H' => W c d σ H') (.exc x h' : Out Val) p h H Q) : wpAny (model X.prog X.w) X.A (eval (.Call (.Attribute o m apos) args [] pos) X.env) (EP X pins σ Q) X.xe s := by
  refine PySem.W.methodCall_KW (thn (ho.run pins s σ H (fun _ _ => False) I ⟨p, ρ, h, rs, ?_⟩) fun u s1 ⟨_, _, _, _, f⟩ => f.elim) (meth_ht hb hl hs h30)
  rw [e]
  exact q
theorem pe_methE {r : Evs} (s : Snd T cl r) (g : Good T cl X S W) {o : Expr} {m : Str} {apos pos : Pos} {args : List Expr} (hl : (apos.endLine == pos.line) = true) (hb : baseOk o = true) (hs : args.all notStar = true) (h30 : args.length < 30) :
    PE X (.Call (.Attribute o m apos) args [] pos) (tE X.K W (methE T cl r S o m args)) := by
  have ho := s.e X S W o g
  refine ⟨fun pins st σ H Q I ⟨p, ρ, h, rs, q⟩ => ?_⟩
  unfold methE at q
  cases e : r.e S o ρ h with
  | bad =>
    rw [show (r.e S o ρ >>= _) h = .bad from by show M.bind _ _ h = _; unfold M.bind; rw [e]] at q
    exact q.elim
  | exc x h1 => rw [bind_exc e] at q; exact pe_methX ho hb hl hs h30 I rs e q
  | ok x h1 =>
  rw [bind_ok e] at q
  cases et : tyO h1 x with
  | none => simp only [et] at q; exact q.elim
  | some t =>
  simp only [et] at q
  cases em : mtab t m with
  | none => simp only [em] at q; exact q.elim
  | some f =>
  simp only [em] at q
  obtain ⟨id, pa, slot, ty, hm⟩ := mtab_ok (X := X) em
  have k : ∀ p' H' x', Stp p h H p' h1 H' → RH X.K p' h1 H' → RV X.K H' p' (Ow p' h1) x x' → tyV X.K t x' H' ∧ tA X.K W (evL r S args) σ H' fun xs H2 => ∃ p2 h2 v vs, RH X.K p2 h2 H2 ∧ RV X.K H2 p2 (Ow p2 h2) v x' ∧ RVs X.K H2 p2 (Ow p2 h2) vs xs ∧ PO X.K (RV X.K) (fun _ _ _ => False) (f v vs h2) p2 h2 H2 Q := by
    intro p' H' x' s' r' v'
    refine ⟨tyO_ok r' v' et, p', ρ, h1, rs.stp s' r', ?_⟩
    have q1 : PO X.K (RV X.K) (fun c d H' => W c d σ H') ((evL r S args ρ >>= fun vs => noX (f x vs)) h1) p' h1 H' Q := q.stp s'
    refine (PO.bind q1).imp fun xs H2 ⟨p2, h2, vs, s2, r2, v2, q2⟩ => ?_
    refine ⟨p2, h2, x, vs, r2, v'.mono s2, v2, ?_⟩
    have q2 : PO X.K (RV X.K) (fun c d H' => W c d σ H') (noX (f x vs) h2) p2 h2 H2 Q := q2
    unfold noX at q2
    cases ef : f x vs h2 with
    | bad => rw [ef] at q2; exact q2.elim
    | exc y h3 => rw [ef] at q2; exact q2.elim
    | ok y h3 => rw [ef] at q2; exact q2
  cases args with
  | nil =>
    refine (pe_bm0 pa slot ty hm ho (base_ok hb _) hl).run pins st σ H Q I ⟨p, ρ, h, rs, ?_⟩
    rw [e]
    intro p' H' x' s' r' v'
    obtain ⟨k1, k2⟩ := k p' H' x' s' r' v'
    obtain ⟨p3, ρ3, h3, rs3, k2⟩ := k2
    exact ⟨k1, k2 p3 H' [] .refl rs3.rh .nil⟩
  | cons a as =>
    have hs2 := hs
    rw [List.all_cons, Bool.and_eq_true_iff] at hs2
    refine (pe_bm pa slot ty hm ho (pa_L s g hs) (base_ok hb _) (meth_form hs h30) hl (star_cons hs2.1) (back_none hs2.2)).run pins st σ H Q I ⟨p, ρ, h, rs, ?_⟩
    rw [e]
    exact k
/-! ### displays -/
theorem pps_S {r : Evs} (s : Snd T cl r) (g : Good T cl X S W) {pos : Pos} : ∀ {ks : List (Option Expr)} {vs : List Expr}, ks.all (·.isSome) = true → ks.length = vs.length → PPs X pos ks vs ((prE r S ks vs).map fun m => (tE X.K W m.1, tE X.K W m.2))
  | [], [], _, _ => pps_nil
  | [], _ :: _, _, e => by cases e
  | _ :: _, [], _, e => by cases e
  | none :: _, _ :: _, h, _ => by cases h
  | some k :: ks, v :: vs, h, e => pps_cons (s.e X S W k g) (s.e X S W v g) (pps_S s g (Bool.and_eq_true_iff.mp h).2 (Nat.succ.inj e))
theorem pe_dictE {r : Evs} (s : Snd T cl r) (g : Good T cl X S W) {pos : Pos} : ∀ {ks : List (Option Expr)} {vs : List Expr}, PE X (.Dict ks vs pos) (tE X.K W (dictE T r S ks vs pos))
  | [], [] => by
    show PE X _ (tE X.K W fun ρ => if T.mut pos = true then _ else _)
    by_cases q : T.mut pos = true
    · simp only [if_pos q]; exact pe_dnewM
    · simp only [if_neg q]; exact pe_dnewS
  | [], _ :: _ => pe_bad
  | k :: ks, vs => by
    show PE X _ (tE X.K W fun ρ => if ((k :: ks).all (·.isSome) && (decide ((k :: ks).length = vs.length) && decide ((k :: ks).length ≤ 15))) = true then dispM (prE r S (k :: ks) vs) ρ else M.bad)
    refine pe_if fun h => ?_
    obtain ⟨h1, h2⟩ := Bool.and_eq_true_iff.mp h
    obtain ⟨h3, h4⟩ := Bool.and_eq_true_iff.mp h2
    exact pe_dispS (pps_S s g h1 (of_decide_eq_true h3)) h1 (of_decide_eq_true h3) (List.cons_ne_nil _ _) (of_decide_eq_true h4)
end
end Ev

namespace Ev
open PySem PySem.Spec PyProof.Rows L2

theorem po_liftThen {α γ δ : Type} {K : PySem.W.Frag} {R : Rl γ δ} {W : XK} {p : Loc} {h : Hs} {H : Hp} {Q : δ → Hp → Prop} {o : Hs → Option α} {f : α → M γ} (q : PO K R W (((fun h => liftO (o h) h : M α) >>= f) h) p h H Q) : ∃ a, o h = some a ∧ PO K R W (f a h) p h H Q := by
  cases e : o h with
  | some a =>
    have e2 : (fun h => liftO (o h) h : M α) h = .ok a h := by
      show liftO (o h) h = _
      rw [e]; rfl
    have e3 : ((fun h => liftO (o h) h : M α) >>= f) h = f a h := bind_ok (m := fun h => liftO (o h) h) e2
    rw [e3] at q
    exact ⟨a, rfl, q⟩
  | none =>
    have e2 : ((fun h => liftO (o h) h : M α) >>= f) h = .bad := by
      show M.bind _ f h = _
      unfold M.bind
      dsimp only
      rw [e]; rfl
    rw [e2] at q
    exact q.elim
theorem liftB_eq (o : Option Bool) : liftB o = liftO o := by
  funext h
  cases o <;> rfl
section
variable {T : Tb} {cl : Cl} {X : Cx} {S : Sx} {W : WX} {r : Evs}
/-! ### and, or -/
theorem pe_boolS (s : Snd T cl r) (g : Good T cl X S W) {op : BoolOp} {pos : Pos} : ∀ {es : List Expr}, PE X (.BoolOp op es pos) (tE X.K W (boolE r S op es))
  | [] => pe_bad
  | [a] => pe_one (s.e X S W a g)
  | a :: b :: l => by
    have ih := pe_boolS s g (op := op) (pos := pos) (es := b :: l)
    have ha := s.e X S W a g
    cases op with
    | And =>
      refine pe_imp (pe_andT ha ih) fun σ H Q q => ?_
      refine tG.bind (f := fun ρ v => (do
        let k ← (fun h => liftB (truV h v) h : M Bool)
        match BoolOp.And, k with
        | .And, true => boolE r S .And (b :: l) ρ
        | .And, false => pure v
        | .Or, true => pure v
        | .Or, false => boolE r S .And (b :: l) ρ : M Val)) q fun p1 ρ h1 v x H1 r1 v1 q1 => ?_
      simp only [liftB_eq] at q1
      obtain ⟨k, et, q1⟩ := po_liftThen q1
      refine ⟨k, truV_ok r1.rh v1 et, ?_⟩
      cases k with
      | true => exact ⟨p1, ρ, h1, r1, q1⟩
      | false => exact q1 p1 H1 x .refl r1.rh v1
    | Or =>
      refine pe_imp (pe_orT ha ih) fun σ H Q q => ?_
      refine tG.bind (f := fun ρ v => (do
        let k ← (fun h => liftB (truV h v) h : M Bool)
        match BoolOp.Or, k with
        | .And, true => boolE r S .Or (b :: l) ρ
        | .And, false => pure v
        | .Or, true => pure v
        | .Or, false => boolE r S .Or (b :: l) ρ : M Val)) q fun p1 ρ h1 v x H1 r1 v1 q1 => ?_
      simp only [liftB_eq] at q1
      obtain ⟨k, et, q1⟩ := po_liftThen q1
      refine ⟨k, truV_ok r1.rh v1 et, ?_⟩
      cases k with
      | false => exact ⟨p1, ρ, h1, r1, q1⟩
      | true => exact q1 p1 H1 x .refl r1.rh v1
theorem pw_boolS (s : Snd T cl r) (g : Good T cl X S W) {op : BoolOp} {pos : Pos} : ∀ {es : List Expr}, PW X (.BoolOp op es pos) (tT X.K W (boolT r S op es))
  | [] => ⟨fun _ _ _ _ _ _ _ ⟨_, _, _, _, q⟩ => q.elim⟩
  | [a] => by
    cases op with
    | And => exact pw_and1 (s.t X S W a g)
    | Or => exact pw_or1 (s.t X S W a g)
  | a :: b :: l => by
    have ih := pw_boolS s g (op := op) (pos := pos) (es := b :: l)
    have ha := s.t X S W a g
    cases op with
    | And =>
      refine pw_imp (pw_and ha ih) fun σ H Q q => ?_
      refine tG.bind q fun p1 ρ h1 v x H1 r1 v1 q1 => ?_
      have v1 : v = x := v1
      subst v1
      cases v with
      | true => exact ⟨p1, ρ, h1, r1, q1⟩
      | false => exact q1 p1 H1 false .refl r1.rh rfl
    | Or =>
      refine pw_imp (pw_or ha ih) fun σ H Q q => ?_
      refine tG.bind q fun p1 ρ h1 v x H1 r1 v1 q1 => ?_
      have v1 : v = x := v1
      subst v1
      cases v with
      | false => exact ⟨p1, ρ, h1, r1, q1⟩
      | true => exact q1 p1 H1 true .refl r1.rh rfl
/-! ### chains -/
theorem tE_chain {op op' : CmpOp} {ma mb mc : Rho → M Val} {σ : L2.St} {H : Hp} {Q : VK}
    (q : tE X.K W (fun ρ => do
      let x ← ma ρ
      let y ← mb ρ
      let k ← (fun h => liftO (cmpV op h x y) h : M Val)
      match k with
      | .bl true => do let z ← mc ρ; fun h => liftO (cmpV op' h y z) h
      | .bl false => pure (.bl false)
      | _ => M.bad) σ H Q) :
    tChain (fun x y H Q => ∃ p h va vb, RH X.K p h H ∧ RV X.K H p (Ow p h) va x ∧ RV X.K H p (Ow p h) vb y ∧ PV1 X.K p h H (cmpV op h va vb) Q)
      (fun x y H Q => ∃ p h va vb, RH X.K p h H ∧ RV X.K H p (Ow p h) va x ∧ RV X.K H p (Ow p h) vb y ∧ PV1 X.K p h H (cmpV op' h va vb) Q) (tE X.K W ma) (tE X.K W mb) (tE X.K W mc) σ H Q := by
  refine tG.bind q fun p1 ρ h1 va x H1 r1 v1 q1 => ?_
  refine ⟨p1, ρ, h1, r1, (PO.bind q1).imp fun y H2 ⟨p2, h2, vb, s2, r2, v2, q2⟩ => ?_⟩
  refine ⟨p2, h2, va, vb, r2, v1.mono s2, v2, ?_⟩
  obtain ⟨w, ec, q2⟩ := po_liftThen q2
  rw [ec]
  intro p' H' x' s' r' v'
  cases v' with
  | @bl b =>
    refine ⟨b, rfl, ?_⟩
    cases b with
    | true =>
      have r3 : RS X.K p' h2 H' ρ σ := (r1.stp s2 r2).stp s' r'
      refine ⟨p', ρ, h2, r3, (PO.bind (q2.stp s')).imp fun z H3 ⟨p3, h3, vc, s3, r3', v3, q3⟩ => ?_⟩
      exact ⟨p3, h3, vb, vc, r3', (v2.mono s').mono s3, v3, po_lift q3⟩
    | false => exact (q2.stp s') p' H' _ .refl r' .bl
  | _ => exact q2.elim
theorem pe_cmp1 (s : Snd T cl r) (g : Good T cl X S W) {a b : Expr} {op : CmpOp} {pos : Pos} (hb : notSet b = true) : PE X (.Compare a [op] [b] pos) (tE X.K W fun ρ => do let x ← r.e S a ρ; let y ← r.e S b ρ; fun h => liftO (cmpV op h x y) h) :=
  pe_cmpS (cmpV_ok g.hu op) (s.e X S W a g) (s.e X S W b g) (notSet_ok hb)
theorem pe_cmp2 (s : Snd T cl r) (g : Good T cl X S W) {a b c : Expr} {op op' : CmpOp} {pos : Pos} (hb : notSet b = true) (hc : notSet c = true) : PE X (.Compare a [op, op'] [b, c] pos) (tE X.K W (chain1 r S a op op' b c)) :=
  pe_imp (pe_chain (cmpV_ok g.hu op) (cmpV_ok g.hu op') (s.e X S W a g) (s.e X S W b g) (s.e X S W c g) (by show lastMarks [op'] [c] = false; exact notSet_ok hc)) fun σ H Q q => tE_chain q
theorem pt_cmp1 (s : Snd T cl r) (g : Good T cl X S W) {a b : Expr} {op : CmpOp} {pos : Pos} (hb : notSet b = true) : PT X (.Compare a [op] [b] pos) (tT X.K W fun ρ => toB (do let x ← r.e S a ρ; let y ← r.e S b ρ; fun h => liftO (cmpV op h x y) h)) := by
  refine pt_toB (t := tOp (fun x y H Q => ∃ p h va vb, RH X.K p h H ∧ RV X.K H p (Ow p h) va x ∧ RV X.K H p (Ow p h) vb y ∧ PV1 X.K p h H (cmpV op h va vb) Q) (tE X.K W (r.e S a)) (tE X.K W (r.e S b))) (pt_cmpR (cmpV_ok g.hu op) (s.e X S W a g) (s.e X S W b g) (notSet_ok hb)) fun σ H Q q => ?_
  refine tG.bind q fun p1 ρ h1 va x H1 r1 v1 q1 => ?_
  refine ⟨p1, ρ, h1, r1, (PO.bind q1).imp fun y H2 ⟨p2, h2, vb, s2, r2, v2, q2⟩ => ?_⟩
  exact ⟨p2, h2, va, vb, r2, v1.mono s2, v2, po_lift q2⟩
theorem pt_cmp2 (s : Snd T cl r) (g : Good T cl X S W) {a b c : Expr} {op op' : CmpOp} {pos : Pos} (hb : notSet b = true) (hc : notSet c = true) : PT X (.Compare a [op, op'] [b, c] pos) (tT X.K W fun ρ => toB (chain1 r S a op op' b c ρ)) :=
  pt_toB (pt_chain (cmpV_ok g.hu op) (cmpV_ok g.hu op') (s.e X S W a g) (s.e X S W b g) (s.e X S W c g) (by show lastMarks [op'] [c] = false; exact notSet_ok hc)) fun σ H Q q => tE_chain q

/-! ### targets -/
theorem assign_cons {x : Str} {p : Pos} {es : List Expr} {env : Env} : assignEach (.Name x p :: es) env = (false, assign (.Name x p) env) :: assignEach es env := rfl
theorem tgtS_ok (g : Good T cl X S W) : ∀ {es : List Expr} {sl : List Nat} {f : TgsF}, tgtS S es = some (sl, f) → PGs X es (tGts X.K sl f) ∧ (assignEach es X.env).length = es.length ∧ (assignEach es X.env).findIdx? (·.1) = none
  | [], _, _, e => by cases e; exact ⟨pgs_nilS, rfl, rfl⟩
  | .Name x p :: es, sl, f, e => by
    have e : (if stok S x = true then (match slotOf S.N x, tgtS S es with
      | some i, some (sl, g) => some ([i] ++ sl, tgCons (tgName i) g)
      | _, _ => none) else none) = some (sl, f) := e
    rcases ite_some e with ⟨hs, e⟩ | e
    rotate_left
    · cases e
    cases e1 : slotOf S.N x with
    | none => rw [e1] at e; cases e
    | some i =>
      cases e2 : tgtS S es with
      | none => rw [e1, e2] at e; cases e
      | some q =>
        obtain ⟨sl', g'⟩ := q
        rw [e1, e2] at e
        cases e
        obtain ⟨h1, h2, h3⟩ := tgtS_ok g e2
        obtain ⟨z1, z2⟩ := g.st x hs
        refine ⟨pgs_consS (pg_nameS g.nd (by rw [g.N]; exact slotOf_ok e1) z1 z2) h1 rfl, by rw [assign_cons, List.length_cons, h2]; rfl, ?_⟩
        rw [assign_cons, List.findIdx?_cons]
        simp [h3]
theorem tgt_ok (g : Good T cl X S W) {t : Expr} {sl : List Nat} {f : TgF} (e : tgt S t = some (sl, f)) : PG X t (tGt X.K sl f) := by
  cases t with
  | Name x p =>
    have e : (if stok S x = true then (slotOf S.N x).map (fun i => ([i], tgName i)) else none) = some (sl, f) := e
    rcases ite_some e with ⟨hs, e⟩ | e
    rotate_left
    · cases e
    cases e1 : slotOf S.N x with
    | none => rw [e1] at e; cases e
    | some i =>
      rw [e1] at e
      cases e
      obtain ⟨z1, z2⟩ := g.st x hs
      exact pg_nameS g.nd (by rw [g.N]; exact slotOf_ok e1) z1 z2
  | Tuple es k p =>
    have e : (tgtS S es).map (fun g => (g.1, tgTup es.length g.2)) = some (sl, f) := e
    cases e1 : tgtS S es with
    | none => rw [e1] at e; cases e
    | some q =>
      obtain ⟨sl', g'⟩ := q
      rw [e1] at e
      cases e
      obtain ⟨h1, h2, h3⟩ := tgtS_ok g e1
      exact pg_tupS g.calm h1 h2 h3
  | _ => cases e
/-! ### what is walked -/
theorem pi_iterE (s : Snd T cl r) (g : Good T cl X S W) {tg it : Expr} : PI X tg it (tI X.K W (iterE T r S it)) := by
  have gen : iterE T r S it = (fun ρ => do let v ← r.e S it ρ; liftO (walkOf v)) → PI X tg it (tI X.K W (iterE T r S it)) := fun e => by
    rw [e]; exact pi_seqS (s.e X S W it g)
  by_cases hr : ∃ x p args pos, it = .Call (.Name x p) args [] pos ∧ (x = "range" ∧ S.sc.names.lookup x = some .globalImplicit ∧ T.free.contains x = true)
  · obtain ⟨x, p, args, pos, rfl, hc⟩ := hr
    have e : iterE T r S (.Call (.Name x p) args [] pos) = fun ρ => (match args with
      | [a] => if notStar a = true then (do let vs ← evL r S [a] ρ; liftO (match vs with | [_] => rngV vs | _ => none)) else M.bad
      | [a, b] => if (notStar a && notStar b) = true then (do let vs ← evL r S [a, b] ρ; liftO (match vs with | [_, _] => rngV vs | _ => none)) else M.bad
      | _ => M.bad : M (List Val)) := by
      funext ρ
      exact if_pos hc
    rw [e]
    obtain ⟨rfl, h1, h2⟩ := hc
    have hg : Gl X "range" := by
      show X.env.scope.names.lookup _ = _
      rw [g.sc]; exact h1
    have hm := g.tab.free _ h2
    match args with
    | [] => exact pi_bad
    | [a] =>
      by_cases ha : notStar a = true
      · simp only [if_pos ha]
        exact pi_rngS1 hg hm (pa_L s g (by simp [ha])) (by rw [star_cons ha]; rfl)
      · simp only [if_neg ha]; exact pi_bad
    | [a, b] =>
      by_cases ha : (notStar a && notStar b) = true
      · simp only [if_pos ha]
        obtain ⟨h3, h4⟩ := Bool.and_eq_true_iff.mp ha
        exact pi_rngS2 hg hm (pa_L s g (by simp [h3, h4])) (by rw [star_cons h3, star_cons h4]; rfl) (by rw [star_cons h4]; rfl)
      · simp only [if_neg ha]; exact pi_bad
    | a :: b :: c :: l => exact pi_bad
  · refine gen ?_
    funext ρ
    unfold iterE
    split
    · rename_i x p args pos
      rw [if_neg fun z => hr ⟨x, p, args, pos, rfl, z⟩]
    · rfl
theorem notSet_fold {iter : Expr} {env : Env} (h : notSet iter = true) : ∀ x, foldedSetIterable iter env x = pure x := by
  intro x
  cases iter <;> first | rfl | cases h
/-! ### comprehensions -/
theorem relS_own {sc scope : Scope} {x : Str} {k : NameKind} (h : scope.names.lookup x = some k) (hk : k ≠ .free) : (relS scope sc).names.lookup x = some k := lookup_relS_keep hk h
theorem good_blk (g : Good T cl X S W) (sc : Scope) (s : Shared) (H : Hp) (C : Addr) (c : List (Str × Addr)) (fp : List Addr) : Good T cl (X.blk s H sc (compEnvC sc c C X.env) fp) (blkS S sc) NoW := by
  refine ⟨g.N, g.nd, ?_, fun x hx => ?_, g.calm, PassesOwn.never, fun u s' ⟨_, _, _, _, _, _, _, _, _, _, _, _, _, _, _, _, w⟩ => w, g.hu, g.tab, g.k⟩
  · show relabel sc X.env = relS sc S.sc
    rw [← g.sc]
    rfl
  · unfold stok at hx
    have e : (blkS S sc).own = sc := rfl
    rw [e] at hx
    have rel : ∀ k, sc.names.lookup x = some k → k ≠ .free → (relabel sc X.env).names.lookup x = some k := fun k h hk => relS_own (sc := X.env.scope) h hk
    cases hk : sc.names.lookup x with
    | none => rw [hk] at hx; cases hx
    | some k =>
      rw [hk] at hx
      cases k with
      | «local» => exact ⟨.inl (rel _ hk (by intro z; cases z)), .inr (rel _ hk (by intro z; cases z))⟩
      | cell => exact ⟨.inr (rel _ hk (by intro z; cases z)), .inl (by show (sc.names.lookup x == some NameKind.cell) = true; rw [hk]; rfl)⟩
      | _ => cases hx
theorem pts_ifs {r : Evs} (s : Snd T cl r) {X : Cx} {S : Sx} {W : WX} (g : Good T cl X S W) {ifs : List Expr} : PTs X ifs (tT X.K W (ifsT r S ifs)) := by
  match ifs with
  | [] =>
    refine ⟨fun pins s σ H Q I ⟨p, ρ, h, r, q⟩ => pts_nil.run pins s σ H Q I ?_⟩
    exact q p H true .refl r.rh rfl
  | [c] =>
    have z := pts_one (s.t X S W c g)
    exact ⟨fun pins s σ H Q I q => z.run pins s σ H Q I q⟩
  | _ :: _ :: _ => exact ⟨fun _ _ _ _ _ _ ⟨_, _, _, _, q⟩ => q.elim⟩
theorem pe_lcE (s : Snd T cl r) (g : Good T cl X S W) {elt tg iter : Expr} {ifs : List Expr} {sc : Scope} {pos : Pos} : PE X (.ListComp elt [⟨tg, iter, ifs, 0⟩] sc pos) (tE X.K W (lcE T r S elt tg iter ifs sc)) := by
  show PE X _ (tE X.K W fun ρ => if (blkC S.N S.sc sc (ownOf S.N sc) && notSet iter) = true then _ else M.bad)
  refine pe_if fun hc => ?_
  obtain ⟨h1, h2⟩ := Bool.and_eq_true_iff.mp hc
  cases et : tgt (blkS S sc) tg with
  | none => exact pe_bad
  | some q =>
    obtain ⟨sl, f⟩ := q
    refine pe_if fun hs => ?_
    have hsl : ∀ i ∈ sl, i ∈ (ownOf S.N sc).map (·.2) := fun i hi => by
      have := List.all_eq_true.mp hs i hi
      obtain ⟨q, hq, e⟩ := List.any_eq_true.mp this
      exact List.mem_map.mpr ⟨q, hq, by simpa using e⟩
    have ok : BlkOk X.N X.env.scope sc (ownOf S.N sc) := by
      rw [g.N, g.sc]
      exact blkOk_by h1
    exact pe_lcS g.calm g.nd (pi_iterE s g) ok (fun s1 H C c fp => tgt_ok (good_blk g sc s1 H C c fp) et) hsl (fun s1 H C c fp => pts_ifs s (good_blk g sc s1 H C c fp)) (fun s1 H C c fp => s.e _ _ _ elt (good_blk g sc s1 H C c fp)) (notSet_fold h2)
theorem ps_lcE (s : Snd T cl r) (g : Good T cl X S W) {elt tg iter : Expr} {ifs : List Expr} {sc : Scope} {pos spos py : Pos} {y : Str} {i : Nat} (hx : stok S y = true) (hi : slotOf S.N y = some i) :
    PS X (.Assign [.Name y py] (.ListComp elt [⟨tg, iter, ifs, 0⟩] sc pos) spos) (tS X.K W fun ρ => withE (lcE T r S elt tg iter ifs sc ρ) ρ fun v => pure (.next (ρ.set i (some v)))) := by
  have bad : ∀ {m : Rho → M Val}, (∀ ρ, m ρ = M.bad) → PS X (.Assign [.Name y py] (.ListComp elt [⟨tg, iter, ifs, 0⟩] sc pos) spos) (tS X.K W fun ρ => withE (m ρ) ρ fun v => pure (.next (ρ.set i (some v)))) := fun {m} e => by
    have : (fun ρ => withE (m ρ) ρ fun v => (pure (.next (ρ.set i (some v))) : M Fl)) = fun _ => M.bad := by
      funext ρ h
      rw [e]
      rfl
    rw [this]
    exact ps_bad
  unfold lcE
  by_cases hc : (blkC S.N S.sc sc (ownOf S.N sc) && notSet iter) = true
  rotate_left
  · simp only [if_neg hc]; exact bad fun _ => rfl
  simp only [if_pos hc]
  obtain ⟨h1, h2⟩ := Bool.and_eq_true_iff.mp hc
  cases et : tgt (blkS S sc) tg with
  | none => exact bad fun _ => rfl
  | some q =>
    obtain ⟨sl, f⟩ := q
    dsimp only
    by_cases hs : (sl.all fun i => (ownOf S.N sc).any fun q => q.2 == i) = true
    rotate_left
    · simp only [if_neg hs]; exact bad fun _ => rfl
    simp only [if_pos hs]
    have hsl : ∀ i ∈ sl, i ∈ (ownOf S.N sc).map (·.2) := fun i hi => by
      have := List.all_eq_true.mp hs i hi
      obtain ⟨q, hq, e⟩ := List.any_eq_true.mp this
      exact List.mem_map.mpr ⟨q, hq, by simpa using e⟩
    have ok : BlkOk X.N X.env.scope sc (ownOf S.N sc) := by
      rw [g.N, g.sc]
      exact blkOk_by h1
    obtain ⟨z1, z2⟩ := g.st y hx
    exact ps_lcS g.calm g.nd (by rw [g.N]; exact slotOf_ok hi) z1 z2 (pi_iterE s g) ok (fun s1 H C c fp => tgt_ok (good_blk g sc s1 H C c fp) et) hsl (fun s1 H C c fp => pts_ifs s (good_blk g sc s1 H C c fp)) (fun s1 H C c fp => s.e _ _ _ elt (good_blk g sc s1 H C c fp)) (notSet_fold h2)
end
end Ev

namespace Ev
open PySem PySem.Spec PyProof.Rows L2

section
variable {T : Tb} {cl : Cl} {X : Cx} {S : Sx} {W : WX} {r : Evs}
theorem pe_notS (s : Snd T cl r) (g : Good T cl X S W) {a : Expr} {pos : Pos} : PE X (.UnaryOp .Not a pos) (tE X.K W fun ρ => do let v ← r.e S a ρ; let k ← (fun h => liftB (truV h v) h : M Bool); pure (.bl (!k))) := by
  refine pe_imp (pe_notT (s.e X S W a g)) fun σ H Q q => ?_
  refine tG.bind q fun p1 ρ h1 v x H1 r1 v1 q1 => ?_
  simp only [liftB_eq] at q1
  obtain ⟨k, et, q1⟩ := po_liftThen q1
  exact ⟨k, truV_ok r1.rh v1 et, q1 p1 H1 _ .refl r1.rh .bl⟩
theorem pe_negS (s : Snd T cl r) (g : Good T cl X S W) {a : Expr} {pos : Pos} : PE X (.UnaryOp .USub a pos) (tE X.K W fun ρ => do let v ← r.e S a ρ; liftO (match v with | .int i => some (.int (-i)) | _ => none)) := by
  refine pe_imp (pe_un un_neg (s.e X S W a g)) fun σ H Q q => ?_
  refine tG.bind q fun p1 ρ h1 v x H1 r1 v1 q1 => ?_
  cases v1 with
  | @int i => exact ⟨i, rfl, q1 p1 H1 _ .refl r1.rh .int⟩
  | _ => exact q1.elim
theorem pe_ifS (s : Snd T cl r) (g : Good T cl X S W) {c a b : Expr} {pos : Pos} : PE X (.IfExp c a b pos) (tE X.K W fun ρ => do let k ← r.t S c ρ; if k = true then r.e S a ρ else r.e S b ρ) := by
  refine pe_imp (pe_ifExp (s.t X S W c g) (s.e X S W a g) (s.e X S W b g)) fun σ H Q q => ?_
  refine tG.bind q fun p1 ρ h1 k x H1 r1 v1 q1 => ?_
  have v1 : k = x := v1
  subst v1
  cases k with
  | true => exact ⟨p1, ρ, h1, r1, q1⟩
  | false => exact ⟨p1, ρ, h1, r1, q1⟩
theorem pe_listE (s : Snd T cl r) (g : Good T cl X S W) {es : List Expr} {pos : Pos} (h : es.all notStar = true) : PE X (.List es pos) (tE X.K W fun ρ => do let vs ← evL r S es ρ; if T.mut pos = true then allocL vs else liftO (if vs.length ≤ sizeLine then some (.lst vs) else none)) := by
  by_cases q : T.mut pos = true
  · simp only [if_pos q]; exact pe_lstA (pa_L s g h)
  · simp only [if_neg q]; exact pe_lstS (pa_L s g h)
theorem partS_ok (s : Snd T cl r) (g : Good T cl X S W) (o : Option Expr) : PartS X W o (partE r S o) := by
  cases o with
  | none => exact True.intro
  | some e => exact s.e X S W e g
theorem step_e (s : Snd T cl r) (X : Cx) (S : Sx) (W : WX) (x : Expr) (g : Good T cl X S W) : PE X x (tE X.K W (stepE T cl r S x)) := by
  have hE := fun e => s.e X S W e g
  cases x with
  | Constant c k pos =>
    cases c with
    | none => exact pe_k pe_non fun _ _ _ => .non
    | bool b => exact pe_k pe_bl fun _ _ _ => .bl
    | int i => exact pe_k pe_int fun _ _ _ => .int
    | str z => exact pe_k pe_str fun _ _ _ => .str
    | _ => exact pe_bad
  | Name x pos => exact pe_nameS g
  | BinOp a op b pos =>
    cases e : binV op with
    | none =>
      have : stepE T cl r S (.BinOp a op b pos) = fun _ => M.bad := by funext ρ; show (match binV op with | some g => _ | none => M.bad) = _; rw [e]
      rw [this]; exact pe_bad
    | some f =>
      have : stepE T cl r S (.BinOp a op b pos) = fun ρ => (do let x ← r.e S a ρ; let y ← r.e S b ρ; fun h => liftO (f h x y) h : M Val) := by funext ρ; show (match binV op with | some g => _ | none => M.bad) = _; rw [e]
      rw [this]; exact pe_opS (binV_ok e) (hE a) (hE b)
  | UnaryOp op a pos =>
    cases op with
    | Not => exact pe_notS s g
    | USub => exact pe_negS s g
    | _ => exact pe_bad
  | BoolOp op es pos => exact pe_boolS s g
  | Compare a ops bs pos =>
    match ops, bs with
    | [op], [b] => exact pe_if fun h => pe_cmp1 s g h
    | [op, op'], [b, c] => exact pe_if fun h => let ⟨h1, h2⟩ := Bool.and_eq_true_iff.mp h; pe_cmp2 s g h1 h2
    | [], _ => exact pe_bad
    | [_], [] => exact pe_bad
    | [_], _ :: _ :: _ => exact pe_bad
    | _ :: _ :: _ :: _, _ => exact pe_bad
    | [_, _], [] => exact pe_bad
    | [_, _], [_] => exact pe_bad
    | [_, _], _ :: _ :: _ :: _ => exact pe_bad
  | IfExp c a b pos => exact pe_ifS s g
  | List es pos => exact pe_if fun h => pe_listE s g h
  | Tuple es k pos => exact pe_if fun h => pe_tupS (pa_L s g h)
  | ListComp elt gens sc pos =>
    match gens with
    | [⟨tg, iter, ifs, 0⟩] => exact pe_lcE s g
    | [] => exact pe_bad
    | ⟨_, _, _, Int.ofNat (_ + 1)⟩ :: [] => exact pe_bad
    | ⟨_, _, _, Int.negSucc _⟩ :: [] => exact pe_bad
    | ⟨_, _, _, 0⟩ :: _ :: _ => exact pe_bad
    | ⟨_, _, _, Int.ofNat (_ + 1)⟩ :: _ :: _ => exact pe_bad
    | ⟨_, _, _, Int.negSucc _⟩ :: _ :: _ => exact pe_bad
  | Subscript a b pos =>
    cases b with
    | Slice lo hi st p2 =>
      cases st with
      | none => exact pe_slS (hE a) (partS_ok s g lo) (partS_ok s g hi)
      | some _ => exact (pe_bad : PE X _ (tE X.K W fun _ => M.bad))
    | _ => exact pe_if fun h => pe_ixS (hE a) (hE _) (plainIx_ok h)
  | Call f args kws pos =>
    cases kws with
    | nil =>
      cases f with
      | Attribute o m apos =>
        refine pe_if fun h => ?_
        obtain ⟨h1, h⟩ := Bool.and_eq_true_iff.mp h
        obtain ⟨h2, h⟩ := Bool.and_eq_true_iff.mp h
        obtain ⟨h3, h4⟩ := Bool.and_eq_true_iff.mp h
        exact pe_methE s g h1 h2 h3 (of_decide_eq_true h4)
      | _ => exact pe_callE s g
    | cons _ _ => cases f <;> exact pe_bad
  | Dict ks vs pos => exact pe_dictE s g
  | _ => exact pe_bad
theorem step_t (s : Snd T cl r) (X : Cx) (S : Sx) (W : WX) (x : Expr) (g : Good T cl X S W) : PT X x (tT X.K W (stepT T cl r S x)) := by
  have other : plainT x = true → PT X x (tT X.K W fun ρ => do let v ← stepE T cl r S x ρ; fun h => liftB (truV h v) h) := fun h => pt_truthS (step_e s X S W x g) (plainT_ok h)
  cases x with
  | UnaryOp op a pos =>
    cases op with
    | Not => exact pt_notS (s.t X S W a g)
    | _ => exact pt_if other
  | BoolOp op es pos => exact (pw_boolS s g).pt
  | Compare a ops bs pos =>
    match ops, bs with
    | [op], [b] => exact pt_if fun h => pt_cmp1 s g h
    | [op, op'], [b, c] => exact pt_if fun h => let ⟨h1, h2⟩ := Bool.and_eq_true_iff.mp h; pt_cmp2 s g h1 h2
    | [], _ => exact (pt_bad : PT X _ (tT X.K W fun _ => M.bad))
    | [_], [] => exact (pt_bad : PT X _ (tT X.K W fun _ => M.bad))
    | [_], _ :: _ :: _ => exact (pt_bad : PT X _ (tT X.K W fun _ => M.bad))
    | _ :: _ :: _ :: _, _ => exact (pt_bad : PT X _ (tT X.K W fun _ => M.bad))
    | [_, _], [] => exact (pt_bad : PT X _ (tT X.K W fun _ => M.bad))
    | [_, _], [_] => exact (pt_bad : PT X _ (tT X.K W fun _ => M.bad))
    | [_, _], _ :: _ :: _ :: _ => exact (pt_bad : PT X _ (tT X.K W fun _ => M.bad))
  | _ => exact pt_if other
/-! ### statements -/
theorem swaps_none {e : Expr} {t : Option Expr} {n : Nat} {env : Env} (h : notComp e = true) : swapsWith e t n env = pure false := by
  cases e <;> first | rfl | cases h
theorem swapped_none {t e : Expr} {env : Env} (h : notTup e = true) : swappedStores [t] e env = pure none := by
  cases t <;> cases e <;> first | rfl | cases h
theorem swapped_not {t e : Expr} {env : Env} (h : notTup t = true) : swappedStores [t] e env = pure none := by
  cases t <;> first | rfl | cases h
def tAsgS (te : TE) (g : TG) : TS := tAsg te g
theorem ps_docE {e : Expr} {pos : Pos} (h : isDoc e = true) : PS X (.Expr e pos) (tS X.K W fun ρ => pure (.next ρ)) := by
  cases e with
  | Constant c k p =>
    cases c with
    | str z => exact ps_docS
    | _ => cases h
  | _ => cases h
/-- name = e, e no comprehension (or one whose store is not swapped) -/
theorem ps_setS (g : Good T cl X S W) {x : Str} {e : Expr} {pos pos' : Pos} {m : Rho → M Val} {i : Nat} (he : PE X e (tE X.K W m)) (hx : stok S x = true) (hi : slotOf S.N x = some i) (hs : swapsWith e (some (.Name x pos')) pos.line X.env = pure false) :
    PS X (.Assign [.Name x pos'] e pos) (tS X.K W fun ρ => withE (m ρ) ρ fun v => pure (.next (ρ.set i (some v)))) := by
  obtain ⟨z1, z2⟩ := g.st x hx
  refine ps_imp (ps_set g.nd (by rw [g.N]; exact slotOf_ok hi) z1 he hs z2) fun D σ H ⟨p, ρ, h, r, q⟩ => ?_
  exact ⟨p, ρ, h, r, (PF.withE r q).imp fun y H1 ⟨p1, h1, v, r1, v1, q1⟩ => q1 p1 H1 _ .refl (r1.set v1 i)⟩
theorem ps_setE (s : Snd T cl r) (g : Good T cl X S W) {x : Str} {e : Expr} {pos pos' : Pos} {i : Nat} (hx : stok S x = true) (hi : slotOf S.N x = some i) :
    PS X (.Assign [.Name x pos'] e pos) (tS X.K W fun ρ => withE (if notComp e = true then r.e S e ρ else stepE T cl r S e ρ) ρ fun v => pure (.next (ρ.set i (some v)))) := by
  have badE : ∀ {m : Rho → M Val}, (∀ ρ, m ρ = M.bad) → PS X (.Assign [.Name x pos'] e pos) (tS X.K W fun ρ => withE (m ρ) ρ fun v => pure (.next (ρ.set i (some v)))) := fun {m} e => by
    have : (fun ρ => withE (m ρ) ρ fun v => (pure (.next (ρ.set i (some v))) : M Fl)) = fun _ => M.bad := by
      funext ρ h
      rw [e]
      rfl
    rw [this]
    exact ps_bad
  by_cases hc : notComp e = true
  · simp only [if_pos hc]; exact ps_setS g (s.e X S W e g) hx hi (swaps_none hc)
  · simp only [if_neg hc]
    cases e with
    | ListComp elt gens sc p2 =>
      match gens with
      | [⟨tg, iter, ifs, 0⟩] => exact ps_lcE s g hx hi
      | [] => exact badE fun _ => rfl
      | ⟨_, _, _, Int.ofNat (_ + 1)⟩ :: [] => exact badE fun _ => rfl
      | ⟨_, _, _, Int.negSucc _⟩ :: [] => exact badE fun _ => rfl
      | ⟨_, _, _, 0⟩ :: _ :: _ => exact badE fun _ => rfl
      | ⟨_, _, _, Int.ofNat (_ + 1)⟩ :: _ :: _ => exact badE fun _ => rfl
      | ⟨_, _, _, Int.negSucc _⟩ :: _ :: _ => exact badE fun _ => rfl
    | SetComp _ _ _ _ => exact badE fun _ => rfl
    | DictComp _ _ _ _ _ => exact badE fun _ => rfl
    | _ => exact absurd rfl hc
theorem ps_asgS (g : Good T cl X S W) {t e : Expr} {pos : Pos} {m : Rho → M Val} {sl : List Nat} {f : TgF} (he : PE X e (tE X.K W m)) (ht : PG X t (tGt X.K sl f)) (hs : swapsWithSole [t] e pos.line X.env = pure false) (hw : swappedStores [t] e X.env = pure none)
    (h1 : (assignEach [t] X.env).map (·.2) = [assign t X.env]) : PS X (.Assign [t] e pos) (tS X.K W fun ρ => withE (m ρ) ρ fun v h => (match f h v ρ with
      | some ρ' => .ok (.next ρ') h
      | none => .bad)) := by
  refine ps_imp (ps_asg he ht hs hw h1) fun D σ H ⟨p, ρ, h, r, q⟩ => ?_
  refine ⟨p, ρ, h, r, (PF.withE r q).imp fun y H1 ⟨p1, h1, v, r1, v1, q1⟩ => ⟨p1, ρ, h1, v, r1, v1, ?_⟩⟩
  cases ef : f h1 v ρ with
  | none => rw [ef] at q1; exact q1
  | some ρ' =>
    rw [ef] at q1
    exact fun p' H' σ' s' r' _ => q1 p' H' σ' s' r'
/-- o[i] = e of a list of the small heap -/
theorem ps_subS (s : Snd T cl r) (g : Good T cl X S W) {o i e : Expr} {pos pos' : Pos} (hp : plainIx i = true) (hc : notComp e = true ∨ True) :
    PS X (.Assign [.Subscript o i pos'] e pos) (tS X.K W fun ρ => withE (do let v ← r.e S e ρ; let a ← r.e S o ρ; let k ← r.e S i ρ; setIx a k v) ρ fun _ => pure (.next ρ)) := by
  have ha : ∀ v, assign (.Subscript o i pos') X.env v = (do
      let ov ← holding [v] (eval o X.env)
      let iv ← holding [v, ov] (eval i X.env)
      standAt pos'
      holding [v, ov, iv] (setItem ov iv v)
      release [v, ov, iv] []) := by
    intro v
    cases i <;> first | rfl | cases hp
  have hs : swapsWithSole [.Subscript o i pos'] e pos.line X.env = pure false := by
    cases e <;> rfl
  refine ps_imp (ps_asg (s.e X S W e g) (pg_sub (s.e X S W o g) (s.e X S W i g) set_list ha) hs (swapped_not rfl) rfl) fun D σ H ⟨p, ρ, h, r0, q⟩ => ?_
  have q2 : PO X.K (fun _ _ _ _ _ => True : Rl Unit Unit) (fun c d H' => W c d σ H') ((do let v ← r.e S e ρ; let a ← r.e S o ρ; let k ← r.e S i ρ; setIx a k v : M Unit) h) p h H (fun _ H1 => D.nx σ H1) :=
    (PF.withE (R := (fun _ _ _ _ _ => True : Rl Unit Unit)) r0 q).imp fun _ H1 ⟨p1, h1, _, r1, _, q1⟩ => q1 p1 H1 σ .refl r1
  refine ⟨p, ρ, h, r0, (PO.bind q2).imp fun y H1 ⟨p1, h1, v, s1, r1, v1, q3⟩ => ?_⟩
  have rs1 := r0.stp s1 r1
  refine ⟨p1, ρ, h1, rs1, (PO.bind q3).imp fun a H2 ⟨p2, h2, va, s2, r2, v2, q4⟩ => ?_⟩
  have rs2 := rs1.stp s2 r2
  refine ⟨p2, ρ, h2, rs2, (PO.bind q4).imp fun k H3 ⟨p3, h3, vk, s3, r3, v3, q5⟩ => ?_⟩
  have v2' := v2.mono s3
  have v1' := (v1.mono s2).mono s3
  unfold setIx at q5
  cases v2' with
  | @loc n b en =>
    cases v3 with
    | @int j =>
      dsimp only at q5
      cases hn : h3[n]? with
      | none => rw [hn] at q5; exact q5.elim
      | some ob =>
        rw [hn] at q5
        cases ob with
        | none => exact q5.elim
        | some ob =>
          cases ob with
          | lst l =>
            dsimp only at q5
            obtain ⟨b', eb, q6⟩ := r3.at_ n _ hn
            rw [en] at eb
            cases eb
            obtain ⟨xs, e1, sx⟩ := q6
            cases hj : ixN l.length j with
            | none => rw [hj] at q5; exact q5.elim
            | some jj =>
              rw [hj] at q5
              refine ⟨b, xs, j, jj, rfl, rfl, e1, by rw [← sx.length]; exact hj, ?_⟩
              have st := stp_set (o := HO.lst (xs.set jj y)) (u := Ob.lst (l.set jj v)) r3 hn en
              exact q5 p3 _ () st (rh_set r3 hn en ⟨_, rfl, (sx.set v1' jj).mono st⟩) True.intro
          | _ => exact q5.elim
    | _ => exact q5.elim
  | _ => exact q5.elim
/-! ### x op= e -/
def IpS (X : Cx) (op : Operator) (g : Hs → Val → Val → Option Val) : Prop := PIp X op fun x y H Q => ∃ p h va vb, RH X.K p h H ∧ RV X.K H p (Ow p h) va x ∧ RV X.K H p (Ow p h) vb y ∧ PV1 X.K p h H (g h va vb) Q
theorem augV_ok {op : Operator} {f : Hs → Val → Val → Option Val} (e : augV op = some f) : IpS X op f := by
  have go : ∀ {g : Int → Int → Int} {op : Operator}, PIp X op (ipI g) → IpS X op (intV (fun _ _ => true) g) := fun {g op} z => by
    intro pins s σ H x y v u Q I rx ry ⟨p, h, va, vb, r, ra, rb, q⟩
    refine z pins s σ H x y v u Q I rx ry ?_
    cases va with
    | int i =>
      cases vb with
      | int j => cases ra; cases rb; exact ⟨i, j, rfl, rfl, pv_here q r .int⟩
      | _ => exact q.elim
    | _ => exact False.elim q
  cases op <;> cases e
  · exact go ip_add
  · exact go ip_sub
theorem ps_augE (s : Snd T cl r) (g : Good T cl X S W) {x : Str} {op : Operator} {e : Expr} {pos pos' : Pos} {f : Hs → Val → Val → Option Val} (hx : stok S x = true) (hf : augV op = some f) :
    PS X (.AugAssign (.Name x pos') op e pos) (tS X.K W fun ρ => withE (do let v ← slotE S x ρ; let w ← r.e S e ρ; fun h => liftO (f h v w) h) ρ fun v h => (match slotOf S.N x with
      | some i => .ok (.next (ρ.set i (some v))) h
      | none => .bad)) := by
  obtain ⟨z1, z2⟩ := g.st x hx
  cases hi : slotOf S.N x with
  | none =>
    refine ⟨fun _ _ _ _ _ _ ⟨p, ρ, h, _, q⟩ => ?_⟩
    have e2 : (do let v ← slotE S x ρ; let w ← r.e S e ρ; fun h => liftO (f h v w) h : M Val) h = .bad := by
      show M.bind (slotE S x ρ) _ h = _
      unfold M.bind slotE
      rw [hi]
    unfold withE at q
    dsimp only at q
    rw [e2] at q
    exact q.elim
  | some i =>
    refine ps_imp (ps_aug g.nd (by rw [g.N]; exact slotOf_ok hi) z1 (s.e X S W e g) (augV_ok hf) z2) fun D σ H ⟨p, ρ, h, r0, q⟩ => ?_
    have q2 := PF.withE (R := RV X.K) r0 q
    have q3 : PO X.K (RV X.K) (fun c d H' => W c d σ H') ((slotE S x ρ >>= fun v => (do let w ← r.e S e ρ; fun h => liftO (f h v w) h : M Val)) h) p h H (fun y H1 => D.nx (σ.set i (some y)) H1) := q2.imp fun y H1 ⟨p1, h1, a, r1, v1, q1⟩ => q1 p1 H1 _ .refl (r1.set v1 i)
    rcases bind_split (m := slotE S x ρ) (f := fun v => (do let w ← r.e S e ρ; fun h => liftO (f h v w) h : M Val)) (h := h) rfl with ⟨v, h1, e1, e2⟩ | ⟨_, _, e1, e2⟩ | ⟨e1, e2⟩
    · rw [← e2] at q3
      unfold slotE at e1
      rw [hi] at e1
      dsimp only at e1
      cases eρ : ρ[i]? with
      | none => rw [eρ] at e1; cases e1
      | some o =>
        rw [eρ] at e1
        cases o with
        | none => cases e1
        | some w =>
          cases e1
          obtain ⟨y, ey, rv⟩ := r0.at_ i v eρ
          refine ⟨y, ey, p, ρ, h, r0, (PO.bind q3).imp fun z H2 ⟨p2, h2, vb, s2, r2, v2, q4⟩ => ?_⟩
          exact ⟨p2, h2, v, vb, r2, rv.mono s2, v2, po_lift q4⟩
    · unfold slotE at e1
      rw [hi] at e1
      dsimp only at e1
      split at e1 <;> cases e1
    · rw [e2] at q3; exact q3.elim
/-! ### one statement, a block -/
theorem step_1 (s : Snd T cl r) (X : Cx) (S : Sx) (W : WX) (st : Stmt) (g : Good T cl X S W) : PS X st (tS X.K W (step1 T cl r S st)) := by
  have hE := fun e => s.e X S W e g
  cases st with
  | Expr e pos =>
    by_cases h1 : isDoc e = true
    · have : step1 T cl r S (.Expr e pos) = fun ρ => pure (.next ρ) := by funext ρ; exact if_pos h1
      rw [this]; exact ps_docE h1
    · by_cases h2 : notComp e = true
      · have : step1 T cl r S (.Expr e pos) = fun ρ => withE (r.e S e ρ) ρ (fun _ => pure (.next ρ)) := by funext ρ; exact (if_neg h1).trans (if_pos h2)
        rw [this]; exact ps_exprS (hE e) (swaps_none h2)
      · have : step1 T cl r S (.Expr e pos) = fun _ => M.bad := by funext ρ; exact (if_neg h1).trans (if_neg h2)
        rw [this]; exact ps_bad
  | Return v pos =>
    cases v with
    | none => exact ps_retNS
    | some e => exact ps_retS (hE e)
  | Pass pos => exact ps_passS
  | Break pos => exact ps_breakS
  | Continue pos => exact ps_contS
  | If c a b pos => exact ps_ifS (s.t X S W c g) (s.x X S W a g) (s.x X S W b g)
  | For tg iter body els pos =>
    cases els with
    | cons _ _ => exact ps_bad
    | nil =>
      refine ps_ifc fun h => ?_
      cases et : tgt S tg with
      | none => exact ps_bad
      | some q =>
        obtain ⟨sl, f⟩ := q
        exact ps_forS g.pass g.calm (pi_iterE s g) (tgt_ok g et) (s.x X S W body g) (notSet_fold h)
  | While c body els pos =>
    cases els with
    | cons _ _ => exact ps_bad
    | nil => exact ps_whileS g.pass (s.t X S W c g) (s.x X S W body g)
  | Assign ts e pos =>
    match ts with
    | [t] =>
      cases t with
      | Name x p =>
        show PS X _ (tS X.K W fun ρ => if stok S x = true then _ else M.bad)
        refine ps_ifc fun hx => ?_
        cases hi : slotOf S.N x with
        | none => exact ps_bad
        | some i => exact ps_setE s g hx hi
      | Tuple es k p =>
        show PS X _ (tS X.K W fun ρ => if notTup e = true then _ else M.bad)
        refine ps_ifc fun hn => ?_
        cases et : tgt S (.Tuple es k p) with
        | none => exact ps_bad
        | some q =>
          obtain ⟨sl, f⟩ := q
          exact ps_asgS g (hE e) (tgt_ok g et) (by cases e <;> rfl) (swapped_none hn) rfl
      | Subscript o i p =>
        show PS X _ (tS X.K W fun ρ => if plainIx i = true then _ else M.bad)
        exact ps_ifc fun hn => ps_subS s g hn (.inr True.intro)
      | _ => exact ps_bad
    | [] => exact ps_bad
    | _ :: _ :: _ => exact ps_bad
  | AugAssign t op e pos =>
    cases t with
    | Name x p =>
      refine ps_ifc fun h => ?_
      obtain ⟨h1, h2⟩ := Bool.and_eq_true_iff.mp h
      cases hf : augV op with
      | none => exact ps_bad
      | some f => exact ps_augE s g h1 hf
    | _ => exact ps_bad
  | _ => exact ps_bad
theorem step_x (s : Snd T cl r) (X : Cx) (S : Sx) (W : WX) (g : Good T cl X S W) : ∀ l : List Stmt, PSs X l (tS X.K W (stepX T cl r S l))
  | [] => pss_nilS
  | st :: rest => pss_consS (step_1 s X S W st g) (step_x s X S W g rest)
end
theorem snd_step {T : Tb} {cl : Cl} {r : Evs} (s : Snd T cl r) : Snd T cl (stepEv T cl r) :=
  ⟨fun X S W e g => step_e s X S W e g, fun X S W e g => step_t s X S W e g, fun X S W l g => step_x s X S W g l⟩
theorem snd_N {T : Tb} {cl : Cl} : ∀ n, Snd T cl (evN T cl n)
  | 0 => ⟨fun _ _ _ _ _ => pe_bad, fun _ _ _ _ _ => pt_bad, fun _ _ _ _ _ => pss_bad⟩
  | n + 1 => snd_step (snd_N n)
end Ev

namespace Ev
open PySem PySem.Spec PyProof.Rows L2

/-! ### every def keeps its promise -/
structure DSt (K : PySem.W.Frag) (mg : Str → Option Value) (d : DefI) : Prop where
  fn : ∃ (x qual : Str) (params : Arguments) (dvs : List V) (kws : List (Str × V)) (fd : FuncData), FunD K x qual params d.body d.sc dvs kws (He.fAd K d.key) fd ∧
    ∀ j, j ≤ d.dfl.length → ∃ dvs ds, (∀ H p ow, RVs K H p ow (d.dfl.drop (d.dfl.length - j)) dvs) ∧ Vals dvs ds ∧ Binds K fd d.ps ds
  sc : FnScope d.N d.ps d.sc
  mg_ : d.key.2 = none → mg d.key.1 = some (.ref (He.fAd K d.key))
theorem rs_start {K : PySem.W.Frag} {p : Loc} {h : Hs} {H : Hp} {N : List Str} {args : List Val} {vs : List V} (r : RH K p h H) (s : RVs K H p (Ow p h) args vs) : RS K p h H (startR N args) (L2.start N vs) := by
  refine ⟨r, ?_, fun i v e => ?_⟩
  · unfold startR L2.start
    rw [List.length_append, List.length_append, List.length_map, List.length_map, List.length_replicate, List.length_replicate, s.length]
  · unfold startR at e
    unfold L2.start
    by_cases hi : i < args.length
    · rw [List.getElem?_append_left (by rw [List.length_map]; exact hi), List.getElem?_map] at e
      cases ea : args[i]? with
      | none => rw [ea] at e; cases e
      | some w =>
        rw [ea] at e
        cases e
        obtain ⟨x, ex, rv⟩ := s.get ea
        exact ⟨x, by rw [List.getElem?_append_left (by rw [List.length_map, ← s.length]; exact hi), List.getElem?_map, ex]; rfl, rv⟩
    · rw [List.getElem?_append_right (by rw [List.length_map]; omega), List.getElem?_replicate] at e
      split at e <;> cases e
theorem pf_end {K : PySem.W.Frag} {E : XK} {m : M Fl} {p : Loc} {h : Hs} {H : Hp} {Q : VK} (q : PO K (RV K) E (endF m h) p h H Q) : PF K (fun c d _ H' => E c d H') { nx := fun _ H' => Q .non H', rt := Q } (m h) p h H := by
  unfold endF at q
  cases e : m h with
  | bad => rw [e] at q; exact q
  | exc x h' => rw [e] at q; exact q
  | ok f h' =>
    rw [e] at q
    cases f with
    | next ρ => exact fun p' H' σ' s r => q p' H' .non s r.rh .non
    | brk ρ => exact q.elim
    | cont ρ => exact q.elim
    | ret v => exact q
    | rse x ρ => exact fun p' H' σ' c d s r rx => q p' H' c d s r.rh rx
theorem fn_one {T : Tb} {P : Program} {w : World} {K : PySem.W.Frag} {mg : Str → Option Value} {base : Heap} (tab : TOk T P w K mg) (hf : ∀ d ∈ T.defs, findD T.defs d.key = some d) (k : Nat) (ih : ∀ d ∈ T.defs, DOk P w K mg base k (callN T k) d)
    {d : DefI} (hd : d ∈ T.defs) (S : FnScope d.N d.ps d.sc) {x qual : Str} {params : Arguments} {dvs : List V} {kws : List (Str × V)} {fd : FuncData} (F : FunD K x qual params d.body d.sc dvs kws (He.fAd K d.key) fd) :
    FnOk P w K mg base (L2.CX P w) (k + 1) (He.fAd K d.key) fd d.ps (spOf K d.ps.length (callN T (k + 1) d.key)) := by
  refine F.ok S (fun vs H Q E q => q.1) (fun cdv A outer s H vs Q E hr q => ?_)
  obtain ⟨hl, p, h, args, rh, rv, q⟩ := q
  have e : callN T (k + 1) d.key args = runD T (callN T k) d args := by
    show (match findD T.defs d.key with
      | some d => runD T (callN T k) d args
      | none => M.bad) = _
    rw [hf d hd]
  rw [e] at q
  unfold runD at q
  by_cases ha : args.length = d.ps.length
  · rw [if_pos ha] at q
    refine ⟨_, (snd_N 60).x (cxOf (L2.CX P w) P w K mg base d.N qual d.sc (He.fAd K d.key) cdv A outer s H E) ⟨d.N, d.sc, d.sc⟩ (fun c dx _ H' => E c dx H') d.body ?_, p, startR d.N args, h, rs_start rh rv, pf_end q⟩
    refine ⟨rfl, S.nd, rfl, fun y hy => ?_, rfl, passes_of rfl, takes_of rfl rfl rfl rfl, hr.units, tab, k, hr, ih⟩
    refine ⟨?_, .inl rfl⟩
    have hy : (match d.sc.names.lookup y with
      | some .local => true
      | some .cell => true
      | _ => false) = true := hy
    show d.sc.names.lookup y = some .local ∨ d.sc.names.lookup y = some .cell
    cases hk : d.sc.names.lookup y with
    | none => rw [hk] at hy; cases hy
    | some kk =>
      rw [hk] at hy
      cases kk with
      | «local» => exact .inl rfl
      | cell => exact .inr rfl
      | _ => cases hy
  · rw [if_neg ha] at q; exact q.elim
theorem fn_all {T : Tb} {P : Program} {w : World} {K : PySem.W.Frag} {mg : Str → Option Value} {base : Heap} (tab : TOk T P w K mg) (hf : ∀ d ∈ T.defs, findD T.defs d.key = some d) (st : ∀ d ∈ T.defs, DSt K mg d) : ∀ k, ∀ d ∈ T.defs, DOk P w K mg base k (callN T k) d
  | 0, d, hd => by
    obtain ⟨x, qual, params, dvs, kws, fd, F, hb⟩ := (st d hd).fn
    refine ⟨⟨fd, ⟨fun vs H Q E q => q.1, fun A outer s H args us vs Q E _ _ _ _ q => ?_⟩, hb⟩, F.kp, (st d hd).mg_⟩
    obtain ⟨_, p, h, args, _, _, q⟩ := q
    exact q.elim
  | k + 1, d, hd => by
    obtain ⟨x, qual, params, dvs, kws, fd, F, hb⟩ := (st d hd).fn
    exact ⟨⟨fd, fn_one tab hf k (fn_all (base := base) tab hf st k) hd (st d hd).sc F, hb⟩, F.kp, (st d hd).mg_⟩
/-! ### the Hook: whatever is to be known of the fragment, as one truth -/
def obsC (chk : PySem.W.Frag → Bool) (fn : List He.DefD) (K : PySem.W.Frag) : He.AlD := (chk K && fn.all fun d => d.ok K, fn.map fun d => He.fnW K d.at_)
def SaysC (chk : PySem.W.Frag → Bool) (fn : List He.DefD) (K : PySem.W.Frag) : Prop := obsC chk fn K = He.valD fn
def obsCG (n : Nat) (chk : PySem.W.Frag → Bool) (fn : List He.DefD) (g : Addr → Option Obj) : He.AlD := obsC chk fn (He.frG g (He.asD g n))
def hookC (n : Nat) (chk : PySem.W.Frag → Bool) (fn : List He.DefD) : PySem.W.Hook where
  α := He.AlD
  obs := fun s => obsCG n chk fn s.heap.get?
  val := fun _ => He.valD fn
  says := fun _ h => ∃ K : PySem.W.Frag, K.In h ∧ SaysC chk fn K
  of := fun _ _ e => ⟨_, He.frG_in, e⟩
  keeps := fun _ _ _ ⟨K, hK, c⟩ k => ⟨K, PySem.W.Frag.In.keeps hK k, c⟩
theorem obsCG_eq {n : Nat} {chk : PySem.W.Frag → Bool} {fn : List He.DefD} {g : Addr → Option Obj} {s : Shared} (h : ∀ a, g a = s.heap.get? a) : obsCG n chk fn g = (hookC n chk fn).obs s := by
  have e : g = s.heap.get? := funext h
  rw [e] <;> rfl
section
variable {chk : PySem.W.Frag → Bool} {fn : List He.DefD} {K : PySem.W.Frag}
theorem SaysC.chk_ (c : SaysC chk fn K) : chk K = true := (He.ba (show (chk K && fn.all fun d => d.ok K) = true from congrArg (fun z : He.AlD => z.1) c)).1
theorem SaysC.def_ (c : SaysC chk fn K) {i : Nat} {d : He.DefD} (h : fn[i]? = some d) : ∃ fd, FunD K d.name d.qual d.params d.body d.scope (d.dvs K) (d.kws K) (He.fAd K d.at_) fd := by
  have c2 := (He.ba (show (chk K && fn.all fun d => d.ok K) = true from congrArg (fun z : He.AlD => z.1) c)).2
  have e : fn.map (fun d => He.fnW K d.at_) = fn.map He.DefD.val := congrArg (fun z : He.AlD => z.2) c
  have e2 : (fn.map fun d => He.fnW K d.at_)[i]? = (fn.map He.DefD.val)[i]? := by rw [e]
  rw [List.getElem?_map, List.getElem?_map, h] at e2
  exact He.DefD.funD (Option.some.inj e2) (List.all_eq_true.mp c2 d (List.mem_of_getElem? h))
end
/-! ### the law's end -/
theorem rvs_ints {K : PySem.W.Frag} {H : Hp} {p : Loc} {ow : Addr → Prop} : ∀ ns : List Int, RVs K H p ow (ns.map Val.int) (ns.map V.int)
  | [] => .nil
  | _ :: ns => .cons .int (rvs_ints ns)
theorem law_sp {K : PySem.W.Frag} {g : List Val → M Val} {H : Hp} {a : Addr} {ns : List Int} (hS : SqL K H a (ns.map V.int)) (he : ∃ h', g [.scr (ns.map Val.int)] [] = .ok (.bl true) h') : spOf K 1 g [.ref a] H (fun v _ => v = .bl true) fun _ _ _ => False := by
  obtain ⟨h', e⟩ := he
  refine ⟨rfl, ⟨[], fun _ => False⟩, [], [.scr (ns.map Val.int)], ⟨rfl, fun _ _ _ e => by simp at e, fun _ _ e => by simp at e, fun _ z => z.elim, fun _ _ z => z.elim, fun n o e => by simp at e⟩, .cons (.scr ?_ (rvs_ints ns)) .nil, ?_⟩
  · rcases hS with hS | hS
    · refine .inl ⟨hS, ?_⟩
      rintro (⟨n, o, e1, _⟩ | z)
      · simp at e1
      · exact z
    · exact .inr hS
  · rw [e]
    intro p' H' x s r v
    cases v
    rfl
end Ev

namespace Ev
open PySem PySem.Spec PyProof.Rows L2

/-! ### the table, looked up in the head's fragment -/
mutual
def cvB (K : PySem.W.Frag) : Val → Value → Bool
  | .non, .none => true
  | .bl b, .bool c => b == c
  | .int i, .int j _ => decide (i = j)
  | .str x, .str y _ => decide (x = y)
  | .ty n, .type m => decide (n = m)
  | .glo x, .ref a => decide (He.ga K x = a)
  | .tup l, .ref a => (match K.lookup a with
    | some ⟨.type c, _, .seq its _, _⟩ => decide (c = "tuple") && (decide (its.size ≤ sizeLine) && cvsB K l its.toList)
    | _ => false)
  | .scr l, .ref a => (match K.lookup a with
    | some ⟨.type c, none, .seq its _, _⟩ => decide (c = "list") && (decide (its.size ≤ sizeLine) && cvsB K l its.toList)
    | _ => false)
  | _, _ => false
def cvsB (K : PySem.W.Frag) : List Val → List Value → Bool
  | [], [] => true
  | v :: vs, u :: us => cvB K v u && cvsB K vs us
  | _, _ => false
end
theorem and2 {a b : Bool} (h : (a && b) = true) : a = true ∧ b = true := Bool.and_eq_true_iff.mp h
mutual
theorem cvB_ok {K : PySem.W.Frag} : ∀ {v : Val} {u : Value}, cvB K v u = true → ∃ x, RelV x u ∧ ∀ H p ow, RV K H p ow v x
  | .non, u, h => by
    cases u with
    | none => exact ⟨.non, rfl, fun _ _ _ => .non⟩
    | _ => exact absurd h (by unfold cvB; exact Bool.false_ne_true)
  | .bl b, u, h => by
    cases u with
    | bool c =>
      have e : b = c := by
        unfold cvB at h
        exact eq_of_beq h
      exact ⟨.bl b, by rw [e]; rfl, fun _ _ _ => .bl⟩
    | _ => exact absurd h (by unfold cvB; exact Bool.false_ne_true)
  | .int i, u, h => by
    cases u with
    | int j t =>
      have e : i = j := by
        unfold cvB at h
        exact of_decide_eq_true h
      exact ⟨.int i, ⟨t, by rw [e]⟩, fun _ _ _ => .int⟩
    | _ => exact absurd h (by unfold cvB; exact Bool.false_ne_true)
  | .str i, u, h => by
    cases u with
    | str j t =>
      have e : i = j := by
        unfold cvB at h
        exact of_decide_eq_true h
      exact ⟨.str i, ⟨t, by rw [e]⟩, fun _ _ _ => .str⟩
    | _ => exact absurd h (by unfold cvB; exact Bool.false_ne_true)
  | .ty i, u, h => by
    cases u with
    | type j =>
      have e : i = j := by
        unfold cvB at h
        exact of_decide_eq_true h
      exact ⟨.ty i, by rw [e]; rfl, fun _ _ _ => .ty⟩
    | _ => exact absurd h (by unfold cvB; exact Bool.false_ne_true)
  | .glo x, u, h => by
    cases u with
    | ref j =>
      have e : He.ga K x = j := by
        unfold cvB at h
        exact of_decide_eq_true h
      exact ⟨.ref (He.ga K x), by rw [e]; rfl, fun _ _ _ => .glo⟩
    | _ => exact absurd h (by unfold cvB; exact Bool.false_ne_true)
  | .tup l, u, h => by
    cases u with
    | ref a =>
      unfold cvB at h
      cases q : K.lookup a with
      | none => rw [q] at h; cases h
      | some o =>
        obtain ⟨oc, od, dt, osl⟩ := o
        rw [q] at h
        cases oc with
        | type c =>
          cases dt with
          | seq its n =>
            obtain ⟨h1, h2⟩ := and2 h
            obtain ⟨h3, h4⟩ := and2 h2
            obtain ⟨xs, r1, r2⟩ := cvsB_ok h4
            exact ⟨.ref a, rfl, fun H p ow => .tup (.inr ⟨_, its, n, q, congrArg Value.type (of_decide_eq_true h1), rfl, of_decide_eq_true h3, r1⟩) (r2 H p ow)⟩
          | _ => cases h
        | _ => cases dt <;> cases h
    | _ => exact absurd h (by unfold cvB; exact Bool.false_ne_true)
  | .scr l, u, h => by
    cases u with
    | ref a =>
      unfold cvB at h
      cases q : K.lookup a with
      | none => rw [q] at h; cases h
      | some o =>
        obtain ⟨oc, od, dt, osl⟩ := o
        rw [q] at h
        cases oc with
        | type c =>
          cases od with
          | none =>
            cases dt with
            | seq its n =>
              obtain ⟨h1, h2⟩ := and2 h
              obtain ⟨h3, h4⟩ := and2 h2
              obtain ⟨xs, r1, r2⟩ := cvsB_ok h4
              exact ⟨.ref a, rfl, fun H p ow => .scr (.inr ⟨_, its, n, q, congrArg Value.type (of_decide_eq_true h1), rfl, rfl, of_decide_eq_true h3, r1⟩) (r2 H p ow)⟩
            | _ => cases h
          | some _ => cases dt <;> cases h
        | _ => cases od <;> cases dt <;> cases h
    | _ => exact absurd h (by unfold cvB; exact Bool.false_ne_true)
  | .lst l, u, h => absurd h (by unfold cvB; exact Bool.false_ne_true)
  | .dct _ _, u, h => absurd h (by unfold cvB; exact Bool.false_ne_true)
  | .obj _ _ _, u, h => absurd h (by unfold cvB; exact Bool.false_ne_true)
  | .loc _, u, h => absurd h (by unfold cvB; exact Bool.false_ne_true)
theorem cvsB_ok {K : PySem.W.Frag} : ∀ {vs : List Val} {us : List Value}, cvsB K vs us = true → ∃ xs, Vals xs us ∧ ∀ H p ow, RVs K H p ow vs xs
  | [], [], _ => ⟨[], .nil, fun _ _ _ => .nil⟩
  | [], _ :: _, h => absurd h (by unfold cvsB; exact Bool.false_ne_true)
  | _ :: _, [], h => absurd h (by unfold cvsB; exact Bool.false_ne_true)
  | v :: vs, u :: us, h => by
    unfold cvsB at h
    obtain ⟨h1, h2⟩ := and2 h
    obtain ⟨x, a1, a2⟩ := cvB_ok h1
    obtain ⟨xs, b1, b2⟩ := cvsB_ok h2
    exact ⟨x :: xs, .cons a1 b1, fun H p ow => .cons (a2 H p ow) (b2 H p ow)⟩
end
def globB (K : PySem.W.Frag) (q : Str × Val) : Bool := match PySem.W.nsIn K mainGlobals q.1 with
  | some (some u) => cvB K q.2 u
  | _ => false
def freeB (K : PySem.W.Frag) (x : Str) : Bool := He.eqO (PySem.W.nsIn K mainGlobals x) (some none)
def insB (K : PySem.W.Frag) (c : Str) : Bool := (He.Fa.cls c).ok K && (He.eqO (PySem.W.findIn K (.ref (He.ga K c)) "__class__") (some (some (.builtin "object.__class__"))) &&
  (He.eqO (PySem.W.specialIn K (.builtin "object.__class__") "__get__") (some (some (.builtin "getset_descriptor.__get__"))) && (decide (PySem.W.takesIn K (.builtin "object.__class__") = some true) && decide (PySem.W.mroIn K (He.ga K c) (.type "object") = some true))))
def kitB1 (K : PySem.W.Frag) (q : (Tag × Tag) × Bool) : Bool := decide (PySem.W.kitOne K (q.1.1.v K) (q.1.2.v K) = some q.2)
def defB (K : PySem.W.Frag) (d : DefI) : Bool := match d.key.2 with
  | none => He.eqO (PySem.W.nsIn K mainGlobals d.key.1) (some (some (.ref (He.ga K d.key.1))))
  | some _ => true
def chkT (T : Tb) (K : PySem.W.Frag) : Bool := T.glob.all (globB K) && (T.free.all (freeB K) && (T.kits.own.all (insB K) && (T.kits.kit.all (kitB1 K) && T.defs.all (defB K))))
theorem tag_beq {t u : Tag} (h : (t == u) = true) : t = u := by
  cases t with
  | inl a => cases u with
    | inl b => exact congrArg _ (eq_of_beq (show (a == b) = true from h))
    | inr b => exact absurd (show (false : Bool) = true from h) Bool.false_ne_true
  | inr a => cases u with
    | inl b => exact absurd (show (false : Bool) = true from h) Bool.false_ne_true
    | inr b => exact congrArg _ (eq_of_beq (show (a == b) = true from h))
theorem kit_mem : ∀ {l : List ((Tag × Tag) × Bool)} {t u : Tag} {v : Bool}, l.lookup (t, u) = some v → ((t, u), v) ∈ l
  | [], _, _, _, e => by cases e
  | ((y, z), w) :: l, t, u, v, e => by
    rw [List.lookup_cons] at e
    cases q : (t, u) == (y, z) with
    | true =>
      rw [q] at e
      cases e
      have q : (t == y && u == z) = true := q
      obtain ⟨q1, q2⟩ := and2 q
      rw [tag_beq q1, tag_beq q2]
      exact List.mem_cons_self
    | false => rw [q] at e; exact List.mem_cons_of_mem _ (kit_mem e)
theorem lookup_mem {α β : Type} [BEq α] [LawfulBEq α] : ∀ {l : List (α × β)} {x : α} {v : β}, l.lookup x = some v → (x, v) ∈ l
  | [], _, _, e => by cases e
  | (y, u) :: l, x, v, e => by
    rw [List.lookup_cons] at e
    cases q : x == y with
    | true => rw [q] at e; cases e; rw [eq_of_beq q]; exact List.mem_cons_self
    | false => rw [q] at e; exact List.mem_cons_of_mem _ (lookup_mem e)
section
variable {T : Tb} {P : Program} {w : World} {K : PySem.W.Frag} {h : Heap} {mg : Str → Option Value}
theorem chkT_ok (c : chkT T K = true) (X : K.In h) (G : h.Ns mainGlobals mg) : TOk T P w K mg ∧ ∀ d ∈ T.defs, d.key.2 = none → mg d.key.1 = some (.ref (He.fAd K d.key)) := by
  unfold chkT at c
  obtain ⟨c1, c⟩ := and2 c
  obtain ⟨c2, c⟩ := and2 c
  obtain ⟨c3, c⟩ := and2 c
  obtain ⟨c4, c5⟩ := and2 c
  refine ⟨⟨fun x v e => ?_, fun x e => ?_, ⟨fun c hc => ?_, fun t u b e => ?_⟩⟩, fun d hd hk => ?_⟩
  · have q := List.all_eq_true.mp c1 (x, v) (lookup_mem e)
    unfold globB at q
    cases e1 : PySem.W.nsIn K mainGlobals x with
    | none => dsimp only at q; rw [e1] at q; cases q
    | some o =>
      dsimp only at q
      rw [e1] at q
      cases o with
      | none => cases q
      | some u =>
        obtain ⟨xv, r1, r2⟩ := cvB_ok q
        exact ⟨xv, u, PySem.W.mg_of X G e1, r1, r2⟩
  · exact PySem.W.mg_none_of X G (He.eqO_ok (List.all_eq_true.mp c2 x (List.contains_iff_mem.mp e)))
  · obtain ⟨k1, q⟩ := and2 (List.all_eq_true.mp c3 c hc)
    obtain ⟨k2, q⟩ := and2 q
    obtain ⟨k3, q⟩ := and2 q
    obtain ⟨k4, k5⟩ := and2 q
    exact ⟨He.cls_ok k1, He.eqO_ok k2, He.eqO_ok k3, of_decide_eq_true k4, of_decide_eq_true k5⟩
  · exact of_decide_eq_true (List.all_eq_true.mp c4 ((t, u), b) (kit_mem e))
  · have q := List.all_eq_true.mp c5 d hd
    unfold defB at q
    obtain ⟨⟨x, m⟩, ps, N, dfl, sc, body⟩ := d
    have hk : m = none := hk
    subst hk
    exact PySem.W.mg_of X G (He.eqO_ok q)
end
/-! ### a def out of the head -/
def dvV : He.Dv → Val
  | .non => .non
  | .bl b => .bl b
  | .int i => .int i
  | .str x => .str x
  | .ty n => .ty n
  | .glo x => .glo x
  | _ => .non
def dvOk : He.Dv → Bool
  | .byt _ => false
  | .flt _ => false
  | .adr _ => false
  | _ => true
theorem dv_ok {K : PySem.W.Frag} {H : Hp} {p : Loc} {ow : Addr → Prop} : ∀ {l : List He.Dv}, l.all dvOk = true → RVs K H p ow (l.map dvV) (l.map (He.Dv.v K))
  | [], _ => .nil
  | d :: l, h => by
    obtain ⟨h1, h2⟩ := and2 (show (dvOk d && l.all dvOk) = true from h)
    refine .cons ?_ (dv_ok h2)
    cases d with
    | non => exact .non
    | bl => exact .bl
    | int => exact .int
    | str => exact .str
    | ty => exact .ty
    | glo => exact .glo
    | _ => cases h1
/-- one def as the text has it -/
structure Dc where
  key : Str × Option Str
  name : Str
  qual : Str
  st : Stmt
  ps : List Str
  N : List Str
  dv : List He.Dv
def Dc.i (d : Dc) : DefI := ⟨d.key, d.ps, d.N, d.dv.map dvV, defScope d.st, defBody d.st⟩
def Dc.h (d : Dc) : He.DefD := ⟨d.key, d.name, d.qual, defArgs d.st, defBody d.st, defScope d.st, d.dv, []⟩
/-- how a def binds what it is called with -/
def BindN (d : Dc) : Prop := d.dv = [] ∧ ∀ (kV doc pm : Value) (an : Option Addr) (cdv ct : Value) (us : List Value), us.length = d.ps.length →
  bindArgs (PySem.W.fnOf d.name d.qual (defArgs d.st) (defBody d.st) (defScope d.st) .none kV doc pm an cdv ct) ⟨us, []⟩ = pure (d.ps.zip us)
def BindD (d : Dc) : Prop := d.dv ≠ [] ∧ d.dv.length ≤ d.ps.length ∧ ∀ j, j ≤ d.dv.length → ∀ (A : Addr) (kV doc pm : Value) (an : Option Addr) (cdv ct : Value) (us its : List Value), us.length = d.ps.length - j → its.length = d.dv.length →
  ∃ k, bindArgs (PySem.W.fnOf d.name d.qual (defArgs d.st) (defBody d.st) (defScope d.st) (.ref A) kV doc pm an cdv ct) ⟨us, []⟩ = seqItems? (.ref A) >>= k ∧ k (some its.toArray) = pure (d.ps.zip (us ++ its.drop (d.dv.length - j)))
structure DcOk (d : Dc) : Prop where
  dv : d.dv.all dvOk = true
  bind : BindN d ∨ BindD d
  sc : FnScope d.N d.ps (defScope d.st)
section
variable {chk : PySem.W.Frag → Bool} {ds : List Dc} {K : PySem.W.Frag} {mg : Str → Option Value}
theorem dst_of (c : SaysC chk (ds.map Dc.h) K) (hm : ∀ d ∈ ds, d.key.2 = none → mg d.key.1 = some (.ref (He.fAd K d.key))) (ok : ∀ d ∈ ds, DcOk d) : ∀ d ∈ ds.map Dc.i, DSt K mg d := by
  intro e he
  obtain ⟨d, hd, rfl⟩ := List.mem_map.mp he
  obtain ⟨i, hi⟩ := List.mem_iff_getElem?.mp hd
  obtain ⟨fd, F⟩ := c.def_ (i := i) (d := d.h) (by rw [List.getElem?_map, hi]; rfl)
  have o := ok d hd
  refine ⟨⟨_, _, _, _, _, fd, F, fun j hj => ?_⟩, o.sc, fun hk => hm d hd hk⟩
  have hlen : d.i.dfl.length = d.dv.length := by
    show (d.dv.map dvV).length = _
    rw [List.length_map]
  rw [hlen] at hj
  rcases o.bind with ⟨h0, hb⟩ | ⟨h0, h1, hb⟩
  · have hd0 : d.i.dfl = [] := by
      show d.dv.map dvV = []
      rw [h0]; rfl
    refine ⟨[], [], fun H p ow => ?_, .nil, ?_⟩
    · rw [hd0, List.drop_nil]; exact .nil
    · have F2 : FunD K d.name d.qual (defArgs d.st) (defBody d.st) (defScope d.st) [] [] (He.fAd K d.key) fd := by
        have := F
        have e0 : d.h.dvs K = [] := by
          show d.dv.map _ = []
          rw [h0]; rfl
        rw [e0] at this
        exact this
      exact F2.bindsN hb
  · have hl2 : (d.h.dvs K).length = d.dv.length := by
      show (d.dv.map (He.Dv.v K)).length = _
      rw [List.length_map]
    have hne : d.h.dvs K ≠ [] := by
      intro e
      rw [e] at hl2
      exact h0 (List.eq_nil_of_length_eq_zero hl2.symm)
    obtain ⟨ds', v, b⟩ := FunD.binds1 F (ps := d.ps) (d.ps.length - j) (d.dv.length - j) hne (by rw [hl2]; omega) (fun A kV doc pm an cdv ct us its hu hi => hb j hj A kV doc pm an cdv ct us its hu (by rw [hi, hl2]))
    refine ⟨_, ds', fun H p ow => ?_, v, b⟩
    rw [hlen]
    exact (dv_ok o.dv).drop _
end
theorem all_nil {α : Type} {P : α → Prop} : ∀ d ∈ ([] : List α), P d := fun _ h => by cases h
theorem all_cons {α : Type} {P : α → Prop} {a : α} {l : List α} (h : P a) (t : ∀ d ∈ l, P d) : ∀ d ∈ a :: l, P d := fun d hd => by
  rcases List.mem_cons.mp hd with e | e
  · rw [e]; exact h
  · exact t d e
theorem all_app {α : Type} {P : α → Prop} {l m : List α} (h : ∀ d ∈ l, P d) (t : ∀ d ∈ m, P d) : ∀ d ∈ l ++ m, P d := fun d hd => by
  rcases List.mem_append.mp hd with e | e
  · exact h d e
  · exact t d e
theorem findD_nodup : ∀ {l : List DefI}, (l.map DefI.key).Nodup → ∀ e ∈ l, findD l e.key = some e
  | [], _, _, h => by cases h
  | d :: l, hn, e, h => by
    rw [List.map_cons, List.nodup_cons] at hn
    unfold findD
    rcases List.mem_cons.mp h with q | q
    · rw [q, if_pos rfl]
    · by_cases hk : d.key = e.key
      · exact absurd (by rw [hk]; exact List.mem_map_of_mem q) hn.1
      · rw [if_neg hk]
        exact findD_nodup hn.2 e q
theorem callN_eq {T : Tb} {k : Nat} {key : Str × Option Str} {d : DefI} (e : findD T.defs key = some d) (args : List Val) : callN T (k + 1) key args = runD T (callN T k) d args := by
  show (match findD T.defs key with
    | some d => runD T (callN T k) d args
    | none => M.bad) = _
  rw [e]
/-! ### the law -/
theorem cx_none {P : Program} {w : World} {H : Hp} {s : Shared} {e : Value} {s' : Shared} : L2.CX P w [] H s (fun _ _ _ => False) e s' → False := by
  rintro ⟨a, B, H', cls, d, _, _, _, _, _, _, _, q⟩
  exact q
theorem law_ofC {l : PySem.W.OpenLaw} {k : Nat} {q : Program} {loose : List Str} {XP : (Str → Option Value) → Heap → Prop} {d : DefRec} {x : Str} {T : Tb} {ds : List Dc} {nm : Str}
    (hn : l.most = some 63) (hdf : d.params.defaults = []) (hr : Room (k + 1) callerA) (hT : T.defs = ds.map Dc.i) (hf : ∀ e ∈ T.defs, findD T.defs e.key = some e) (ok : ∀ e ∈ ds, DcOk e)
    (dl : Dc) (hdl : dl ∈ ds) (hkey : dl.key = (nm, none)) (hps : dl.ps = [x]) (hdv : dl.dv = []) (hnm : d.name = nm)
    (hlaw : ∀ ns : List Int, ns.length ≤ 63 → ∃ h', callN T (k + 1) (nm, none) [.scr (ns.map Val.int)] [] = .ok (.bl true) h') :
    PySem.W.WalkO q loose XP (fun w h => ∃ K : PySem.W.Frag, K.In h ∧ SaysC (chkT T) (ds.map Dc.h) K) l.row.toRowW d [] (fun f vs => PySem.call f vs) := by
  refine Att.attach_call hn hdf fun w s₀ s₁ mg mb fa o pm cd doc a vs ns G Y ho hd hcd hmg hobj hints hlen hg => ?_
  obtain ⟨K, KX, c⟩ := Y
  obtain ⟨fd0, F0⟩ := (fun i hi => c.def_ (i := i) (d := dl.h) (by rw [List.getElem?_map, hi]; rfl) : ∀ i, ds[i]? = some dl → _) _ (List.mem_iff_getElem?.mp hdl).choose_spec
  have key0 : He.fAd K dl.key = fa := by
    have e := (chkT_ok (P := l.prog) (w := w) c.chk_ KX G.T.g).2 dl.i (by rw [hT]; exact List.mem_map_of_mem hdl) (by show dl.key.2 = none; rw [hkey])
    have e1 : mg dl.key.1 = some (.ref (He.fAd K dl.key)) := e
    rw [hkey] at e1
    rw [hnm] at hmg
    rw [hkey]
    rw [hmg] at e1
    cases e1
    rfl
  refine law_call (CX := L2.CX l.prog w) KX G.T.g G.T.b G.T.builtins G.T.nolimit hg hobj hints (Nat.le_trans hlen (by decide)) (k := k + 1) (sp := spOf K 1 (callN T (k + 1) (nm, none))) (fd := fd0) (x := x) hr (fun base B1 B2 => ?_) (fun s u => ?_) (fun H hO hS => law_sp hS (hlaw ns hlen)) fun H e s' => cx_none
  · obtain ⟨t1, t2⟩ := chkT_ok (P := l.prog) (w := w) c.chk_ B1 B2
    have st : ∀ d ∈ T.defs, DSt K mg d := by
      rw [hT]
      exact dst_of c (fun e he => t2 e.i (by rw [hT]; exact List.mem_map_of_mem he)) ok
    have := fn_one (base := base) t1 hf k (fn_all t1 hf st k) (d := dl.i) (by rw [hT]; exact List.mem_map_of_mem hdl) (ok dl hdl).sc F0
    have e1 : dl.i.ps.length = 1 := by
      show dl.ps.length = 1
      rw [hps]; rfl
    rw [show dl.i.ps = [x] from hps, show He.fAd K dl.i.key = fa from key0, show dl.i.key = (nm, none) from hkey] at this
    exact this
  · have F1 := F0
    rw [show dl.h.dvs K = [] from by show dl.dv.map _ = []; rw [hdv]; rfl] at F1
    rcases (ok dl hdl).bind with ⟨_, hb⟩ | ⟨h0, _⟩
    · have := FunD.bindsA (ps := dl.ps) F1 hb s [u] (by rw [hps]; rfl)
      rw [hps] at this
      exact this
    · exact absurd hdv h0
end Ev

namespace Ev
open PySem PySem.Spec PyProof.Rows L2

/-! ### the words that a def's mirror is written in -/
def varE (ρ : Rho) (i : Nat) : M Val := fun h => match ρ[i]? with
  | some (some v) => .ok v h
  | _ => .bad
def kE (v : Val) : M Val := pure v
def tyE (n : String) : M Val := liftO (some (.ty n))
def binE (g : Hs → Val → Val → Option Val) (a b : M Val) : M Val := do let x ← a; let y ← b; fun h => liftO (g h x y) h
def notE (a : M Val) : M Val := do let v ← a; let k ← (fun h => liftB (truV h v) h : M Bool); pure (.bl (!k))
def negV : Val → Option Val
  | .int i => some (.int (-i))
  | _ => none
def negE (a : M Val) : M Val := do let v ← a; liftO (negV v)
def andE (a b : M Val) : M Val := do let v ← a; let k ← (fun h => liftB (truV h v) h : M Bool); (match k with | true => b | false => pure v)
def orE (a b : M Val) : M Val := do let v ← a; let k ← (fun h => liftB (truV h v) h : M Bool); (match k with | true => pure v | false => b)
def cmpE (op : CmpOp) (a b : M Val) : M Val := do let x ← a; let y ← b; fun h => liftO (cmpV op h x y) h
def cmp2E (a : M Val) (op op' : CmpOp) (b c : M Val) : M Val := do
  let x ← a
  let y ← b
  let k ← (fun h => liftO (cmpV op h x y) h : M Val)
  match k with
  | .bl true => do let z ← c; fun h => liftO (cmpV op' h y z) h
  | .bl false => pure (.bl false)
  | _ => M.bad
def iteE (c : M Bool) (a b : M Val) : M Val := do let k ← c; if k = true then a else b
def evs : List (M Val) → M (List Val)
  | [] => pure []
  | e :: es => do let v ← e; let vs ← evs es; pure (v :: vs)
def lstE (es : List (M Val)) : M Val := do let vs ← evs es; liftO (if vs.length ≤ sizeLine then some (.lst vs) else none)
def newE (es : List (M Val)) : M Val := do let vs ← evs es; allocL vs
def tupE (es : List (M Val)) : M Val := do let vs ← evs es; liftO (if vs.length ≤ sizeLine then some (.tup vs) else none)
def ixE (a b : M Val) : M Val := do let x ← a; let y ← b; fun h => liftO (ixV h x y) h
def intO : Val → Option Int
  | .int i => some i
  | _ => none
def partO : Option (M Val) → M (Option Int)
  | none => pure none
  | some m => do let v ← m; (match v with | .int i => pure (some i) | _ => M.bad)
def slE (a : M Val) (lo hi : Option (M Val)) : M Val := do let x ← a; let l ← partO lo; let u ← partO hi; fun h => liftO (slV h x l u) h
def callF (cl : Cl) (d : DefI) (es : List (M Val)) : M Val := do let vs ← evs es; callD cl d vs
def bltE (g : Hs → List Val → Option Val) (es : List (M Val)) : M Val := do let vs ← evs es; fun h => liftO (g h vs) h
def rng1 : List Val → Option (List Val)
  | [a] => rngV [a]
  | _ => none
def rng2 : List Val → Option (List Val)
  | [a, b] => rngV [a, b]
  | _ => none
def rngI (es : List (M Val)) : M (List Val) := do let vs ← evs es; liftO (match vs with | [_] => rngV vs | _ => none)
def rngI2 (es : List (M Val)) : M (List Val) := do let vs ← evs es; liftO (match vs with | [_, _] => rngV vs | _ => none)
def seqI (a : M Val) : M (List Val) := do let v ← a; liftO (walkOf v)
def lcF (f : TgF) (it : M (List Val)) (c : Rho → M Bool) (e : Rho → M Val) (ρ : Rho) (sl : List Nat) : M Val := do let l ← it; lcM f c e (wipeR ρ sl) l
/-- methods, dicts -/
def metV (x : Val) (m : Str) (es : List (M Val)) : M Val := fun h => match tyO h x with
    | some t => (match mtab t m with
      | some g => (do let vs ← evs es; noX (g x vs) : M Val) h
      | none => .bad)
    | none => .bad
def metE (o : M Val) (m : Str) (es : List (M Val)) : M Val := do let x ← o; metV x m es
def dctE (ms : List PrM) (r : Rho) : M Val := dispM ms r
def newD : M Val := fun h => .ok (.loc h.length) (h ++ [some (.dct [])])
/-- tests -/
def truT (a : M Val) : M Bool := do let v ← a; fun h => liftB (truV h v) h
def notT (a : M Bool) : M Bool := do let k ← a; pure (!k)
def andT (a b : M Bool) : M Bool := do let k ← a; (match k with | true => b | false => pure false)
def orT (a b : M Bool) : M Bool := do let k ← a; (match k with | true => pure true | false => b)
def cmpT (op : CmpOp) (a b : M Val) : M Bool := toB (cmpE op a b)
def cmp2T (a : M Val) (op op' : CmpOp) (b c : M Val) : M Bool := toB (cmp2E a op op' b c)
/-- statements -/
def exprS (e : M Val) (ρ : Rho) : M Fl := withE e ρ (fun _ => pure (.next ρ))
def retS (e : M Val) (ρ : Rho) : M Fl := withE e ρ fun v => pure (.ret v)
def ifS (c : M Bool) (a b : Rho → M Fl) (ρ : Rho) : M Fl := withE c ρ fun k => if k = true then a ρ else b ρ
def forS (f : TgF) (it : M (List Val)) (body : Rho → M Fl) (ρ : Rho) : M Fl := withE it ρ fun l => forL f body l ρ
def setS (i : Nat) (e : M Val) (ρ : Rho) : M Fl := withE e ρ fun v => pure (.next (ρ.set i (some v)))
def tupS (f : TgF) (e : M Val) (ρ : Rho) : M Fl := withE e ρ fun v h => (match f h v ρ with
      | some ρ' => .ok (.next ρ') h
      | none => .bad)
def ixS (o i e : M Val) (ρ : Rho) : M Fl := withE (do let v ← e; let a ← o; let k ← i; setIx a k v) ρ fun _ => pure (.next ρ)
def augS (i : Nat) (g : Hs → Val → Val → Option Val) (e : M Val) (ρ : Rho) : M Fl := withE (do let v ← varE ρ i; let w ← e; fun h => liftO (g h v w) h) ρ fun v h => .ok (.next (ρ.set i (some v))) h
def seqS : List (Rho → M Fl) → Rho → M Fl
  | [], ρ => pure (.next ρ)
  | s :: r, ρ => andThen (s ρ) (seqS r)
def subV : Hs → Val → Val → Option Val := intV (fun _ _ => true) fun i j => i - j
def iaddV : Hs → Val → Val → Option Val := intV (fun _ _ => true) fun i j => i + j
def mulV : Hs → Val → Val → Option Val := intV (fun i j => (decide (-(2 ^ 64) < i) && decide (i < 2 ^ 64)) || (decide (-(2 ^ 64) < j) && decide (j < 2 ^ 64))) fun i j => i * j
def fdvV : Hs → Val → Val → Option Val := intV (fun _ j => decide (j ≠ 0) && decide (j.natAbs < 1073741824)) fun i j => i.fdiv j
def modV : Hs → Val → Val → Option Val := intV (fun _ j => decide (j ≠ 0)) fun i j => i.fmod j
def powV : Hs → Val → Val → Option Val := intV (fun i j => decide (0 ≤ j) && (decide (j ≤ 1000000) && decide (i.natAbs < 2 ^ 64))) fun i j => i ^ j.toNat
def shlV : Hs → Val → Val → Option Val := intV (fun i j => decide (0 ≤ j) && (decide (j ≤ 1000000) && decide (i.natAbs < 2 ^ 64))) fun i j => i * 2 ^ j.toNat
def shrV : Hs → Val → Val → Option Val := intV (fun _ j => decide (0 ≤ j)) fun i j => i / 2 ^ j.toNat
def andV : Hs → Val → Val → Option Val := intV (fun _ _ => true) fun i j => Builtin.bitAnd i j
def iorV : Hs → Val → Val → Option Val := intV (fun _ _ => true) fun i j => Builtin.bitOr i j
def xorV : Hs → Val → Val → Option Val := intV (fun _ _ => true) fun i j => Builtin.bitXor i j
/-! ### their run -/
namespace Out
def bd {α β : Type} (o : Out α) (f : α → M β) : Out β := match o with
  | .ok a h => f a h
  | .exc e h => .exc e h
  | .bad => .bad
def we {α : Type} (o : Out α) (ρ : Rho) (k : α → M Fl) : Out Fl := match o with
  | .ok a h' => k a h'
  | .exc e h' => .ok (.rse e ρ) h'
  | .bad => .bad
def an (o : Out Fl) (k : Rho → M Fl) : Out Fl := match o with
  | .ok (.next ρ) h' => k ρ h'
  | r => r
def nx {α : Type} (o : Out α) : Out α := match o with
  | .ok a h => .ok a h
  | _ => .bad
def en (o : Out Fl) : Out Val := match o with
  | .ok (.ret v) h' => .ok v h'
  | .ok (.next _) h' => .ok .non h'
  | .ok (.rse e _) h' => .exc e h'
  | _ => .bad
def lp (o : Out Fl) (k : Rho → M Fl) : Out Fl := match o with
  | .ok (.next ρ2) h' => k ρ2 h'
  | .ok (.cont ρ2) h' => k ρ2 h'
  | .ok (.brk ρ2) h' => .ok (.next ρ2) h'
  | r => r
end Out
theorem nr {α : Sort _} {a b : α} (h : a = b) : a = b := h
def blO : Val → Option Bool
  | .bl b => some b
  | _ => none
section
variable {α β : Type} {h h' : Hs} {a : α} {e : Exc} {f : α → M β} {ρ ρ' : Rho}
theorem bind_app (m : M α) (f : α → M β) (h : Hs) : (m >>= f) h = (m h).bd f := nr rfl
theorem pure_app (a : α) (h : Hs) : (pure a : M α) h = .ok a h := nr rfl
theorem bad_app (h : Hs) : (M.bad : M α) h = .bad := nr rfl
theorem bd_ok : (Out.ok a h).bd f = f a h := nr rfl
theorem bd_exc : (Out.exc e h : Out α).bd f = .exc e h := nr rfl
theorem bd_bad : (Out.bad : Out α).bd f = .bad := nr rfl
theorem bd_ite {c : Prop} [Decidable c] {x y : Out α} : (if c then x else y).bd f = if c then x.bd f else y.bd f := by split <;> rfl
theorem liftO_some : liftO (some a) h = .ok a h := nr rfl
theorem liftO_none : liftO (none : Option α) h = .bad := nr rfl
theorem liftO_ite {c : Prop} [Decidable c] {x y : Option α} : liftO (if c then x else y) h = if c then liftO x h else liftO y h := by split <;> rfl
theorem liftB_some {b : Bool} : liftB (some b) h = .ok b h := nr rfl
theorem we_ok {k : α → M Fl} : (Out.ok a h).we ρ k = k a h := nr rfl
theorem we_exc {k : α → M Fl} : (Out.exc e h : Out α).we ρ k = .ok (.rse e ρ) h := nr rfl
theorem we_bad {k : α → M Fl} : (Out.bad : Out α).we ρ k = .bad := nr rfl
theorem we_ite {c : Prop} [Decidable c] {x y : Out α} {k : α → M Fl} : (if c then x else y).we ρ k = if c then x.we ρ k else y.we ρ k := by split <;> rfl
theorem an_next {k : Rho → M Fl} : (Out.ok (.next ρ) h).an k = k ρ h := nr rfl
theorem an_ret {k : Rho → M Fl} {v : Val} : (Out.ok (.ret v) h).an k = .ok (.ret v) h := nr rfl
theorem an_brk {k : Rho → M Fl} : (Out.ok (.brk ρ) h).an k = .ok (.brk ρ) h := nr rfl
theorem an_cont {k : Rho → M Fl} : (Out.ok (.cont ρ) h).an k = .ok (.cont ρ) h := nr rfl
theorem an_rse {k : Rho → M Fl} : (Out.ok (.rse e ρ) h).an k = .ok (.rse e ρ) h := nr rfl
theorem an_bad {k : Rho → M Fl} : Out.bad.an k = .bad := nr rfl
theorem an_ite {c : Prop} [Decidable c] {x y : Out Fl} {k : Rho → M Fl} : (if c then x else y).an k = if c then x.an k else y.an k := by split <;> rfl
theorem en_ret {v : Val} : (Out.ok (.ret v) h).en = .ok v h := nr rfl
theorem en_next : (Out.ok (.next ρ) h).en = .ok .non h := nr rfl
theorem en_rse : (Out.ok (.rse e ρ) h).en = .exc e h := nr rfl
theorem en_bad : Out.bad.en = .bad := nr rfl
theorem en_ite {c : Prop} [Decidable c] {x y : Out Fl} : (if c then x else y).en = if c then x.en else y.en := by split <;> rfl
theorem lp_next {k : Rho → M Fl} : (Out.ok (.next ρ) h).lp k = k ρ h := nr rfl
theorem lp_cont {k : Rho → M Fl} : (Out.ok (.cont ρ) h).lp k = k ρ h := nr rfl
theorem lp_brk {k : Rho → M Fl} : (Out.ok (.brk ρ) h).lp k = .ok (.next ρ) h := nr rfl
theorem lp_ret {k : Rho → M Fl} {v : Val} : (Out.ok (.ret v) h).lp k = .ok (.ret v) h := nr rfl
theorem lp_rse {k : Rho → M Fl} : (Out.ok (.rse e ρ) h).lp k = .ok (.rse e ρ) h := nr rfl
theorem lp_bad {k : Rho → M Fl} : Out.bad.lp k = .bad := nr rfl
theorem lp_ite {c : Prop} [Decidable c] {x y : Out Fl} {k : Rho → M Fl} : (if c then x else y).lp k = if c then x.lp k else y.lp k := by split <;> rfl
theorem withE_app (m : M α) (k : α → M Fl) : withE m ρ k h = (m h).we ρ k := nr rfl
theorem andThen_app (m : M Fl) (k : Rho → M Fl) : andThen m k h = (m h).an k := nr rfl
theorem endF_app (m : M Fl) : endF m h = (m h).en := nr rfl
/-! the words themselves -/
section
variable {A B C : M Val} {a b c : M Bool} {g : Hs → Val → Val → Option Val} {op op' : CmpOp} {es : List (M Val)} {r : Rho} {v : Val}
theorem varE_z : varE (some v :: r) 0 h = .ok v h := nr rfl
theorem varE_s {o : Option Val} {n : Nat} : varE (o :: r) (n + 1) h = varE r n h := nr rfl
theorem kE_app : kE v h = .ok v h := nr rfl
theorem tyE_app {n : String} : tyE n h = .ok (.ty n) h := nr rfl
theorem binE_app : binE g A B h = (A h).bd fun x h1 => (B h1).bd fun y h2 => liftO (g h2 x y) h2 := nr rfl
theorem notE_app : notE A h = (A h).bd fun v h1 => (liftB (truV h1 v) h1).bd fun k h2 => .ok (.bl (!k)) h2 := nr rfl
theorem negE_app : negE A h = (A h).bd fun v h1 => liftO (negV v) h1 := nr rfl
theorem negV_int {i : Int} : negV (.int i) = some (.int (-i)) := nr rfl
theorem andE_app : andE A B h = (A h).bd fun v h1 => (liftB (truV h1 v) h1).bd fun k h2 => if k = true then B h2 else .ok v h2 := by
  show Out.bd (A h) _ = _
  congr 1; funext v h1
  show Out.bd (liftB (truV h1 v) h1) _ = _
  congr 1; funext k h2
  cases k <;> rfl
theorem orE_app : orE A B h = (A h).bd fun v h1 => (liftB (truV h1 v) h1).bd fun k h2 => if k = true then .ok v h2 else B h2 := by
  show Out.bd (A h) _ = _
  congr 1; funext v h1
  show Out.bd (liftB (truV h1 v) h1) _ = _
  congr 1; funext k h2
  cases k <;> rfl
theorem cmpE_app : cmpE op A B h = (A h).bd fun x h1 => (B h1).bd fun y h2 => liftO (cmpV op h2 x y) h2 := nr rfl
theorem cmp2E_app : cmp2E A op op' B C h = (A h).bd fun x h1 => (B h1).bd fun y h2 => (liftO ((cmpV op h2 x y).bind blO) h2).bd fun k h3 => if k = true then (C h3).bd fun z h4 => liftO (cmpV op' h4 y z) h4 else .ok (.bl false) h3 := by
  show Out.bd (A h) _ = _
  congr 1; funext x h1
  show Out.bd (B h1) _ = _
  congr 1; funext y h2
  show Out.bd (liftO (cmpV op h2 x y) h2) _ = _
  cases cmpV op h2 x y with
  | none => rfl
  | some k =>
    cases k with
    | bl k => cases k <;> rfl
    | _ => rfl
theorem iteE_app : iteE a A B h = (a h).bd fun k h1 => if k = true then A h1 else B h1 := by
  show Out.bd (a h) _ = _
  congr 1; funext k h1
  cases k <;> rfl
theorem evs_nil : evs [] h = .ok [] h := nr rfl
theorem evs_cons : evs (A :: es) h = (A h).bd fun v h1 => (evs es h1).bd fun vs h2 => .ok (v :: vs) h2 := nr rfl
theorem lstE_app : lstE es h = (evs es h).bd fun vs h1 => if vs.length ≤ sizeLine then .ok (.lst vs) h1 else .bad := by
  show Out.bd (evs es h) _ = _
  congr 1; funext vs h1
  rw [liftO_ite]
  rfl
theorem newE_app : newE es h = (evs es h).bd fun vs h1 => if vs.length ≤ sizeLine then .ok (.loc h1.length) (h1 ++ [some (.lst vs)]) else .bad := nr rfl
theorem tupE_app : tupE es h = (evs es h).bd fun vs h1 => if vs.length ≤ sizeLine then .ok (.tup vs) h1 else .bad := by
  show Out.bd (evs es h) _ = _
  congr 1; funext vs h1
  rw [liftO_ite]
  rfl
theorem ixE_app : ixE A B h = (A h).bd fun x h1 => (B h1).bd fun y h2 => liftO (ixV h2 x y) h2 := nr rfl
theorem partO_none : partO none h = .ok none h := nr rfl
theorem partO_some : partO (some A) h = (A h).bd fun v h1 => liftO ((intO v).map some) h1 := by
  show Out.bd (A h) _ = _
  congr 1; funext v h1
  cases v <;> rfl
theorem intO_int {i : Int} : intO (.int i) = some i := nr rfl
theorem slE_app {lo hi : Option (M Val)} : slE A lo hi h = (A h).bd fun x h1 => (partO lo h1).bd fun l h2 => (partO hi h2).bd fun u h3 => liftO (slV h3 x l u) h3 := nr rfl
theorem callF_app {cl : Cl} {d : DefI} : callF cl d es h = (evs es h).bd fun vs h1 => callD cl d vs h1 := nr rfl
theorem bltE_app {g : Hs → List Val → Option Val} : bltE g es h = (evs es h).bd fun vs h1 => liftO (g h1 vs) h1 := nr rfl
theorem rngI_app : rngI es h = (evs es h).bd fun vs h1 => liftO (rng1 vs) h1 := by
  show Out.bd (evs es h) _ = _
  congr 1; funext vs h1
  match vs with
  | [] => rfl
  | [_] => rfl
  | _ :: _ :: _ => rfl
theorem rngI2_app : rngI2 es h = (evs es h).bd fun vs h1 => liftO (rng2 vs) h1 := by
  show Out.bd (evs es h) _ = _
  congr 1; funext vs h1
  match vs with
  | [] => rfl
  | [_] => rfl
  | [_, _] => rfl
  | _ :: _ :: _ :: _ => rfl
theorem rng1_app : rng1 [v] = rngV [v] := nr rfl
theorem rng2_app {w : Val} : rng2 [v, w] = rngV [v, w] := nr rfl
theorem seqI_app : seqI A h = (A h).bd fun v h1 => liftO (walkOf v) h1 := nr rfl
theorem walk_lst {l : List Val} : walkOf (.lst l) = some l := nr rfl
theorem walk_scr {l : List Val} : walkOf (.scr l) = some l := nr rfl
theorem walk_tup {l : List Val} : walkOf (.tup l) = some l := nr rfl
theorem walk_str {s : Str} : walkOf (.str s) = some (chars s) := nr rfl
theorem lcF_app {f : TgF} {it : M (List Val)} {c : Rho → M Bool} {e : Rho → M Val} {sl : List Nat} : lcF f it c e r sl h = (it h).bd fun l h1 => lcM f c e (wipeR r sl) l h1 := nr rfl
theorem metE_app {m : Str} : metE A m es h = (A h).bd fun x h1 => metV x m es h1 := nr rfl
theorem metV_of {x : Val} {m : Str} {t : String} {f : MtF} (e : tyO h x = some t) (e2 : mtab t m = some f) : metV x m es h = (evs es h).bd fun vs h2 => (f x vs h2).nx := by
  show (match tyO h x with
    | some t => (match mtab t m with
      | some g => (evs es >>= fun vs => noX (g x vs) : M Val) h
      | none => .bad)
    | none => .bad) = _
  rw [e]
  dsimp only
  rw [e2]
  rfl
theorem nx_ok {α : Type} {a : α} : (Out.ok a h).nx = .ok a h := nr rfl
theorem met_split {s : Str} : metV (.str s) "split" es h = (evs es h).bd fun vs h2 => (mSplit (.str s) vs h2).nx := metV_of rfl rfl
theorem met_join {s : Str} : metV (.str s) "join" es h = (evs es h).bd fun vs h2 => (mJoin (.str s) vs h2).nx := metV_of rfl rfl
theorem met_append {l : List Val} {h : Hs} : metV (.loc 0) "append" es (some (Ob.lst l) :: h) = (evs es (some (Ob.lst l) :: h)).bd fun vs h2 => (mAppend (.loc 0) vs h2).nx := metV_of rfl rfl
theorem newD_app : newD h = .ok (.loc h.length) (h ++ [some (.dct [])]) := nr rfl
theorem truT_app : truT A h = (A h).bd fun v h1 => liftB (truV h1 v) h1 := nr rfl
theorem notT_app : notT a h = (a h).bd fun k h1 => .ok (!k) h1 := nr rfl
theorem andT_app : andT a b h = (a h).bd fun k h1 => if k = true then b h1 else .ok false h1 := by
  show Out.bd (a h) _ = _
  congr 1; funext k h1
  cases k <;> rfl
theorem orT_app : orT a b h = (a h).bd fun k h1 => if k = true then .ok true h1 else b h1 := by
  show Out.bd (a h) _ = _
  congr 1; funext k h1
  cases k <;> rfl
theorem toB_app : toB A h = (A h).bd fun v h1 => liftO (blO v) h1 := by
  show Out.bd (A h) _ = _
  congr 1; funext v h1
  cases v <;> rfl
theorem blO_bl {k : Bool} : blO (.bl k) = some k := nr rfl
theorem cmpT_app : cmpT op A B h = (A h).bd fun x h1 => (B h1).bd fun y h2 => liftO ((cmpV op h2 x y).bind blO) h2 := by
  unfold cmpT
  rw [toB_app, cmpE_app]
  cases A h with
  | ok x h1 =>
    show Out.bd (Out.bd (B h1) _) _ = Out.bd (B h1) _
    cases B h1 with
    | ok y h2 =>
      show Out.bd (liftO (cmpV op h2 x y) h2) _ = liftO ((cmpV op h2 x y).bind blO) h2
      cases cmpV op h2 x y <;> rfl
    | exc _ _ => rfl
    | bad => rfl
  | exc _ _ => rfl
  | bad => rfl
theorem cmp2T_app : cmp2T A op op' B C h = (A h).bd fun x h1 => (B h1).bd fun y h2 => (liftO ((cmpV op h2 x y).bind blO) h2).bd fun k h3 => if k = true then (C h3).bd fun z h4 => liftO ((cmpV op' h4 y z).bind blO) h4 else .ok false h3 := by
  unfold cmp2T
  rw [toB_app, cmp2E_app]
  cases A h with
  | ok x h1 =>
    show Out.bd (Out.bd (B h1) _) _ = Out.bd (B h1) _
    cases B h1 with
    | ok y h2 =>
      show Out.bd (Out.bd (liftO ((cmpV op h2 x y).bind blO) h2) _) _ = Out.bd (liftO ((cmpV op h2 x y).bind blO) h2) _
      cases (cmpV op h2 x y).bind blO with
      | none => rfl
      | some k =>
        cases k with
        | false => rfl
        | true =>
          show Out.bd (Out.bd (C h2) _) _ = Out.bd (C h2) _
          cases C h2 with
          | ok z h4 =>
            show Out.bd (liftO (cmpV op' h4 y z) h4) _ = liftO ((cmpV op' h4 y z).bind blO) h4
            cases cmpV op' h4 y z <;> rfl
          | exc _ _ => rfl
          | bad => rfl
    | exc _ _ => rfl
    | bad => rfl
  | exc _ _ => rfl
  | bad => rfl
theorem exprS_app : exprS A r h = (A h).we r fun _ h1 => .ok (.next r) h1 := nr rfl
theorem retS_app : retS A r h = (A h).we r fun v h1 => .ok (.ret v) h1 := nr rfl
theorem ifS_app {x y : Rho → M Fl} : ifS a x y r h = (a h).we r fun k h1 => if k = true then x r h1 else y r h1 := by
  show Out.we (a h) r _ = _
  congr 1; funext k h1
  cases k <;> rfl
theorem forS_app {f : TgF} {it : M (List Val)} {x : Rho → M Fl} : forS f it x r h = (it h).we r fun l h1 => forL f x l r h1 := nr rfl
theorem setS_app {i : Nat} : setS i A r h = (A h).we r fun v h1 => .ok (.next (r.set i (some v))) h1 := nr rfl
def nxO (o : Option Rho) (h : Hs) : Out Fl := match o with
  | some r => .ok (.next r) h
  | none => .bad
theorem nxO_some : nxO (some r) h = .ok (.next r) h := nr rfl
theorem tupS_app {f : TgF} : tupS f A r h = (A h).we r fun v h1 => nxO (f h1 v r) h1 := nr rfl
theorem ixS_app : ixS A B C r h = ((C h).bd fun v h1 => (A h1).bd fun x h2 => (B h2).bd fun k h3 => setIx x k v h3).we r fun _ h4 => .ok (.next r) h4 := nr rfl
theorem augS_app {i : Nat} : augS i g A r h = ((varE r i h).bd fun v h1 => (A h1).bd fun w h2 => liftO (g h2 v w) h2).we r fun v h3 => .ok (.next (r.set i (some v))) h3 := nr rfl
theorem seqS_nil : seqS [] r h = .ok (.next r) h := nr rfl
theorem seqS_cons {x : Rho → M Fl} {l : List (Rho → M Fl)} : seqS (x :: l) r h = (x r h).an (seqS l) := nr rfl
theorem ite_app {α : Type} {c : Prop} [Decidable c] {f g : M α} : (if c then f else g) h = if c then f h else g h := by split <;> rfl
end
theorem forL_nil {f : TgF} {mb : Rho → M Fl} : forL f mb [] ρ h = .ok (.next ρ) h := nr rfl
theorem forL_cons {f : TgF} {mb : Rho → M Fl} {v : Val} {l : List Val} (e : f h v ρ = some ρ') : forL f mb (v :: l) ρ h = (mb ρ' h).lp (forL f mb l) := by
  show (match f h v ρ with
    | none => (Out.bad : Out Fl)
    | some ρ1 => (match mb ρ1 h with
      | .ok (.next ρ2) h' => forL f mb l ρ2 h'
      | .ok (.cont ρ2) h' => forL f mb l ρ2 h'
      | .ok (.brk ρ2) h' => .ok (.next ρ2) h'
      | r => r)) = _
  rw [e]
  rfl
/-- a for without a break, over a list, by an invariant: what is done so far -/
theorem forL_inv {f : TgF} {mb : Rho → M Fl} {g : Nat → α} (R : α → Rho) (Hh : α → Hs) : ∀ (l : List Val) (n : Nat), (∀ i v, l[i]? = some v → ∃ ρ1, f (Hh (g (n + i))) v (R (g (n + i))) = some ρ1 ∧ mb ρ1 (Hh (g (n + i))) = .ok (.next (R (g (n + i + 1)))) (Hh (g (n + i + 1)))) →
    forL f mb l (R (g n)) (Hh (g n)) = .ok (.next (R (g (n + l.length)))) (Hh (g (n + l.length)))
  | [], n, _ => rfl
  | v :: l, n, st => by
    obtain ⟨ρ1, e1, e2⟩ := st 0 v rfl
    have e1 : f (Hh (g n)) v (R (g n)) = some ρ1 := e1
    rw [forL_cons e1]
    have e2 : mb ρ1 (Hh (g n)) = .ok (.next (R (g (n + 1)))) (Hh (g (n + 1))) := e2
    rw [e2, lp_next]
    have := forL_inv R Hh l (n + 1) (g := g) (f := f) (mb := mb) (fun i w e => by
      have := st (i + 1) w e
      rw [show n + (i + 1) = n + 1 + i from by omega] at this
      exact this)
    rw [this, show n + 1 + l.length = n + (v :: l).length from by rw [List.length_cons]; omega]
/-- a comprehension without an if whose parts read alone -/
theorem lcM_map {f : TgF} {me : Rho → M Val} {F : Val → Val} : ∀ {l : List Val}, (∀ v ∈ l, ∃ ρ1, f h v ρ = some ρ1 ∧ me ρ1 h = .ok (F v) h) → compL f (fun _ => pure true) me ρ l h = .ok (l.map F) h
  | [], _ => rfl
  | v :: l, st => by
    obtain ⟨ρ1, e1, e2⟩ := st v List.mem_cons_self
    have ih := lcM_map (l := l) (f := f) (me := me) (F := F) fun w hw => st w (List.mem_cons_of_mem _ hw)
    unfold compL
    rw [e1]
    simp only [bind_app, pure_app, bd_ok, if_true, e2, ih]
    rfl
end
end Ev

namespace Ev
open PySem PySem.Spec PyProof.Rows L2

/-! ### rows for simp -/
section
variable {h : Hs} {v : Val} {o : Option Val} {r : Rho} {i j : Int} {s t : Str} {n : Nat} {l : List Val}
theorem addV_int : addV h (.int i) (.int j) = some (.int (i + j)) := nr rfl
theorem subV_int : subV h (.int i) (.int j) = some (.int (i - j)) := nr rfl
theorem iaddV_int : iaddV h (.int i) (.int j) = some (.int (i + j)) := nr rfl
theorem intV_if {C : Int → Int → Bool} {g : Int → Int → Int} (e : C i j = true) : intV C g h (.int i) (.int j) = some (.int (g i j)) := by
  show (if C i j = true then _ else _) = _
  rw [if_pos e]
theorem mulV_int (e : (-18446744073709551616 < i ∧ i < 18446744073709551616) ∨ (-18446744073709551616 < j ∧ j < 18446744073709551616)) : mulV h (.int i) (.int j) = some (.int (i * j)) := by
  refine intV_if ?_
  rw [Bool.or_eq_true, Bool.and_eq_true, Bool.and_eq_true, decide_eq_true_eq, decide_eq_true_eq, decide_eq_true_eq, decide_eq_true_eq]
  exact e
theorem modV_int (e : 0 < j) : modV h (.int i) (.int j) = some (.int (i % j)) := by
  rw [← Int.fmod_eq_emod_of_nonneg _ (by omega)]
  exact intV_if (decide_eq_true (by omega))
theorem fdvV_int (e : 0 < j) (e2 : j < 1073741824) : fdvV h (.int i) (.int j) = some (.int (i / j)) := by
  rw [← Int.fdiv_eq_ediv_of_nonneg _ (by omega)]
  refine intV_if ?_
  rw [Bool.and_eq_true, decide_eq_true_eq, decide_eq_true_eq]
  exact ⟨by omega, by omega⟩
theorem powV_int (e : 0 ≤ j) (e2 : j ≤ 1000000) (e3 : -18446744073709551616 < i) (e4 : i < 18446744073709551616) : powV h (.int i) (.int j) = some (.int (i ^ j.toNat)) := by
  refine intV_if ?_
  rw [Bool.and_eq_true, Bool.and_eq_true, decide_eq_true_eq, decide_eq_true_eq, decide_eq_true_eq]
  exact ⟨e, e2, by omega⟩
theorem shlV_int (e : 0 ≤ j) (e2 : j ≤ 1000000) (e3 : -18446744073709551616 < i) (e4 : i < 18446744073709551616) : shlV h (.int i) (.int j) = some (.int (i * 2 ^ j.toNat)) := by
  refine intV_if ?_
  rw [Bool.and_eq_true, Bool.and_eq_true, decide_eq_true_eq, decide_eq_true_eq, decide_eq_true_eq]
  exact ⟨e, e2, by omega⟩
theorem shrV_int (e : 0 ≤ j) : shrV h (.int i) (.int j) = some (.int (i / 2 ^ j.toNat)) := intV_if (decide_eq_true e)
theorem andV_int : andV h (.int i) (.int j) = some (.int (Builtin.bitAnd i j)) := nr rfl
theorem iorV_int : iorV h (.int i) (.int j) = some (.int (Builtin.bitOr i j)) := nr rfl
theorem xorV_int : xorV h (.int i) (.int j) = some (.int (Builtin.bitXor i j)) := nr rfl
theorem cmp_lt : cmpV .Lt h (.int i) (.int j) = some (.bl (decide (i < j))) := nr rfl
theorem cmp_le : cmpV .LtE h (.int i) (.int j) = some (.bl (decide (i ≤ j))) := nr rfl
theorem cmp_gt : cmpV .Gt h (.int i) (.int j) = some (.bl (decide (j < i))) := nr rfl
theorem cmp_ge : cmpV .GtE h (.int i) (.int j) = some (.bl (decide (j ≤ i))) := nr rfl
theorem cmp_eqi : cmpV .Eq h (.int i) (.int j) = some (.bl (decide (i = j))) := nr rfl
theorem cmp_nei : cmpV .NotEq h (.int i) (.int j) = some (.bl (!decide (i = j))) := nr rfl
theorem cmp_eqs : cmpV .Eq h (.str s) (.str t) = some (.bl (decide (s = t))) := nr rfl
theorem cmp_nes : cmpV .NotEq h (.str s) (.str t) = some (.bl (!decide (s = t))) := nr rfl
theorem tru_bl {b : Bool} : truV h (.bl b) = some b := nr rfl
theorem tru_int : truV h (.int i) = some (i != 0) := nr rfl
theorem tru_non : truV h .non = some false := nr rfl
theorem cmp_is_bl {a b : Bool} : cmpV .Is h (.bl a) (.bl b) = some (.bl (decide (a = b))) := nr rfl
theorem cmp_isnot_bl {a b : Bool} : cmpV .IsNot h (.bl a) (.bl b) = some (.bl (!decide (a = b))) := nr rfl
theorem cmp_eqb {a b : Bool} : cmpV .Eq h (.bl a) (.bl b) = some (.bl (decide (a = b))) := nr rfl
theorem cmp_neb {a b : Bool} : cmpV .NotEq h (.bl a) (.bl b) = some (.bl (!decide (a = b))) := nr rfl
theorem tru_str (e : s.length ≤ sizeLine) : truV h (.str s) = some ((s.length : Int) != 0) := by
  show (if s.length ≤ sizeLine then _ else _) = _
  rw [if_pos e]
theorem len_lst : lenV h [.lst l] = some (.int (l.length : Int)) := nr rfl
theorem len_scr : lenV h [.scr l] = some (.int (l.length : Int)) := nr rfl
theorem len_tup : lenV h [.tup l] = some (.int (l.length : Int)) := nr rfl
theorem lenV_str (e : s.length ≤ sizeLine) : lenV h [.str s] = some (.int (s.length : Int)) := by
  show (if s.length ≤ sizeLine then _ else _) = _
  rw [if_pos e]
/-- x in y, of texts -/
def inStr (x y : Str) : Bool := !(Builtin.Str.occurrences y x 0 y.length 1).isEmpty
theorem cmp_in_s : cmpV .In h (.str s) (.str t) = some (.bl (inStr s t)) := nr rfl
theorem cmp_notin_s : cmpV .NotIn h (.str s) (.str t) = some (.bl (!inStr s t)) := nr rfl
theorem ixV_str (e : s.length ≤ sizeLine) : ixV h (.str s) (.int i) = (atI s.cps.toList i).map fun c => .str ⟨#[c]⟩ := by
  show (if s.length ≤ sizeLine then _ else _) = _
  rw [if_pos e]
theorem abs_int : absV1 h [.int i] = some (.int (if i < 0 then -i else i)) := nr rfl
theorem ixN_nat {k : Int} (e : 0 ≤ k) (e2 : k < n) : ixN n k = some k.toNat := by
  unfold ixN
  rw [if_pos e, if_pos e2]
theorem atI_pos {α : Type} {l : List α} {k : Int} (e : 0 ≤ k) : atI l k = l[k.toNat]? := by
  unfold atI
  by_cases e2 : k < l.length
  · rw [ixN_nat e e2]; rfl
  · unfold ixN
    rw [if_pos e, if_neg e2, List.getElem?_eq_none (by omega)]
    rfl
theorem ixV_loc {k : Int} : ixV (some (Ob.lst l) :: h) (.loc 0) (.int k) = atI l k := nr rfl
theorem ixV_locs {o : Option Ob} {k : Int} : ixV (o :: h) (.loc (n + 1)) (.int k) = ixV h (.loc n) (.int k) := nr rfl
theorem ixV_lst {k : Int} : ixV h (.lst l) (.int k) = atI l k := nr rfl
theorem ixV_tup {k : Int} : ixV h (.tup l) (.int k) = atI l k := nr rfl
theorem ixV_scr {k : Int} : ixV h (.scr l) (.int k) = atI l k := nr rfl
theorem setIx_loc {k : Int} (e1 : 0 ≤ k) (e2 : k.toNat < l.length) : setIx (.loc 0) (.int k) v (some (Ob.lst l) :: h) = .ok () (some (.lst (l.set k.toNat v)) :: h) := by
  show (match ixN l.length k with
      | some j => Out.ok () ((some (Ob.lst l) :: h).set 0 (some (.lst (l.set j v))))
      | none => .bad) = _
  rw [ixN_nat e1 (by omega)]
  rfl
theorem isi_non_int {T : Kits} : isiV T h [.non, .ty "int"] = some (.bl false) := nr rfl
theorem isi_non_bool {T : Kits} : isiV T h [.non, .ty "bool"] = some (.bl false) := nr rfl
theorem isi_non_str {T : Kits} : isiV T h [.non, .ty "str"] = some (.bl false) := nr rfl
theorem isi_non_tuple {T : Kits} : isiV T h [.non, .ty "tuple"] = some (.bl false) := nr rfl
theorem isi_non_list {T : Kits} : isiV T h [.non, .ty "list"] = some (.bl false) := nr rfl
theorem isi_non_dict {T : Kits} : isiV T h [.non, .ty "dict"] = some (.bl false) := nr rfl
theorem isi_bl_int {T : Kits} {b : Bool} : isiV T h [(.bl b), .ty "int"] = some (.bl true) := nr rfl
theorem isi_bl_bool {T : Kits} {b : Bool} : isiV T h [(.bl b), .ty "bool"] = some (.bl true) := nr rfl
theorem isi_bl_str {T : Kits} {b : Bool} : isiV T h [(.bl b), .ty "str"] = some (.bl false) := nr rfl
theorem isi_bl_tuple {T : Kits} {b : Bool} : isiV T h [(.bl b), .ty "tuple"] = some (.bl false) := nr rfl
theorem isi_bl_list {T : Kits} {b : Bool} : isiV T h [(.bl b), .ty "list"] = some (.bl false) := nr rfl
theorem isi_bl_dict {T : Kits} {b : Bool} : isiV T h [(.bl b), .ty "dict"] = some (.bl false) := nr rfl
theorem isi_int_int {T : Kits} : isiV T h [(.int i), .ty "int"] = some (.bl true) := nr rfl
theorem isi_int_bool {T : Kits} : isiV T h [(.int i), .ty "bool"] = some (.bl false) := nr rfl
theorem isi_int_str {T : Kits} : isiV T h [(.int i), .ty "str"] = some (.bl false) := nr rfl
theorem isi_int_tuple {T : Kits} : isiV T h [(.int i), .ty "tuple"] = some (.bl false) := nr rfl
theorem isi_int_list {T : Kits} : isiV T h [(.int i), .ty "list"] = some (.bl false) := nr rfl
theorem isi_int_dict {T : Kits} : isiV T h [(.int i), .ty "dict"] = some (.bl false) := nr rfl
theorem isi_str_int {T : Kits} : isiV T h [(.str s), .ty "int"] = some (.bl false) := nr rfl
theorem isi_str_bool {T : Kits} : isiV T h [(.str s), .ty "bool"] = some (.bl false) := nr rfl
theorem isi_str_str {T : Kits} : isiV T h [(.str s), .ty "str"] = some (.bl true) := nr rfl
theorem isi_str_tuple {T : Kits} : isiV T h [(.str s), .ty "tuple"] = some (.bl false) := nr rfl
theorem isi_str_list {T : Kits} : isiV T h [(.str s), .ty "list"] = some (.bl false) := nr rfl
theorem isi_str_dict {T : Kits} : isiV T h [(.str s), .ty "dict"] = some (.bl false) := nr rfl
theorem isi_tup_int {T : Kits} : isiV T h [(.tup l), .ty "int"] = some (.bl false) := nr rfl
theorem isi_tup_bool {T : Kits} : isiV T h [(.tup l), .ty "bool"] = some (.bl false) := nr rfl
theorem isi_tup_str {T : Kits} : isiV T h [(.tup l), .ty "str"] = some (.bl false) := nr rfl
theorem isi_tup_tuple {T : Kits} : isiV T h [(.tup l), .ty "tuple"] = some (.bl true) := nr rfl
theorem isi_tup_list {T : Kits} : isiV T h [(.tup l), .ty "list"] = some (.bl false) := nr rfl
theorem isi_tup_dict {T : Kits} : isiV T h [(.tup l), .ty "dict"] = some (.bl false) := nr rfl
theorem isi_lst_int {T : Kits} : isiV T h [(.lst l), .ty "int"] = some (.bl false) := nr rfl
theorem isi_lst_bool {T : Kits} : isiV T h [(.lst l), .ty "bool"] = some (.bl false) := nr rfl
theorem isi_lst_str {T : Kits} : isiV T h [(.lst l), .ty "str"] = some (.bl false) := nr rfl
theorem isi_lst_tuple {T : Kits} : isiV T h [(.lst l), .ty "tuple"] = some (.bl false) := nr rfl
theorem isi_lst_list {T : Kits} : isiV T h [(.lst l), .ty "list"] = some (.bl true) := nr rfl
theorem isi_lst_dict {T : Kits} : isiV T h [(.lst l), .ty "dict"] = some (.bl false) := nr rfl
theorem isi_scr_int {T : Kits} : isiV T h [(.scr l), .ty "int"] = some (.bl false) := nr rfl
theorem isi_scr_bool {T : Kits} : isiV T h [(.scr l), .ty "bool"] = some (.bl false) := nr rfl
theorem isi_scr_str {T : Kits} : isiV T h [(.scr l), .ty "str"] = some (.bl false) := nr rfl
theorem isi_scr_tuple {T : Kits} : isiV T h [(.scr l), .ty "tuple"] = some (.bl false) := nr rfl
theorem isi_scr_list {T : Kits} : isiV T h [(.scr l), .ty "list"] = some (.bl true) := nr rfl
theorem isi_scr_dict {T : Kits} : isiV T h [(.scr l), .ty "dict"] = some (.bl false) := nr rfl
theorem isi_dct_int {T : Kits} {ks : List Key} : isiV T h [(.dct ks l), .ty "int"] = some (.bl false) := nr rfl
theorem isi_dct_bool {T : Kits} {ks : List Key} : isiV T h [(.dct ks l), .ty "bool"] = some (.bl false) := nr rfl
theorem isi_dct_str {T : Kits} {ks : List Key} : isiV T h [(.dct ks l), .ty "str"] = some (.bl false) := nr rfl
theorem isi_dct_tuple {T : Kits} {ks : List Key} : isiV T h [(.dct ks l), .ty "tuple"] = some (.bl false) := nr rfl
theorem isi_dct_list {T : Kits} {ks : List Key} : isiV T h [(.dct ks l), .ty "list"] = some (.bl false) := nr rfl
theorem isi_dct_dict {T : Kits} {ks : List Key} : isiV T h [(.dct ks l), .ty "dict"] = some (.bl true) := nr rfl
end
/-! ### loops over a range, a list -/
theorem rangeL_get {n i : Nat} {lo : Int} {v : Val} (e : (rangeL lo n)[i]? = some v) : i < n ∧ v = .int (lo + (i : Int)) := by
  unfold rangeL at e
  rw [List.getElem?_map] at e
  cases q : (List.range n)[i]? with
  | none => rw [q] at e; cases e
  | some j =>
    rw [q] at e
    obtain ⟨q1, q2⟩ := List.getElem?_eq_some_iff.mp q
    rw [List.getElem_range] at q2
    rw [List.length_range] at q1
    cases e
    subst q2
    exact ⟨q1, rfl⟩
theorem rangeL_length {n : Nat} {lo : Int} : (rangeL lo n).length = n := by simp [rangeL]
theorem for_range {mb : Rho → M Fl} {s n : Nat} {lo : Int} (R : Nat → Rho) (Hh : Nat → Hs) (st : ∀ i, i < n → mb ((R i).set s (some (.int (lo + (i : Int))))) (Hh i) = .ok (.next (R (i + 1))) (Hh (i + 1))) :
    forL (tgName s) mb (rangeL lo n) (R 0) (Hh 0) = .ok (.next (R n)) (Hh n) := by
  have := forL_inv (f := tgName s) (mb := mb) (g := fun i : Nat => i) R Hh (rangeL lo n) 0 (fun i v e => by
    obtain ⟨h1, rfl⟩ := rangeL_get e
    rw [Nat.zero_add]
    exact ⟨_, rfl, st i h1⟩)
  rw [rangeL_length, Nat.zero_add] at this
  exact this
theorem rng_int {j : Int} (e : -4611686018427387904 ≤ j) (e2 : j < 4611686018427387904) : rngV [.int j] = some (rangeL 0 j.toNat) := by
  show (if okR j = true then _ else _) = _
  rw [if_pos]
  unfold okR
  rw [Bool.and_eq_true, decide_eq_true_eq, decide_eq_true_eq]
  exact ⟨e, e2⟩
theorem rng_int2 {i j : Int} (e : -4611686018427387904 ≤ j) (e2 : j < 4611686018427387904) (e3 : -4611686018427387904 ≤ i) (e4 : i < 4611686018427387904) : rngV [.int i, .int j] = some (rangeL i (j - i).toNat) := by
  show (if (okR i && okR j) = true then _ else _) = _
  rw [if_pos]
  unfold okR
  rw [Bool.and_eq_true, Bool.and_eq_true, Bool.and_eq_true, decide_eq_true_eq, decide_eq_true_eq, decide_eq_true_eq, decide_eq_true_eq]
  exact ⟨⟨e3, e4⟩, e, e2⟩
theorem wipeR_nil {r : Rho} : wipeR r [] = r := nr rfl
theorem wipeR_cons {r : Rho} {n : Nat} {l : List Nat} : wipeR r (n :: l) = (wipeR r l).set n none := nr rfl
/-- a comprehension whose parts change nothing -/
theorem lc_map {f : TgF} {me : Rho → M Val} {F : Val → Val} {l : List Val} {h : Hs} {r : Rho} (hl : l.length ≤ sizeLine) (st : ∀ v ∈ l, ∃ ρ1, f h v r = some ρ1 ∧ me ρ1 h = .ok (F v) h) :
    lcM f (fun _ => pure true) me r l h = .ok (.lst (l.map F)) h := by
  unfold lcM
  rw [if_pos hl, lcM_map st]
theorem lc_range {me : Rho → M Val} {s n : Nat} {h : Hs} {r : Rho} (G : Nat → Val) (hn : n ≤ sizeLine) (st : ∀ i : Nat, i < n → me (r.set s (some (.int (0 + (i : Int))))) h = .ok (G i) h) :
    lcM (tgName s) (fun _ => pure true) me r (rangeL 0 n) h = .ok (.lst ((List.range n).map G)) h := by
  have := lc_map (f := tgName s) (me := me) (F := fun v => match v with | .int i => G i.toNat | _ => .non) (l := rangeL 0 n) (h := h) (r := r) (by rw [rangeL_length]; exact hn) (fun v hv => by
    obtain ⟨i, e⟩ := List.mem_iff_getElem?.mp hv
    obtain ⟨h1, rfl⟩ := rangeL_get e
    refine ⟨_, rfl, ?_⟩
    rw [st i h1]
    show _ = Out.ok (G (0 + (i : Int)).toNat) h
    rw [show (0 + (i : Int)).toNat = i by omega])
  rw [this]
  unfold rangeL
  rw [List.map_map]
  congr 2
  refine List.map_congr_left fun i _ => ?_
  show G (0 + (i : Int)).toNat = G i
  rw [show (0 + (i : Int)).toNat = i by omega]
theorem intsOf_map {α : Type} {G : α → Int} : ∀ l : List α, intsOf (l.map fun i => .int (G i)) = some (l.map G)
  | [] => rfl
  | a :: l => by
    rw [List.map_cons]
    unfold intsOf
    rw [intsOf_map l]
    rfl
theorem sum_map {α : Type} {G : α → Int} {l : List α} {h : Hs} : list1 (fun l => (intsOf l).map fun ns => .int ns.sum) h [.lst (l.map fun i => .int (G i))] = some (.int (l.map G).sum) := by
  show (intsOf _).map _ = _
  rw [intsOf_map]
  rfl
theorem boolsOf_map {α : Type} {G : α → Bool} : ∀ l : List α, boolsOf (l.map fun i => .bl (G i)) = some (l.map G)
  | [] => rfl
  | a :: l => by
    rw [List.map_cons]
    unfold boolsOf
    rw [boolsOf_map l]
    rfl
theorem all_map {α : Type} {G : α → Bool} {l : List α} {h : Hs} : list1 (fun l => (boolsOf l).map fun ns => .bl (ns.all id)) h [.lst (l.map fun i => .bl (G i))] = some (.bl (l.all G)) := by
  show (boolsOf _).map _ = _
  rw [boolsOf_map]
  show some (Val.bl ((l.map G).all id)) = _
  rw [List.all_map]
  rfl
theorem compL_filter {f : TgF} {c : Rho → M Bool} {me : Rho → M Val} {B : Val → Bool} {h : Hs} {r : Rho} : ∀ {l : List Val}, (∀ v ∈ l, ∃ ρ1, f h v r = some ρ1 ∧ c ρ1 h = .ok (B v) h ∧ me ρ1 h = .ok v h) → compL f c me r l h = .ok (l.filter B) h
  | [], _ => rfl
  | v :: l, st => by
    obtain ⟨ρ1, e1, e2, e3⟩ := st v List.mem_cons_self
    have ih := compL_filter (l := l) (f := f) (c := c) (me := me) (B := B) fun w hw => st w (List.mem_cons_of_mem _ hw)
    unfold compL
    rw [e1]
    cases hb : B v with
    | true =>
      rw [hb] at e2
      simp only [bind_app, pure_app, bd_ok, if_true, e2, e3, ih]
      rw [List.filter_cons, hb]
      rfl
    | false =>
      rw [hb] at e2
      simp only [bind_app, pure_app, bd_ok, Bool.false_eq_true, if_false, e2, ih]
      rw [List.filter_cons, hb]
      rfl
theorem lc_filter {f : TgF} {c : Rho → M Bool} {me : Rho → M Val} {B : Val → Bool} {h : Hs} {r : Rho} {l : List Val} (hl : l.length ≤ sizeLine) (st : ∀ v ∈ l, ∃ ρ1, f h v r = some ρ1 ∧ c ρ1 h = .ok (B v) h ∧ me ρ1 h = .ok v h) : lcM f c me r l h = .ok (.lst (l.filter B)) h := by
  unfold lcM
  rw [if_pos hl, compL_filter st]
theorem addV_str {h : Hs} {x y : Str} (e : x.length + y.length ≤ sizeLine) : addV h (.str x) (.str y) = some (.str (x ++ y)) := by
  show (if x.length + y.length ≤ sizeLine then _ else _) = _
  rw [if_pos e]
/-- lists of texts, as data -/
theorem datL_strs {h : Hs} {n : Nat} : ∀ ys : List Str, datL (datV h (n + 1)) (ys.map Val.str) = some (ys.map PyData.str)
  | [] => rfl
  | y :: ys => by
    have ih := datL_strs (h := h) (n := n) ys
    show (match datV h (n + 1) (.str y), datL (datV h (n + 1)) (ys.map Val.str) with
      | some d, some ds => some (d :: ds)
      | _, _ => none) = _
    rw [ih]
    rfl
theorem canLay_strs : ∀ {ys : List Str}, (∀ y ∈ ys, PyData.strOk y = true) → PyData.canLayAll0 (ys.map PyData.str) = true
  | [], _ => rfl
  | y :: ys, h => by
    show (PyData.strOk y && PyData.canLayAll0 (ys.map PyData.str)) = true
    rw [h y List.mem_cons_self, canLay_strs fun z hz => h z (List.mem_cons_of_mem _ hz)]
    rfl
theorem depth_strs : ∀ {ys : List Str}, PyData.depthAll (ys.map PyData.str) = 0
  | [] => rfl
  | y :: ys => by
    show max 0 (PyData.depthAll (ys.map PyData.str)) = 0
    rw [depth_strs]
    rfl
theorem eq_nil_strs {h : Hs} {ys : List Str} (e : ∀ y ∈ ys, PyData.strOk y = true) : cmpV .Eq h (.lst (ys.map Val.str)) (.lst []) = some (.bl ys.isEmpty) := by
  have e1 : datV h 64 (.lst (ys.map Val.str)) = some (.list (ys.map PyData.str)) := by
    show (datL (datV h 63) (ys.map Val.str)).map PyData.list = _
    rw [datL_strs (n := 62)]
    rfl
  have e2 : SeqAt.shaped (.list (ys.map PyData.str)) = true := by
    show (PyData.canLayAll0 (ys.map PyData.str) && decide (PyData.depthAll (ys.map PyData.str) + 1 ≤ 64)) = true
    rw [canLay_strs e, depth_strs]
    rfl
  show (match datV h 64 (.lst (ys.map Val.str)), datV h 64 (.lst []) with
    | some d, some e => if (SeqAt.shaped d && SeqAt.shaped e) = true then some (PyData.eqv d e) else none
    | _, _ => none).map Val.bl = _
  rw [e1]
  show (if (SeqAt.shaped (.list (ys.map PyData.str)) && true) = true then some (PyData.eqv (.list (ys.map PyData.str)) (.list [])) else none).map Val.bl = _
  rw [e2]
  cases ys <;> rfl
theorem strOk_app {x y : Str} (hx : PyData.strOk x = true) (hy : PyData.strOk y = true) : PyData.strOk (x ++ y) = true := by
  show (x.cps ++ y.cps).all _ = true
  rw [Array.all_append]
  exact Bool.and_eq_true_iff.mpr ⟨hx, hy⟩
theorem strOk_mem {x : Str} (h : PyData.strOk x = true) {c : Nat} (hc : c ∈ x.cps.toList) : PyData.strOk ⟨#[c]⟩ = true := by
  have := Array.all_eq_true_iff_forall_mem.mp h c (Array.mem_toList_iff.mp hc)
  show (#[c] : Array Nat).all _ = true
  simpa using this
theorem strOk_of {x : Str} (h : ∀ c ∈ x.cps.toList, c < 1114112) : PyData.strOk x = true := by
  refine Array.all_eq_true_iff_forall_mem.mpr fun c hc => ?_
  exact decide_eq_true (h c (Array.mem_toList_iff.mpr hc))
theorem strOk_lt {x : Str} (h : PyData.strOk x = true) {c : Nat} (hc : c ∈ x.cps.toList) : c < 1114112 := of_decide_eq_true (Array.all_eq_true_iff_forall_mem.mp h c (Array.mem_toList_iff.mp hc))
theorem strOk_cut {z : Str} {lo hi : Option Int} (h : PyData.strOk z = true) : PyData.strOk (cutS z lo hi) = true := by
  refine strOk_of fun c hc => strOk_lt h ?_
  unfold cutS at hc
  exact List.mem_of_mem_drop (List.mem_of_mem_take (by simpa using hc))
theorem cut_length {z : Str} {lo hi : Option Int} : (cutS z lo hi).length ≤ z.length := by
  unfold cutS
  show (List.toArray _).size ≤ z.cps.size
  rw [List.size_toArray, List.length_take, List.length_drop, Array.length_toList]
  omega
theorem strOk_join {sep : Str} (hs : PyData.strOk sep = true) : ∀ {ys : List Str}, (∀ y ∈ ys, PyData.strOk y = true) → PyData.strOk (Str.join sep ys) = true
  | [], _ => by
    show PyData.strOk Str.empty = true
    decide +kernel
  | [x], h => h x List.mem_cons_self
  | x :: y :: r, h => strOk_app (strOk_app (h x List.mem_cons_self) hs) (strOk_join hs fun z hz => h z (List.mem_cons_of_mem _ hz))
theorem txt_join {sep : Str} {ys : List Str} : Txt.join sep ys = Str.join sep ys := StrLaws.glued_eq_join sep ys
theorem str_ix {z : Str} {h : Hs} {i : Int} (hz : z.length ≤ sizeLine) (h0 : 0 ≤ i) (h1 : i < z.length) : ∃ c, c ∈ z.cps.toList ∧ ∀ h, ixV h (.str z) (.int i) = some (.str ⟨#[c]⟩) := by
  have hl : i.toNat < z.cps.toList.length := by rw [Array.length_toList]; show i.toNat < z.length; omega
  refine ⟨z.cps.toList[i.toNat], List.getElem_mem hl, fun h => ?_⟩
  rw [ixV_str hz, atI_pos h0, List.getElem?_eq_getElem hl]
  rfl
theorem slV_str {h : Hs} {z : Str} {lo hi : Option Int} (e : z.length ≤ sizeLine) : slV h (.str z) lo hi = some (.str (cutS z lo hi)) := by
  show (if z.length ≤ sizeLine then _ else _) = _
  rw [if_pos e]
theorem atI_mem {l : List Val} {i : Int} (h0 : 0 ≤ i) (h1 : i < l.length) : ∃ v, v ∈ l ∧ atI l i = some v := by
  have hl : i.toNat < l.length := by omega
  exact ⟨l[i.toNat], List.getElem_mem hl, by rw [atI_pos h0, List.getElem?_eq_getElem hl]⟩
/-- a comprehension that changes a state -/
theorem compL_inv {α : Type} (Hh : α → Hs) (P : Val → Prop) {f : TgF} {me : Rho → M Val} {r : Rho} : ∀ {l : List Val}, (∀ v ∈ l, ∀ a, ∃ ρ1 x b, f (Hh a) v r = some ρ1 ∧ me ρ1 (Hh a) = .ok x (Hh b) ∧ P x) → ∀ a, ∃ xs b, compL f (fun _ => pure true) me r l (Hh a) = .ok xs (Hh b) ∧ (∀ x ∈ xs, P x) ∧ xs.length = l.length
  | [], _, a => ⟨[], a, rfl, (fun _ h => nomatch h), rfl⟩
  | v :: l, st, a => by
    obtain ⟨ρ1, x, b, e1, e2, px⟩ := st v List.mem_cons_self a
    obtain ⟨xs, c, e3, pxs, hl⟩ := compL_inv Hh P (l := l) (f := f) (me := me) (r := r) (fun w hw => st w (List.mem_cons_of_mem _ hw)) b
    refine ⟨x :: xs, c, ?_, ?_, by rw [List.length_cons, List.length_cons, hl]⟩
    · unfold compL
      rw [e1]
      simp only [bind_app, pure_app, bd_ok, if_true, e2, e3]
    · intro y hy
      rcases List.mem_cons.mp hy with q | q
      · rw [q]; exact px
      · exact pxs y q
theorem lc_inv {α : Type} (Hh : α → Hs) (P : Val → Prop) {f : TgF} {me : Rho → M Val} {r : Rho} {l : List Val} (hl : l.length ≤ sizeLine) (st : ∀ v ∈ l, ∀ a, ∃ ρ1 x b, f (Hh a) v r = some ρ1 ∧ me ρ1 (Hh a) = .ok x (Hh b) ∧ P x) (a : α) :
    ∃ xs b, lcM f (fun _ => pure true) me r l (Hh a) = .ok (.lst xs) (Hh b) ∧ (∀ x ∈ xs, P x) ∧ xs.length = l.length := by
  obtain ⟨xs, b, e, h1, h2⟩ := compL_inv Hh P st a
  refine ⟨xs, b, ?_, h1, h2⟩
  unfold lcM
  rw [if_pos hl, e]
/-! ### the law's draw: what _law_mix does to its state -/
structure LSt where
  a : Int
  b : Int
def LSt.ob (s : LSt) : Option Ob := some (.lst [.int s.a, .int s.b])
def absI (c : Int) : Int := if c < 0 then -c else c
def mixB (s : LSt) (c : Int) : Int := if 10 ^ 18 ≤ absI c then absI c else s.b
def mixA (s : LSt) (c : Int) : Int := (s.a * 48271 + c % 2147483647 * 16807 + 11) % 2147483647
def mixV (s : LSt) (c : Int) : Int := if 1 < mixB s c then mixB s c % 429496730 else mixA s c * mixA s c % 2147483647 / 5
def mixN (s : LSt) (c : Int) : LSt := if 1 < mixB s c then ⟨s.a, mixB s c / 429496730⟩ else ⟨mixA s c, mixB s c⟩
theorem mixV_bound (s : LSt) (c : Int) : 0 ≤ mixV s c ∧ mixV s c < 429496730 := by
  unfold mixV
  split
  · omega
  · omega
def mirMix (cl : Cl) (a0 a1 : Val) : M Val := endF (seqS [fun r => ifS (cmpT .GtE (bltE absV1 [varE r 1]) (binE powV (kE (.int 10)) (kE (.int 18)))) (seqS [fun r => ixS (varE r 0) (kE (.int 1)) (bltE absV1 [varE r 1]) r]) (seqS []) r, fun r => ifS (cmpT .Gt (ixE (varE r 0) (kE (.int 1))) (kE (.int 1))) (seqS [fun r => setS 2 (binE modV (ixE (varE r 0) (kE (.int 1))) (kE (.int 429496730))) r, fun r => ixS (varE r 0) (kE (.int 1)) (binE fdvV (ixE (varE r 0) (kE (.int 1))) (kE (.int 429496730))) r, fun r => retS (varE r 2) r]) (seqS []) r, fun r => ixS (varE r 0) (kE (.int 0)) (binE modV (binE addV (binE addV (binE mulV (ixE (varE r 0) (kE (.int 0))) (kE (.int 48271))) (binE mulV (binE modV (varE r 1) (kE (.int 2147483647))) (kE (.int 16807)))) (kE (.int 11))) (kE (.int 2147483647))) r, fun r => retS (binE fdvV (binE modV (binE mulV (ixE (varE r 0) (kE (.int 0))) (ixE (varE r 0) (kE (.int 0)))) (kE (.int 2147483647))) (kE (.int 5))) r] [some a0, some a1, none])
theorem mirMix_ok (cl : Cl) (s : LSt) (c : Int) (hs : Hs) : mirMix cl (.loc 0) (.int c) (s.ob :: hs) = .ok (.int (mixV s c)) ((mixN s c).ob :: hs) := by
  have step1 : ∀ b, (s.a * 48271 + c % 2147483647 * 16807 + 11) % 2147483647 = b → -18446744073709551616 < b ∧ b < 18446744073709551616 := by
    intro b e
    omega
  have e18 : ((10 : Int) ^ (Int.toNat 18)) = 10 ^ 18 := rfl
  by_cases h1 : 10 ^ 18 ≤ absI c
  · by_cases h2 : 1 < absI c
    · have eb : mixB s c = absI c := if_pos h1
      unfold mixV mixN
      rw [eb, if_pos h2, if_pos h2]
      unfold absI at h1 h2 ⊢
      simp only [mirMix, Int.reduceLE, Int.reduceLT, Int.reduceEq, Int.reduceNe, Int.reduceAdd, Int.reduceSub, Int.reduceMul, Int.reduceToNat, Int.reduceNeg, Int.reduceBNe, Nat.reduceAdd, Nat.reduceLT, Nat.reduceLeDiff, Nat.reduceEqDiff, Int.ofNat_eq_natCast, ne_eq, not_false_eq_true, and_self, true_or, or_true, pure_app, bad_app, bd_ok, bd_exc, bd_bad, bd_ite, liftO_some, liftO_none, liftO_ite, liftB_some, we_ok, we_exc, we_bad, we_ite, an_next, an_ret, an_brk, an_cont, an_rse, an_bad, an_ite, en_ret, en_next, en_rse, en_bad, en_ite, lp_next, lp_cont, lp_brk, lp_ret, lp_rse, lp_bad, lp_ite, endF_app, forL_nil, varE_z, varE_s, kE_app, tyE_app, binE_app, notE_app, negE_app, negV_int, andE_app, orE_app, cmpE_app, cmp2E_app, iteE_app, evs_nil, evs_cons, lstE_app, newE_app, tupE_app, ixE_app, partO_none, partO_some, intO_int, Option.map_some, Option.bind_some, slE_app, callF_app, bltE_app, rngI_app, rngI2_app, rng1_app, rng2_app, seqI_app, walk_lst, walk_scr, walk_tup, walk_str, lcF_app, truT_app, notT_app, andT_app, orT_app, blO_bl, cmpT_app, cmp2T_app, exprS_app, retS_app, ifS_app, forS_app, setS_app, nxO_some, tupS_app, ixS_app, augS_app, seqS_nil, seqS_cons, addV_int, subV_int, iaddV_int, mulV_int, modV_int, fdvV_int, powV_int, shlV_int, shrV_int, andV_int, iorV_int, cmp_lt, cmp_le, cmp_gt, cmp_ge, cmp_eqi, cmp_nei, cmp_eqs, cmp_nes, tru_bl, tru_int, tru_non, abs_int, ite_app, List.set_cons_zero, List.set_cons_succ, decide_eq_true_eq, Bool.and_eq_true, Bool.or_eq_true, Bool.not_eq_true', decide_eq_false_iff_not, if_true, if_false, Bool.false_eq_true, not_true_eq_false, Bool.not_true, Bool.not_false, decide_true, decide_false, Bool.true_eq_false, ixV_loc, ixV_locs, setIx_loc, ixV_lst, ixV_tup, ixV_scr, rng_int, wipeR_nil, wipeR_cons, atI_pos, List.length_cons, List.length_nil, List.getElem?_cons_zero, List.getElem?_cons_succ, isi_non_int, isi_non_bool, isi_non_str, isi_non_tuple, isi_non_list, isi_non_dict, isi_bl_int, isi_bl_bool, isi_bl_str, isi_bl_tuple, isi_bl_list, isi_bl_dict, isi_int_int, isi_int_bool, isi_int_str, isi_int_tuple, isi_int_list, isi_int_dict, isi_str_int, isi_str_bool, isi_str_str, isi_str_tuple, isi_str_list, isi_str_dict, isi_tup_int, isi_tup_bool, isi_tup_str, isi_tup_tuple, isi_tup_list, isi_tup_dict, isi_lst_int, isi_lst_bool, isi_lst_str, isi_lst_tuple, isi_lst_list, isi_lst_dict, isi_scr_int, isi_scr_bool, isi_scr_str, isi_scr_tuple, isi_scr_list, isi_scr_dict, isi_dct_int, isi_dct_bool, isi_dct_str, isi_dct_tuple, isi_dct_list, isi_dct_dict, metE_app, met_split, met_join, met_append, nx_ok, newD_app, len_lst, len_scr, len_tup, cmp_is_bl, cmp_isnot_bl, cmp_eqb, cmp_neb, tru_str, cmp_in_s, cmp_notin_s, LSt.ob, h1, h2, e18, powV_int]
    · exact absurd h1 (by omega)
  · have eb : mixB s c = s.b := if_neg h1
    unfold mixV mixN
    rw [eb]
    unfold mixA
    unfold absI at h1
    by_cases h2 : 1 < s.b
    · rw [if_pos h2, if_pos h2]
      simp only [mirMix, Int.reduceLE, Int.reduceLT, Int.reduceEq, Int.reduceNe, Int.reduceAdd, Int.reduceSub, Int.reduceMul, Int.reduceToNat, Int.reduceNeg, Int.reduceBNe, Nat.reduceAdd, Nat.reduceLT, Nat.reduceLeDiff, Nat.reduceEqDiff, Int.ofNat_eq_natCast, ne_eq, not_false_eq_true, and_self, true_or, or_true, pure_app, bad_app, bd_ok, bd_exc, bd_bad, bd_ite, liftO_some, liftO_none, liftO_ite, liftB_some, we_ok, we_exc, we_bad, we_ite, an_next, an_ret, an_brk, an_cont, an_rse, an_bad, an_ite, en_ret, en_next, en_rse, en_bad, en_ite, lp_next, lp_cont, lp_brk, lp_ret, lp_rse, lp_bad, lp_ite, endF_app, forL_nil, varE_z, varE_s, kE_app, tyE_app, binE_app, notE_app, negE_app, negV_int, andE_app, orE_app, cmpE_app, cmp2E_app, iteE_app, evs_nil, evs_cons, lstE_app, newE_app, tupE_app, ixE_app, partO_none, partO_some, intO_int, Option.map_some, Option.bind_some, slE_app, callF_app, bltE_app, rngI_app, rngI2_app, rng1_app, rng2_app, seqI_app, walk_lst, walk_scr, walk_tup, walk_str, lcF_app, truT_app, notT_app, andT_app, orT_app, blO_bl, cmpT_app, cmp2T_app, exprS_app, retS_app, ifS_app, forS_app, setS_app, nxO_some, tupS_app, ixS_app, augS_app, seqS_nil, seqS_cons, addV_int, subV_int, iaddV_int, mulV_int, modV_int, fdvV_int, powV_int, shlV_int, shrV_int, andV_int, iorV_int, cmp_lt, cmp_le, cmp_gt, cmp_ge, cmp_eqi, cmp_nei, cmp_eqs, cmp_nes, tru_bl, tru_int, tru_non, abs_int, ite_app, List.set_cons_zero, List.set_cons_succ, decide_eq_true_eq, Bool.and_eq_true, Bool.or_eq_true, Bool.not_eq_true', decide_eq_false_iff_not, if_true, if_false, Bool.false_eq_true, not_true_eq_false, Bool.not_true, Bool.not_false, decide_true, decide_false, Bool.true_eq_false, ixV_loc, ixV_locs, setIx_loc, ixV_lst, ixV_tup, ixV_scr, rng_int, wipeR_nil, wipeR_cons, atI_pos, List.length_cons, List.length_nil, List.getElem?_cons_zero, List.getElem?_cons_succ, isi_non_int, isi_non_bool, isi_non_str, isi_non_tuple, isi_non_list, isi_non_dict, isi_bl_int, isi_bl_bool, isi_bl_str, isi_bl_tuple, isi_bl_list, isi_bl_dict, isi_int_int, isi_int_bool, isi_int_str, isi_int_tuple, isi_int_list, isi_int_dict, isi_str_int, isi_str_bool, isi_str_str, isi_str_tuple, isi_str_list, isi_str_dict, isi_tup_int, isi_tup_bool, isi_tup_str, isi_tup_tuple, isi_tup_list, isi_tup_dict, isi_lst_int, isi_lst_bool, isi_lst_str, isi_lst_tuple, isi_lst_list, isi_lst_dict, isi_scr_int, isi_scr_bool, isi_scr_str, isi_scr_tuple, isi_scr_list, isi_scr_dict, isi_dct_int, isi_dct_bool, isi_dct_str, isi_dct_tuple, isi_dct_list, isi_dct_dict, metE_app, met_split, met_join, met_append, nx_ok, newD_app, len_lst, len_scr, len_tup, cmp_is_bl, cmp_isnot_bl, cmp_eqb, cmp_neb, tru_str, cmp_in_s, cmp_notin_s, LSt.ob, h1, h2, e18]
    · rw [if_neg h2, if_neg h2]
      have q := step1 _ rfl
      simp only [mirMix, Int.reduceLE, Int.reduceLT, Int.reduceEq, Int.reduceNe, Int.reduceAdd, Int.reduceSub, Int.reduceMul, Int.reduceToNat, Int.reduceNeg, Int.reduceBNe, Nat.reduceAdd, Nat.reduceLT, Nat.reduceLeDiff, Nat.reduceEqDiff, Int.ofNat_eq_natCast, ne_eq, not_false_eq_true, and_self, true_or, or_true, pure_app, bad_app, bd_ok, bd_exc, bd_bad, bd_ite, liftO_some, liftO_none, liftO_ite, liftB_some, we_ok, we_exc, we_bad, we_ite, an_next, an_ret, an_brk, an_cont, an_rse, an_bad, an_ite, en_ret, en_next, en_rse, en_bad, en_ite, lp_next, lp_cont, lp_brk, lp_ret, lp_rse, lp_bad, lp_ite, endF_app, forL_nil, varE_z, varE_s, kE_app, tyE_app, binE_app, notE_app, negE_app, negV_int, andE_app, orE_app, cmpE_app, cmp2E_app, iteE_app, evs_nil, evs_cons, lstE_app, newE_app, tupE_app, ixE_app, partO_none, partO_some, intO_int, Option.map_some, Option.bind_some, slE_app, callF_app, bltE_app, rngI_app, rngI2_app, rng1_app, rng2_app, seqI_app, walk_lst, walk_scr, walk_tup, walk_str, lcF_app, truT_app, notT_app, andT_app, orT_app, blO_bl, cmpT_app, cmp2T_app, exprS_app, retS_app, ifS_app, forS_app, setS_app, nxO_some, tupS_app, ixS_app, augS_app, seqS_nil, seqS_cons, addV_int, subV_int, iaddV_int, mulV_int, modV_int, fdvV_int, powV_int, shlV_int, shrV_int, andV_int, iorV_int, cmp_lt, cmp_le, cmp_gt, cmp_ge, cmp_eqi, cmp_nei, cmp_eqs, cmp_nes, tru_bl, tru_int, tru_non, abs_int, ite_app, List.set_cons_zero, List.set_cons_succ, decide_eq_true_eq, Bool.and_eq_true, Bool.or_eq_true, Bool.not_eq_true', decide_eq_false_iff_not, if_true, if_false, Bool.false_eq_true, not_true_eq_false, Bool.not_true, Bool.not_false, decide_true, decide_false, Bool.true_eq_false, ixV_loc, ixV_locs, setIx_loc, ixV_lst, ixV_tup, ixV_scr, rng_int, wipeR_nil, wipeR_cons, atI_pos, List.length_cons, List.length_nil, List.getElem?_cons_zero, List.getElem?_cons_succ, isi_non_int, isi_non_bool, isi_non_str, isi_non_tuple, isi_non_list, isi_non_dict, isi_bl_int, isi_bl_bool, isi_bl_str, isi_bl_tuple, isi_bl_list, isi_bl_dict, isi_int_int, isi_int_bool, isi_int_str, isi_int_tuple, isi_int_list, isi_int_dict, isi_str_int, isi_str_bool, isi_str_str, isi_str_tuple, isi_str_list, isi_str_dict, isi_tup_int, isi_tup_bool, isi_tup_str, isi_tup_tuple, isi_tup_list, isi_tup_dict, isi_lst_int, isi_lst_bool, isi_lst_str, isi_lst_tuple, isi_lst_list, isi_lst_dict, isi_scr_int, isi_scr_bool, isi_scr_str, isi_scr_tuple, isi_scr_list, isi_scr_dict, isi_dct_int, isi_dct_bool, isi_dct_str, isi_dct_tuple, isi_dct_list, isi_dct_dict, metE_app, met_split, met_join, met_append, nx_ok, newD_app, len_lst, len_scr, len_tup, cmp_is_bl, cmp_isnot_bl, cmp_eqb, cmp_neb, tru_str, cmp_in_s, cmp_notin_s, LSt.ob, h1, h2, e18, q]
end Ev

namespace K02
open PySem PySem.Spec PyProof.Rows L2 Ev
def top (i : Nat) : Stmt := PySem.Challenge.pw_mirrorwalk_k02_words_and_names.main.body.getD i (.Pass ⟨0, 0, 0, 0⟩)
def dc_is_whole : Dc := ⟨("is_whole", none), "is_whole", "is_whole", top 7, [("thing" : Str)], [("thing" : Str)], []⟩
def dc_is_word : Dc := ⟨("is_word", none), "is_word", "is_word", top 8, [("thing" : Str)], [("thing" : Str)], []⟩
def dc_is_name : Dc := ⟨("is_name", none), "is_name", "is_name", top 9, [("thing" : Str)], [("thing" : Str), ("sign" : Str)], []⟩
def dc_law_cell : Dc := ⟨("_law_cell", none), "_law_cell", "_law_cell", top 11, [("_law_script" : Str), ("_law_k" : Str)], [("_law_script" : Str), ("_law_k" : Str)], []⟩
def dc_law_mix : Dc := ⟨("_law_mix", none), "_law_mix", "_law_mix", top 12, [("_law_state" : Str), ("_law_cell_here" : Str)], [("_law_state" : Str), ("_law_cell_here" : Str), ("_law_found" : Str)], []⟩
def dc_law_thing : Dc := ⟨("_law_thing", none), "_law_thing", "_law_thing", top 13, [("_law_state" : Str)], [("_law_state" : Str), ("_law_way" : Str), ("_law_some" : Str)], []⟩
def dc_law_kept : Dc := ⟨("_law_kept", none), "_law_kept", "_law_kept", top 14, [], [("_law_kept_here" : Str)], []⟩
def dc_law_label : Dc := ⟨("_law_label", none), "_law_label", "_law_label", top 15, [("_law_state" : Str)], [("_law_state" : Str), ("_law_kept_here" : Str), ("_law_way" : Str), ("_law_signs" : Str), ("_law_k" : Str)], []⟩
def dc_law_is_name : Dc := ⟨("_law_is_name", none), "_law_is_name", "_law_is_name", top 16, [("_law_label_here" : Str)], [("_law_label_here" : Str), ("_law_sign" : Str)], []⟩
def dc_law_good : Dc := ⟨("_law_good", none), "_law_good", "_law_good", top 17, [("_law_state" : Str)], [("_law_state" : Str), ("_law_thing_here" : Str), ("_law_due" : Str), ("_law_found" : Str), ("_law_label_here" : Str)], []⟩
def dc_law : Dc := ⟨("law", none), "law", "law", top 18, [("_law_script" : Str)], [("_law_script" : Str), ("_law_state" : Str), ("_law_cell_here" : Str)], []⟩
def ds0 : List Dc := [dc_is_whole, dc_is_word, dc_is_name, dc_law_cell, dc_law_mix, dc_law_thing, dc_law_kept, dc_law_label, dc_law_is_name, dc_law_good, dc_law]
def ds : List Dc := ds0
def gl0 : List (Str × Val) := [(("MOST_WORD" : Str), ((.int 65535) : Val)), (("MOST_NAME" : Str), ((.int 12) : Val)), (("LETTERS" : Str), ((.str "abcdefghijklmnopqrstuvwxyz") : Val)), (("FIGURES" : Str), ((.str "0123456789") : Val)), (("KEPT" : Str), ((.tup [(.str "boxes"), (.str "stacks"), (.str "to"), (.str "swap"), (.str "turn"), (.str "push"), (.str "pop"), (.str "call"), (.str "back"), (.str "if"), (.str "else"), (.str "told")]) : Val)), (("MORE_KEPT" : Str), ((.tup [(.str "loop"), (.str "again"), (.str "until"), (.str "hold"), (.str "end"), (.str "not"), (.str "many"), (.str "top")]) : Val))]
def gl : List (Str × Val) := gl0
def fr0 : List Str := [("abs" : Str), ("all" : Str), ("bool" : Str), ("int" : Str), ("isinstance" : Str), ("len" : Str), ("range" : Str), ("str" : Str)]
def fr : List Str := fr0
def kits : Kits := ⟨[], []⟩
def tb : Tb := ⟨gl, fr, kits, ds.map Dc.i, [(62, 17)]⟩
def loose0 : List Str := [("MOST_WORD" : Str), ("MOST_NAME" : Str), ("LETTERS" : Str), ("FIGURES" : Str), ("KEPT" : Str), ("MORE_KEPT" : Str), ("is_whole" : Str), ("is_word" : Str), ("is_name" : Str), ("_law_cell" : Str), ("_law_mix" : Str), ("_law_thing" : Str), ("_law_kept" : Str), ("_law_label" : Str), ("_law_is_name" : Str), ("_law_good" : Str)]
def loose : List Str := loose0
theorem ok_dc_is_whole : DcOk dc_is_whole := ⟨rfl, .inl ⟨rfl, fun _ _ _ _ _ _ us hl => match us, hl with | [_], _ => rfl⟩, ⟨rfl, rfl, rfl, by decide +kernel, rfl, by decide +kernel, by decide +kernel⟩⟩
theorem ok_dc_is_word : DcOk dc_is_word := ⟨rfl, .inl ⟨rfl, fun _ _ _ _ _ _ us hl => match us, hl with | [_], _ => rfl⟩, ⟨rfl, rfl, rfl, by decide +kernel, rfl, by decide +kernel, by decide +kernel⟩⟩
theorem ok_dc_is_name : DcOk dc_is_name := ⟨rfl, .inl ⟨rfl, fun _ _ _ _ _ _ us hl => match us, hl with | [_], _ => rfl⟩, ⟨rfl, rfl, rfl, by decide +kernel, rfl, by decide +kernel, by decide +kernel⟩⟩
theorem ok_dc_law_cell : DcOk dc_law_cell := ⟨rfl, .inl ⟨rfl, fun _ _ _ _ _ _ us hl => match us, hl with | [_, _], _ => rfl⟩, ⟨rfl, rfl, rfl, by decide +kernel, rfl, by decide +kernel, by decide +kernel⟩⟩
theorem ok_dc_law_mix : DcOk dc_law_mix := ⟨rfl, .inl ⟨rfl, fun _ _ _ _ _ _ us hl => match us, hl with | [_, _], _ => rfl⟩, ⟨rfl, rfl, rfl, by decide +kernel, rfl, by decide +kernel, by decide +kernel⟩⟩
theorem ok_dc_law_thing : DcOk dc_law_thing := ⟨rfl, .inl ⟨rfl, fun _ _ _ _ _ _ us hl => match us, hl with | [_], _ => rfl⟩, ⟨rfl, rfl, rfl, by decide +kernel, rfl, by decide +kernel, by decide +kernel⟩⟩
theorem ok_dc_law_kept : DcOk dc_law_kept := ⟨rfl, .inl ⟨rfl, fun _ _ _ _ _ _ us hl => match us, hl with | [], _ => rfl⟩, ⟨rfl, rfl, rfl, by decide +kernel, rfl, by decide +kernel, by decide +kernel⟩⟩
theorem ok_dc_law_label : DcOk dc_law_label := ⟨rfl, .inl ⟨rfl, fun _ _ _ _ _ _ us hl => match us, hl with | [_], _ => rfl⟩, ⟨rfl, rfl, rfl, by decide +kernel, rfl, by decide +kernel, by decide +kernel⟩⟩
theorem ok_dc_law_is_name : DcOk dc_law_is_name := ⟨rfl, .inl ⟨rfl, fun _ _ _ _ _ _ us hl => match us, hl with | [_], _ => rfl⟩, ⟨rfl, rfl, rfl, by decide +kernel, rfl, by decide +kernel, by decide +kernel⟩⟩
theorem ok_dc_law_good : DcOk dc_law_good := ⟨rfl, .inl ⟨rfl, fun _ _ _ _ _ _ us hl => match us, hl with | [_], _ => rfl⟩, ⟨rfl, rfl, rfl, by decide +kernel, rfl, by decide +kernel, by decide +kernel⟩⟩
theorem ok_dc_law : DcOk dc_law := ⟨rfl, .inl ⟨rfl, fun _ _ _ _ _ _ us hl => match us, hl with | [_], _ => rfl⟩, ⟨rfl, rfl, rfl, by decide +kernel, rfl, by decide +kernel, by decide +kernel⟩⟩
theorem ds0_ok : ∀ d ∈ ds0, DcOk d := all_cons ok_dc_is_whole (all_cons ok_dc_is_word (all_cons ok_dc_is_name (all_cons ok_dc_law_cell (all_cons ok_dc_law_mix (all_cons ok_dc_law_thing (all_cons ok_dc_law_kept (all_cons ok_dc_law_label (all_cons ok_dc_law_is_name (all_cons ok_dc_law_good (all_cons ok_dc_law (all_nil)))))))))))
theorem ds_ok : ∀ d ∈ ds, DcOk d := ds0_ok
theorem fnd : ∀ e ∈ tb.defs, findD tb.defs e.key = some e := findD_nodup (by decide +kernel)
theorem law_in : dc_law ∈ ds := by
  have : ds.getLast? = some dc_law := by kernel_rfl
  exact List.mem_of_getLast? this
def mir_law_mix (cl : Cl) (a0 a1 : Val) : M Val := endF (seqS [fun r => ifS (cmpT .GtE (bltE absV1 [varE r 1]) (binE powV (kE (.int 10)) (kE (.int 18)))) (seqS [fun r => ixS (varE r 0) (kE (.int 1)) (bltE absV1 [varE r 1]) r]) (seqS []) r, fun r => ifS (cmpT .Gt (ixE (varE r 0) (kE (.int 1))) (kE (.int 1))) (seqS [fun r => setS 2 (binE modV (ixE (varE r 0) (kE (.int 1))) (kE (.int 429496730))) r, fun r => ixS (varE r 0) (kE (.int 1)) (binE fdvV (ixE (varE r 0) (kE (.int 1))) (kE (.int 429496730))) r, fun r => retS (varE r 2) r]) (seqS []) r, fun r => ixS (varE r 0) (kE (.int 0)) (binE modV (binE addV (binE addV (binE mulV (ixE (varE r 0) (kE (.int 0))) (kE (.int 48271))) (binE mulV (binE modV (varE r 1) (kE (.int 2147483647))) (kE (.int 16807)))) (kE (.int 11))) (kE (.int 2147483647))) r, fun r => retS (binE fdvV (binE modV (binE mulV (ixE (varE r 0) (kE (.int 0))) (ixE (varE r 0) (kE (.int 0)))) (kE (.int 2147483647))) (kE (.int 5))) r] [some a0, some a1, none])
theorem mir_law_mix_eq (cl : Cl) (a0 a1 : Val) : runD tb cl dc_law_mix.i [a0, a1] = mir_law_mix cl a0 a1 := by
  kernel_rfl
theorem call_law_mix (k : Nat) (a0 a1 : Val) : callN tb (k + 1) ("_law_mix", none) [a0, a1] = mir_law_mix (callN tb k) a0 a1 := by
  rw [← mir_law_mix_eq]
  exact callN_eq (d := dc_law_mix.i) (by kernel_rfl) _
theorem cd_law_mix (cl : Cl) (a0 a1 : Val) : callD cl dc_law_mix.i [a0, a1] = cl ("_law_mix", none) [a0, a1] := nr (by kernel_rfl)
def mir_law_thing (cl : Cl) (a0 : Val) : M Val := endF (seqS [fun r => setS 1 (binE modV (callF cl dc_law_mix.i [varE r 0, kE (.int 0)]) (kE (.int 16))) r, fun r => setS 2 (lstE [kE (.int 0), kE (.int 65535), kE (.int 65536), negE (kE (.int 1)), callF cl dc_law_mix.i [varE r 0, kE (.int 0)], binE powV (kE (.int 10)) (kE (.int 30)), kE (.bl true), kE (.bl false), kE .non, kE (.str "5"), lstE [kE (.int 5)], tupE [kE (.int 5)], dctE [(fun r => kE (.int 5), fun r => kE (.int 5))] r, kE (.str ""), kE (.dct [] []), kE (.int 1)]) r, fun r => retS (ixE (varE r 2) (varE r 1)) r] [some a0, none, none])
theorem mir_law_thing_eq (cl : Cl) (a0 : Val) : runD tb cl dc_law_thing.i [a0] = mir_law_thing cl a0 := by
  kernel_rfl
theorem call_law_thing (k : Nat) (a0 : Val) : callN tb (k + 1) ("_law_thing", none) [a0] = mir_law_thing (callN tb k) a0 := by
  rw [← mir_law_thing_eq]
  exact callN_eq (d := dc_law_thing.i) (by kernel_rfl) _
theorem cd_law_thing (cl : Cl) (a0 : Val) : callD cl dc_law_thing.i [a0] = cl ("_law_thing", none) [a0] := nr (by kernel_rfl)
def mir_is_whole (cl : Cl) (a0 : Val) : M Val := endF (seqS [fun r => retS (andE (bltE (isiV kits) [varE r 0, tyE "int"]) (notE (bltE (isiV kits) [varE r 0, tyE "bool"]))) r] [some a0])
theorem mir_is_whole_eq (cl : Cl) (a0 : Val) : runD tb cl dc_is_whole.i [a0] = mir_is_whole cl a0 := by
  kernel_rfl
theorem call_is_whole (k : Nat) (a0 : Val) : callN tb (k + 1) ("is_whole", none) [a0] = mir_is_whole (callN tb k) a0 := by
  rw [← mir_is_whole_eq]
  exact callN_eq (d := dc_is_whole.i) (by kernel_rfl) _
theorem cd_is_whole (cl : Cl) (a0 : Val) : callD cl dc_is_whole.i [a0] = cl ("is_whole", none) [a0] := nr (by kernel_rfl)
def mir_is_word (cl : Cl) (a0 : Val) : M Val := endF (seqS [fun r => retS (andE (callF cl dc_is_whole.i [varE r 0]) (cmp2E (kE (.int 0)) .LtE .LtE (varE r 0) (kE (.int 65535)))) r] [some a0])
theorem mir_is_word_eq (cl : Cl) (a0 : Val) : runD tb cl dc_is_word.i [a0] = mir_is_word cl a0 := by
  kernel_rfl
theorem call_is_word (k : Nat) (a0 : Val) : callN tb (k + 1) ("is_word", none) [a0] = mir_is_word (callN tb k) a0 := by
  rw [← mir_is_word_eq]
  exact callN_eq (d := dc_is_word.i) (by kernel_rfl) _
theorem cd_is_word (cl : Cl) (a0 : Val) : callD cl dc_is_word.i [a0] = cl ("is_word", none) [a0] := nr (by kernel_rfl)
def mir_law_kept (cl : Cl) : M Val := endF (seqS [fun r => setS 0 (kE (.str "boxes stacks to swap turn push pop call back if else told ")) r, fun r => retS (metE (binE addV (varE r 0) (kE (.str "loop again until hold end not many top"))) "split" [kE (.str " ")]) r] [none])
theorem mir_law_kept_eq (cl : Cl)  : runD tb cl dc_law_kept.i [] = mir_law_kept cl  := by
  kernel_rfl
theorem call_law_kept (k : Nat)  : callN tb (k + 1) ("_law_kept", none) [] = mir_law_kept (callN tb k)  := by
  rw [← mir_law_kept_eq]
  exact callN_eq (d := dc_law_kept.i) (by kernel_rfl) _
theorem cd_law_kept (cl : Cl) : callD cl dc_law_kept.i [] = cl ("_law_kept", none) [] := nr (by kernel_rfl)
def mir_law_label (cl : Cl) (a0 : Val) : M Val := endF (seqS [fun r => setS 1 (callF cl dc_law_kept.i []) r, fun r => setS 2 (binE modV (callF cl dc_law_mix.i [varE r 0, kE (.int 0)]) (kE (.int 6))) r, fun r => ifS (cmpT .Eq (varE r 2) (kE (.int 0))) (seqS [fun r => retS (ixE (varE r 1) (binE modV (callF cl dc_law_mix.i [varE r 0, kE (.int 0)]) (kE (.int 20)))) r]) (seqS []) r, fun r => ifS (cmpT .Eq (varE r 2) (kE (.int 1))) (seqS [fun r => retS (binE addV (ixE (varE r 1) (binE modV (callF cl dc_law_mix.i [varE r 0, kE (.int 0)]) (kE (.int 20)))) (ixE (kE (.str "abc1 ")) (binE modV (callF cl dc_law_mix.i [varE r 0, kE (.int 0)]) (kE (.int 5))))) r]) (seqS []) r, fun r => ifS (cmpT .Eq (varE r 2) (kE (.int 2))) (seqS [fun r => retS (slE (ixE (varE r 1) (binE modV (callF cl dc_law_mix.i [varE r 0, kE (.int 0)]) (kE (.int 20)))) none (some (negE (kE (.int 1))))) r]) (seqS []) r, fun r => setS 3 (binE addV (kE (.str "abcxyz019")) (slE (kE (.str "A_. -")) none (some (binE mulV (binE modV (callF cl dc_law_mix.i [varE r 0, kE (.int 0)]) (kE (.int 6))) (binE fdvV (binE modV (callF cl dc_law_mix.i [varE r 0, kE (.int 0)]) (kE (.int 3))) (kE (.int 2))))))) r, fun r => retS (metE (kE (.str "")) "join" [lcF (tgName 4) (rngI [binE modV (callF cl dc_law_mix.i [varE r 0, kE (.int 0)]) (kE (.int 15))]) (fun r => pure true) (fun r => ixE (varE r 3) (binE modV (callF cl dc_law_mix.i [varE r 0, kE (.int 0)]) (bltE lenV [varE r 3]))) r [4]]) r] [some a0, none, none, none, none])
theorem mir_law_label_eq (cl : Cl) (a0 : Val) : runD tb cl dc_law_label.i [a0] = mir_law_label cl a0 := by
  kernel_rfl
theorem call_law_label (k : Nat) (a0 : Val) : callN tb (k + 1) ("_law_label", none) [a0] = mir_law_label (callN tb k) a0 := by
  rw [← mir_law_label_eq]
  exact callN_eq (d := dc_law_label.i) (by kernel_rfl) _
theorem cd_law_label (cl : Cl) (a0 : Val) : callD cl dc_law_label.i [a0] = cl ("_law_label", none) [a0] := nr (by kernel_rfl)
def mir_is_name (cl : Cl) (a0 : Val) : M Val := endF (seqS [fun r => ifS (orT (notT (truT (bltE (isiV kits) [varE r 0, tyE "str"]))) (orT (notT (cmp2T (kE (.int 1)) .LtE .LtE (bltE lenV [varE r 0]) (kE (.int 12)))) (cmpT .In (varE r 0) (binE addV (kE (.tup [(.str "boxes"), (.str "stacks"), (.str "to"), (.str "swap"), (.str "turn"), (.str "push"), (.str "pop"), (.str "call"), (.str "back"), (.str "if"), (.str "else"), (.str "told")])) (kE (.tup [(.str "loop"), (.str "again"), (.str "until"), (.str "hold"), (.str "end"), (.str "not"), (.str "many"), (.str "top")])))))) (seqS [fun r => retS (kE (.bl false)) r]) (seqS []) r, fun r => retS (andE (cmpE .In (ixE (varE r 0) (kE (.int 0))) (kE (.str "abcdefghijklmnopqrstuvwxyz"))) (bltE (list1 fun l => (boolsOf l).map fun ns => .bl (ns.all id)) [lcF (tgName 1) (seqI (varE r 0)) (fun r => pure true) (fun r => cmpE .In (varE r 1) (binE addV (kE (.str "abcdefghijklmnopqrstuvwxyz")) (kE (.str "0123456789")))) r [1]])) r] [some a0, none])
theorem mir_is_name_eq (cl : Cl) (a0 : Val) : runD tb cl dc_is_name.i [a0] = mir_is_name cl a0 := by
  kernel_rfl
theorem call_is_name (k : Nat) (a0 : Val) : callN tb (k + 1) ("is_name", none) [a0] = mir_is_name (callN tb k) a0 := by
  rw [← mir_is_name_eq]
  exact callN_eq (d := dc_is_name.i) (by kernel_rfl) _
theorem cd_is_name (cl : Cl) (a0 : Val) : callD cl dc_is_name.i [a0] = cl ("is_name", none) [a0] := nr (by kernel_rfl)
def mir_law_is_name (cl : Cl) (a0 : Val) : M Val := endF (seqS [fun r => ifS (orT (cmpT .In (varE r 0) (callF cl dc_law_kept.i [])) (orT (cmpT .Eq (varE r 0) (kE (.str ""))) (orT (cmpT .Gt (bltE lenV [varE r 0]) (kE (.int 12))) (cmpT .NotIn (ixE (varE r 0) (kE (.int 0))) (kE (.str "abcdefghijklmnopqrstuvwxyz")))))) (seqS [fun r => retS (kE (.bl false)) r]) (seqS []) r, fun r => retS (cmpE .Eq (lcF (tgName 1) (seqI (varE r 0)) (fun r => cmpT .NotIn (varE r 1) (kE (.str "abcdefghijklmnopqrstuvwxyz0123456789"))) (fun r => varE r 1) r [1]) (lstE [])) r] [some a0, none])
theorem mir_law_is_name_eq (cl : Cl) (a0 : Val) : runD tb cl dc_law_is_name.i [a0] = mir_law_is_name cl a0 := by
  kernel_rfl
theorem call_law_is_name (k : Nat) (a0 : Val) : callN tb (k + 1) ("_law_is_name", none) [a0] = mir_law_is_name (callN tb k) a0 := by
  rw [← mir_law_is_name_eq]
  exact callN_eq (d := dc_law_is_name.i) (by kernel_rfl) _
theorem cd_law_is_name (cl : Cl) (a0 : Val) : callD cl dc_law_is_name.i [a0] = cl ("_law_is_name", none) [a0] := nr (by kernel_rfl)
def mir_law_good (cl : Cl) (a0 : Val) : M Val := endF (seqS [fun r => setS 1 (callF cl dc_law_thing.i [varE r 0]) r, fun r => setS 2 (andE (bltE (isiV kits) [varE r 1, tyE "int"]) (andE (notE (bltE (isiV kits) [varE r 1, tyE "bool"])) (andE (cmpE .GtE (varE r 1) (kE (.int 0))) (cmpE .LtE (varE r 1) (kE (.int 65535)))))) r, fun r => setS 3 (callF cl dc_is_word.i [varE r 1]) r, fun r => ifS (orT (notT (truT (bltE (isiV kits) [varE r 3, tyE "bool"]))) (orT (cmpT .NotEq (varE r 3) (varE r 2)) (cmpT .IsNot (callF cl dc_is_name.i [varE r 1]) (kE (.bl false))))) (seqS [fun r => retS (kE (.bl false)) r]) (seqS []) r, fun r => setS 4 (callF cl dc_law_label.i [varE r 0]) r, fun r => setS 3 (callF cl dc_is_name.i [varE r 4]) r, fun r => retS (andE (bltE (isiV kits) [varE r 3, tyE "bool"]) (andE (cmpE .Eq (varE r 3) (callF cl dc_law_is_name.i [varE r 4])) (cmpE .Is (callF cl dc_is_word.i [varE r 4]) (kE (.bl false))))) r] [some a0, none, none, none, none])
theorem mir_law_good_eq (cl : Cl) (a0 : Val) : runD tb cl dc_law_good.i [a0] = mir_law_good cl a0 := by
  kernel_rfl
theorem call_law_good (k : Nat) (a0 : Val) : callN tb (k + 1) ("_law_good", none) [a0] = mir_law_good (callN tb k) a0 := by
  rw [← mir_law_good_eq]
  exact callN_eq (d := dc_law_good.i) (by kernel_rfl) _
theorem cd_law_good (cl : Cl) (a0 : Val) : callD cl dc_law_good.i [a0] = cl ("_law_good", none) [a0] := nr (by kernel_rfl)
def mir_law (cl : Cl) (a0 : Val) : M Val := endF (seqS [fun r => setS 1 (newE [binE addV (kE (.int 1)) (bltE lenV [varE r 0]), kE (.int 0)]) r, fun r => ifS (notT (truT (callF cl dc_law_good.i [varE r 1]))) (seqS [fun r => retS (kE (.bl false)) r]) (seqS []) r, fun r => forS (tgName 2) (seqI (varE r 0)) (seqS [fun r => exprS (callF cl dc_law_mix.i [varE r 1, varE r 2]) r, fun r => ifS (notT (truT (callF cl dc_law_good.i [varE r 1]))) (seqS [fun r => retS (kE (.bl false)) r]) (seqS []) r]) r, fun r => retS (kE (.bl true)) r] [some a0, none, none])
theorem mir_law_eq (cl : Cl) (a0 : Val) : runD tb cl dc_law.i [a0] = mir_law cl a0 := by
  kernel_rfl
theorem call_law (k : Nat) (a0 : Val) : callN tb (k + 1) ("law", none) [a0] = mir_law (callN tb k) a0 := by
  rw [← mir_law_eq]
  exact callN_eq (d := dc_law.i) (by kernel_rfl) _
theorem cd_law (cl : Cl) (a0 : Val) : callD cl dc_law.i [a0] = cl ("law", none) [a0] := nr (by kernel_rfl)
end K02

namespace K02
open PySem PySem.Spec PyProof.Rows L2 Ev
theorem sp_mix (k : Nat) (s : LSt) (c : Int) (hs : Hs) : callN tb (k + 1) ("_law_mix", none) [.loc 0, .int c] (s.ob :: hs) = .ok (.int (mixV s c)) ((mixN s c).ob :: hs) := by
  rw [call_law_mix]
  exact mirMix_ok (callN tb k) s c hs
def keptS : List Str := [("boxes" : Str), ("stacks" : Str), ("to" : Str), ("swap" : Str), ("turn" : Str), ("push" : Str), ("pop" : Str), ("call" : Str), ("back" : Str), ("if" : Str), ("else" : Str), ("told" : Str), ("loop" : Str), ("again" : Str), ("until" : Str), ("hold" : Str), ("end" : Str), ("not" : Str), ("many" : Str), ("top" : Str)]
theorem sp_kept (k : Nat) (h : Hs) : callN tb (k + 1) ("_law_kept", none) [] h = .ok (.lst (keptS.map Val.str)) h := by
  rw [call_law_kept]
  kernel_rfl
def lettersS : Str := "abcdefghijklmnopqrstuvwxyz"
def signsS : Str := "abcdefghijklmnopqrstuvwxyz0123456789"
def firstS (s : Str) : Str := ⟨#[s.cps.getD 0 0]⟩
def isKept (s : Str) : Bool := inV (.str s) (keptS.map V.str)
def nameB (s : Str) : Bool := decide (1 ≤ s.length) && (decide (s.length ≤ 12) && (!isKept s && (inStr (firstS s) lettersS && s.cps.toList.all fun c => inStr ⟨#[c]⟩ signsS)))
theorem in_tup (s : Str) (h : Hs) : cmpV .In h (.str s) (.tup (keptS.map Val.str)) = some (.bl (isKept s)) := nr rfl
theorem in_lst (s : Str) (h : Hs) : cmpV .In h (.str s) (.lst (keptS.map Val.str)) = some (.bl (isKept s)) := nr rfl
theorem cat_kept (h : Hs) : addV h (.tup [(.str "boxes"), (.str "stacks"), (.str "to"), (.str "swap"), (.str "turn"), (.str "push"), (.str "pop"), (.str "call"), (.str "back"), (.str "if"), (.str "else"), (.str "told")]) (.tup [(.str "loop"), (.str "again"), (.str "until"), (.str "hold"), (.str "end"), (.str "not"), (.str "many"), (.str "top")]) = some (.tup (keptS.map Val.str)) := nr (by kernel_rfl)
theorem cat_signs (h : Hs) : addV h (.str "abcdefghijklmnopqrstuvwxyz") (.str "0123456789") = some (.str signsS) := nr (by kernel_rfl)
theorem first_ok {s : Str} {h : Hs} (l1 : 1 ≤ s.length) (l2 : s.length ≤ sizeLine) : ixV h (.str s) (.int 0) = some (.str (firstS s)) := by
  rw [ixV_str l2, atI_pos (by decide)]
  have : 0 < s.cps.size := l1
  show (s.cps.toList[0]?).map _ = _
  unfold firstS
  rw [Array.getElem?_toList, Array.getElem?_eq_getElem this]
  unfold Array.getD
  rw [dif_pos this]
  rfl
theorem sp_is_name (k : Nat) (s : Str) (h : Hs) (hz : s.length ≤ sizeLine) : callN tb (k + 1) ("is_name", none) [.str s] h = .ok (.bl (nameB s)) h := by
  rw [call_is_name]
  unfold nameB
  by_cases l1 : 1 ≤ s.length
  · have l1' : (1 : Int) ≤ (s.length : Int) := by omega
    by_cases l2 : s.length ≤ 12
    · have l2' : (s.length : Int) ≤ 12 := by omega
      cases hk : isKept s with
      | true => simp only [mir_is_name, Int.reduceLE, Int.reduceLT, Int.reduceEq, Int.reduceNe, Int.reduceAdd, Int.reduceSub, Int.reduceMul, Int.reduceToNat, Int.reduceNeg, Int.reduceBNe, Nat.reduceAdd, Nat.reduceLT, Nat.reduceLeDiff, Nat.reduceEqDiff, Int.ofNat_eq_natCast, ne_eq, not_false_eq_true, and_self, true_or, or_true, pure_app, bad_app, bd_ok, bd_exc, bd_bad, bd_ite, liftO_some, liftO_none, liftO_ite, liftB_some, we_ok, we_exc, we_bad, we_ite, an_next, an_ret, an_brk, an_cont, an_rse, an_bad, an_ite, en_ret, en_next, en_rse, en_bad, en_ite, lp_next, lp_cont, lp_brk, lp_ret, lp_rse, lp_bad, lp_ite, endF_app, forL_nil, varE_z, varE_s, kE_app, tyE_app, binE_app, notE_app, negE_app, negV_int, andE_app, orE_app, cmpE_app, cmp2E_app, iteE_app, evs_nil, evs_cons, lstE_app, newE_app, tupE_app, ixE_app, partO_none, partO_some, intO_int, Option.map_some, Option.bind_some, slE_app, callF_app, bltE_app, rngI_app, rngI2_app, rng1_app, rng2_app, seqI_app, walk_lst, walk_scr, walk_tup, walk_str, lcF_app, truT_app, notT_app, andT_app, orT_app, blO_bl, cmpT_app, cmp2T_app, exprS_app, retS_app, ifS_app, forS_app, setS_app, nxO_some, tupS_app, ixS_app, augS_app, seqS_nil, seqS_cons, addV_int, subV_int, iaddV_int, mulV_int, modV_int, fdvV_int, powV_int, shlV_int, shrV_int, andV_int, iorV_int, cmp_lt, cmp_le, cmp_gt, cmp_ge, cmp_eqi, cmp_nei, cmp_eqs, cmp_nes, tru_bl, tru_int, tru_non, abs_int, ite_app, List.set_cons_zero, List.set_cons_succ, decide_eq_true_eq, Bool.and_eq_true, Bool.or_eq_true, Bool.not_eq_true', decide_eq_false_iff_not, if_true, if_false, Bool.false_eq_true, not_true_eq_false, Bool.not_true, Bool.not_false, decide_true, decide_false, Bool.true_eq_false, ixV_loc, ixV_locs, setIx_loc, ixV_lst, ixV_tup, ixV_scr, rng_int, wipeR_nil, wipeR_cons, atI_pos, List.length_cons, List.length_nil, List.getElem?_cons_zero, List.getElem?_cons_succ, isi_non_int, isi_non_bool, isi_non_str, isi_non_tuple, isi_non_list, isi_non_dict, isi_bl_int, isi_bl_bool, isi_bl_str, isi_bl_tuple, isi_bl_list, isi_bl_dict, isi_int_int, isi_int_bool, isi_int_str, isi_int_tuple, isi_int_list, isi_int_dict, isi_str_int, isi_str_bool, isi_str_str, isi_str_tuple, isi_str_list, isi_str_dict, isi_tup_int, isi_tup_bool, isi_tup_str, isi_tup_tuple, isi_tup_list, isi_tup_dict, isi_lst_int, isi_lst_bool, isi_lst_str, isi_lst_tuple, isi_lst_list, isi_lst_dict, isi_scr_int, isi_scr_bool, isi_scr_str, isi_scr_tuple, isi_scr_list, isi_scr_dict, isi_dct_int, isi_dct_bool, isi_dct_str, isi_dct_tuple, isi_dct_list, isi_dct_dict, metE_app, met_split, met_join, met_append, nx_ok, newD_app, len_lst, len_scr, len_tup, cmp_is_bl, cmp_isnot_bl, cmp_eqb, cmp_neb, tru_str, cmp_in_s, cmp_notin_s, lenV_str, hz, l1, l1', l2, l2', cat_kept, in_tup, hk, Bool.and_false, Bool.false_and, Bool.true_and, Bool.and_true]
      | false =>
        have hc : (chars s).length ≤ sizeLine := by unfold chars; rw [List.length_map]; exact hz
        have hl : ∀ r, lcM (tgName 1) (fun _ => pure true) (fun r => cmpE .In (varE r 1) (binE addV (kE (.str "abcdefghijklmnopqrstuvwxyz")) (kE (.str "0123456789")))) [r, none] (chars s) h = .ok (.lst (s.cps.toList.map fun c => .bl (inStr ⟨#[c]⟩ signsS))) h := fun r => by
          have := lc_map (f := tgName 1) (me := fun r => cmpE .In (varE r 1) (binE addV (kE (.str "abcdefghijklmnopqrstuvwxyz")) (kE (.str "0123456789")))) (F := fun v => match v with | .str c => .bl (inStr c signsS) | _ => .non) (l := chars s) (h := h) (r := [r, none]) hc (fun v hv => by
            unfold chars at hv
            obtain ⟨c, _, rfl⟩ := List.mem_map.mp hv
            refine ⟨_, rfl, ?_⟩
            simp only [Int.reduceLE, Int.reduceLT, Int.reduceEq, Int.reduceNe, Int.reduceAdd, Int.reduceSub, Int.reduceMul, Int.reduceToNat, Int.reduceNeg, Int.reduceBNe, Nat.reduceAdd, Nat.reduceLT, Nat.reduceLeDiff, Nat.reduceEqDiff, Int.ofNat_eq_natCast, ne_eq, not_false_eq_true, and_self, true_or, or_true, pure_app, bad_app, bd_ok, bd_exc, bd_bad, bd_ite, liftO_some, liftO_none, liftO_ite, liftB_some, we_ok, we_exc, we_bad, we_ite, an_next, an_ret, an_brk, an_cont, an_rse, an_bad, an_ite, en_ret, en_next, en_rse, en_bad, en_ite, lp_next, lp_cont, lp_brk, lp_ret, lp_rse, lp_bad, lp_ite, endF_app, forL_nil, varE_z, varE_s, kE_app, tyE_app, binE_app, notE_app, negE_app, negV_int, andE_app, orE_app, cmpE_app, cmp2E_app, iteE_app, evs_nil, evs_cons, lstE_app, newE_app, tupE_app, ixE_app, partO_none, partO_some, intO_int, Option.map_some, Option.bind_some, slE_app, callF_app, bltE_app, rngI_app, rngI2_app, rng1_app, rng2_app, seqI_app, walk_lst, walk_scr, walk_tup, walk_str, lcF_app, truT_app, notT_app, andT_app, orT_app, blO_bl, cmpT_app, cmp2T_app, exprS_app, retS_app, ifS_app, forS_app, setS_app, nxO_some, tupS_app, ixS_app, augS_app, seqS_nil, seqS_cons, addV_int, subV_int, iaddV_int, mulV_int, modV_int, fdvV_int, powV_int, shlV_int, shrV_int, andV_int, iorV_int, cmp_lt, cmp_le, cmp_gt, cmp_ge, cmp_eqi, cmp_nei, cmp_eqs, cmp_nes, tru_bl, tru_int, tru_non, abs_int, ite_app, List.set_cons_zero, List.set_cons_succ, decide_eq_true_eq, Bool.and_eq_true, Bool.or_eq_true, Bool.not_eq_true', decide_eq_false_iff_not, if_true, if_false, Bool.false_eq_true, not_true_eq_false, Bool.not_true, Bool.not_false, decide_true, decide_false, Bool.true_eq_false, ixV_loc, ixV_locs, setIx_loc, ixV_lst, ixV_tup, ixV_scr, rng_int, wipeR_nil, wipeR_cons, atI_pos, List.length_cons, List.length_nil, List.getElem?_cons_zero, List.getElem?_cons_succ, isi_non_int, isi_non_bool, isi_non_str, isi_non_tuple, isi_non_list, isi_non_dict, isi_bl_int, isi_bl_bool, isi_bl_str, isi_bl_tuple, isi_bl_list, isi_bl_dict, isi_int_int, isi_int_bool, isi_int_str, isi_int_tuple, isi_int_list, isi_int_dict, isi_str_int, isi_str_bool, isi_str_str, isi_str_tuple, isi_str_list, isi_str_dict, isi_tup_int, isi_tup_bool, isi_tup_str, isi_tup_tuple, isi_tup_list, isi_tup_dict, isi_lst_int, isi_lst_bool, isi_lst_str, isi_lst_tuple, isi_lst_list, isi_lst_dict, isi_scr_int, isi_scr_bool, isi_scr_str, isi_scr_tuple, isi_scr_list, isi_scr_dict, isi_dct_int, isi_dct_bool, isi_dct_str, isi_dct_tuple, isi_dct_list, isi_dct_dict, metE_app, met_split, met_join, met_append, nx_ok, newD_app, len_lst, len_scr, len_tup, cmp_is_bl, cmp_isnot_bl, cmp_eqb, cmp_neb, tru_str, cmp_in_s, cmp_notin_s, cat_signs])
          rw [this]
          unfold chars
          rw [List.map_map]
          rfl
        have f1 := first_ok (h := h) l1 hz
        cases hf : inStr (firstS s) lettersS with
        | true =>
          have hf2 : inStr (firstS s) "abcdefghijklmnopqrstuvwxyz" = true := hf
          simp only [mir_is_name, Int.reduceLE, Int.reduceLT, Int.reduceEq, Int.reduceNe, Int.reduceAdd, Int.reduceSub, Int.reduceMul, Int.reduceToNat, Int.reduceNeg, Int.reduceBNe, Nat.reduceAdd, Nat.reduceLT, Nat.reduceLeDiff, Nat.reduceEqDiff, Int.ofNat_eq_natCast, ne_eq, not_false_eq_true, and_self, true_or, or_true, pure_app, bad_app, bd_ok, bd_exc, bd_bad, bd_ite, liftO_some, liftO_none, liftO_ite, liftB_some, we_ok, we_exc, we_bad, we_ite, an_next, an_ret, an_brk, an_cont, an_rse, an_bad, an_ite, en_ret, en_next, en_rse, en_bad, en_ite, lp_next, lp_cont, lp_brk, lp_ret, lp_rse, lp_bad, lp_ite, endF_app, forL_nil, varE_z, varE_s, kE_app, tyE_app, binE_app, notE_app, negE_app, negV_int, andE_app, orE_app, cmpE_app, cmp2E_app, iteE_app, evs_nil, evs_cons, lstE_app, newE_app, tupE_app, ixE_app, partO_none, partO_some, intO_int, Option.map_some, Option.bind_some, slE_app, callF_app, bltE_app, rngI_app, rngI2_app, rng1_app, rng2_app, seqI_app, walk_lst, walk_scr, walk_tup, walk_str, lcF_app, truT_app, notT_app, andT_app, orT_app, blO_bl, cmpT_app, cmp2T_app, exprS_app, retS_app, ifS_app, forS_app, setS_app, nxO_some, tupS_app, ixS_app, augS_app, seqS_nil, seqS_cons, addV_int, subV_int, iaddV_int, mulV_int, modV_int, fdvV_int, powV_int, shlV_int, shrV_int, andV_int, iorV_int, cmp_lt, cmp_le, cmp_gt, cmp_ge, cmp_eqi, cmp_nei, cmp_eqs, cmp_nes, tru_bl, tru_int, tru_non, abs_int, ite_app, List.set_cons_zero, List.set_cons_succ, decide_eq_true_eq, Bool.and_eq_true, Bool.or_eq_true, Bool.not_eq_true', decide_eq_false_iff_not, if_true, if_false, Bool.false_eq_true, not_true_eq_false, Bool.not_true, Bool.not_false, decide_true, decide_false, Bool.true_eq_false, ixV_loc, ixV_locs, setIx_loc, ixV_lst, ixV_tup, ixV_scr, rng_int, wipeR_nil, wipeR_cons, atI_pos, List.length_cons, List.length_nil, List.getElem?_cons_zero, List.getElem?_cons_succ, isi_non_int, isi_non_bool, isi_non_str, isi_non_tuple, isi_non_list, isi_non_dict, isi_bl_int, isi_bl_bool, isi_bl_str, isi_bl_tuple, isi_bl_list, isi_bl_dict, isi_int_int, isi_int_bool, isi_int_str, isi_int_tuple, isi_int_list, isi_int_dict, isi_str_int, isi_str_bool, isi_str_str, isi_str_tuple, isi_str_list, isi_str_dict, isi_tup_int, isi_tup_bool, isi_tup_str, isi_tup_tuple, isi_tup_list, isi_tup_dict, isi_lst_int, isi_lst_bool, isi_lst_str, isi_lst_tuple, isi_lst_list, isi_lst_dict, isi_scr_int, isi_scr_bool, isi_scr_str, isi_scr_tuple, isi_scr_list, isi_scr_dict, isi_dct_int, isi_dct_bool, isi_dct_str, isi_dct_tuple, isi_dct_list, isi_dct_dict, metE_app, met_split, met_join, met_append, nx_ok, newD_app, len_lst, len_scr, len_tup, cmp_is_bl, cmp_isnot_bl, cmp_eqb, cmp_neb, tru_str, cmp_in_s, cmp_notin_s, lenV_str, hz, l1, l1', l2, l2', cat_kept, in_tup, hk, f1, hf2, hl, all_map, Bool.and_false, Bool.false_and, Bool.true_and, Bool.and_true]
        | false =>
          have hf2 : inStr (firstS s) "abcdefghijklmnopqrstuvwxyz" = false := hf
          simp only [mir_is_name, Int.reduceLE, Int.reduceLT, Int.reduceEq, Int.reduceNe, Int.reduceAdd, Int.reduceSub, Int.reduceMul, Int.reduceToNat, Int.reduceNeg, Int.reduceBNe, Nat.reduceAdd, Nat.reduceLT, Nat.reduceLeDiff, Nat.reduceEqDiff, Int.ofNat_eq_natCast, ne_eq, not_false_eq_true, and_self, true_or, or_true, pure_app, bad_app, bd_ok, bd_exc, bd_bad, bd_ite, liftO_some, liftO_none, liftO_ite, liftB_some, we_ok, we_exc, we_bad, we_ite, an_next, an_ret, an_brk, an_cont, an_rse, an_bad, an_ite, en_ret, en_next, en_rse, en_bad, en_ite, lp_next, lp_cont, lp_brk, lp_ret, lp_rse, lp_bad, lp_ite, endF_app, forL_nil, varE_z, varE_s, kE_app, tyE_app, binE_app, notE_app, negE_app, negV_int, andE_app, orE_app, cmpE_app, cmp2E_app, iteE_app, evs_nil, evs_cons, lstE_app, newE_app, tupE_app, ixE_app, partO_none, partO_some, intO_int, Option.map_some, Option.bind_some, slE_app, callF_app, bltE_app, rngI_app, rngI2_app, rng1_app, rng2_app, seqI_app, walk_lst, walk_scr, walk_tup, walk_str, lcF_app, truT_app, notT_app, andT_app, orT_app, blO_bl, cmpT_app, cmp2T_app, exprS_app, retS_app, ifS_app, forS_app, setS_app, nxO_some, tupS_app, ixS_app, augS_app, seqS_nil, seqS_cons, addV_int, subV_int, iaddV_int, mulV_int, modV_int, fdvV_int, powV_int, shlV_int, shrV_int, andV_int, iorV_int, cmp_lt, cmp_le, cmp_gt, cmp_ge, cmp_eqi, cmp_nei, cmp_eqs, cmp_nes, tru_bl, tru_int, tru_non, abs_int, ite_app, List.set_cons_zero, List.set_cons_succ, decide_eq_true_eq, Bool.and_eq_true, Bool.or_eq_true, Bool.not_eq_true', decide_eq_false_iff_not, if_true, if_false, Bool.false_eq_true, not_true_eq_false, Bool.not_true, Bool.not_false, decide_true, decide_false, Bool.true_eq_false, ixV_loc, ixV_locs, setIx_loc, ixV_lst, ixV_tup, ixV_scr, rng_int, wipeR_nil, wipeR_cons, atI_pos, List.length_cons, List.length_nil, List.getElem?_cons_zero, List.getElem?_cons_succ, isi_non_int, isi_non_bool, isi_non_str, isi_non_tuple, isi_non_list, isi_non_dict, isi_bl_int, isi_bl_bool, isi_bl_str, isi_bl_tuple, isi_bl_list, isi_bl_dict, isi_int_int, isi_int_bool, isi_int_str, isi_int_tuple, isi_int_list, isi_int_dict, isi_str_int, isi_str_bool, isi_str_str, isi_str_tuple, isi_str_list, isi_str_dict, isi_tup_int, isi_tup_bool, isi_tup_str, isi_tup_tuple, isi_tup_list, isi_tup_dict, isi_lst_int, isi_lst_bool, isi_lst_str, isi_lst_tuple, isi_lst_list, isi_lst_dict, isi_scr_int, isi_scr_bool, isi_scr_str, isi_scr_tuple, isi_scr_list, isi_scr_dict, isi_dct_int, isi_dct_bool, isi_dct_str, isi_dct_tuple, isi_dct_list, isi_dct_dict, metE_app, met_split, met_join, met_append, nx_ok, newD_app, len_lst, len_scr, len_tup, cmp_is_bl, cmp_isnot_bl, cmp_eqb, cmp_neb, tru_str, cmp_in_s, cmp_notin_s, lenV_str, hz, l1, l1', l2, l2', cat_kept, in_tup, hk, f1, hf2, Bool.and_false, Bool.false_and, Bool.true_and, Bool.and_true]
    · have l2' : ¬ (s.length : Int) ≤ 12 := by omega
      simp only [mir_is_name, Int.reduceLE, Int.reduceLT, Int.reduceEq, Int.reduceNe, Int.reduceAdd, Int.reduceSub, Int.reduceMul, Int.reduceToNat, Int.reduceNeg, Int.reduceBNe, Nat.reduceAdd, Nat.reduceLT, Nat.reduceLeDiff, Nat.reduceEqDiff, Int.ofNat_eq_natCast, ne_eq, not_false_eq_true, and_self, true_or, or_true, pure_app, bad_app, bd_ok, bd_exc, bd_bad, bd_ite, liftO_some, liftO_none, liftO_ite, liftB_some, we_ok, we_exc, we_bad, we_ite, an_next, an_ret, an_brk, an_cont, an_rse, an_bad, an_ite, en_ret, en_next, en_rse, en_bad, en_ite, lp_next, lp_cont, lp_brk, lp_ret, lp_rse, lp_bad, lp_ite, endF_app, forL_nil, varE_z, varE_s, kE_app, tyE_app, binE_app, notE_app, negE_app, negV_int, andE_app, orE_app, cmpE_app, cmp2E_app, iteE_app, evs_nil, evs_cons, lstE_app, newE_app, tupE_app, ixE_app, partO_none, partO_some, intO_int, Option.map_some, Option.bind_some, slE_app, callF_app, bltE_app, rngI_app, rngI2_app, rng1_app, rng2_app, seqI_app, walk_lst, walk_scr, walk_tup, walk_str, lcF_app, truT_app, notT_app, andT_app, orT_app, blO_bl, cmpT_app, cmp2T_app, exprS_app, retS_app, ifS_app, forS_app, setS_app, nxO_some, tupS_app, ixS_app, augS_app, seqS_nil, seqS_cons, addV_int, subV_int, iaddV_int, mulV_int, modV_int, fdvV_int, powV_int, shlV_int, shrV_int, andV_int, iorV_int, cmp_lt, cmp_le, cmp_gt, cmp_ge, cmp_eqi, cmp_nei, cmp_eqs, cmp_nes, tru_bl, tru_int, tru_non, abs_int, ite_app, List.set_cons_zero, List.set_cons_succ, decide_eq_true_eq, Bool.and_eq_true, Bool.or_eq_true, Bool.not_eq_true', decide_eq_false_iff_not, if_true, if_false, Bool.false_eq_true, not_true_eq_false, Bool.not_true, Bool.not_false, decide_true, decide_false, Bool.true_eq_false, ixV_loc, ixV_locs, setIx_loc, ixV_lst, ixV_tup, ixV_scr, rng_int, wipeR_nil, wipeR_cons, atI_pos, List.length_cons, List.length_nil, List.getElem?_cons_zero, List.getElem?_cons_succ, isi_non_int, isi_non_bool, isi_non_str, isi_non_tuple, isi_non_list, isi_non_dict, isi_bl_int, isi_bl_bool, isi_bl_str, isi_bl_tuple, isi_bl_list, isi_bl_dict, isi_int_int, isi_int_bool, isi_int_str, isi_int_tuple, isi_int_list, isi_int_dict, isi_str_int, isi_str_bool, isi_str_str, isi_str_tuple, isi_str_list, isi_str_dict, isi_tup_int, isi_tup_bool, isi_tup_str, isi_tup_tuple, isi_tup_list, isi_tup_dict, isi_lst_int, isi_lst_bool, isi_lst_str, isi_lst_tuple, isi_lst_list, isi_lst_dict, isi_scr_int, isi_scr_bool, isi_scr_str, isi_scr_tuple, isi_scr_list, isi_scr_dict, isi_dct_int, isi_dct_bool, isi_dct_str, isi_dct_tuple, isi_dct_list, isi_dct_dict, metE_app, met_split, met_join, met_append, nx_ok, newD_app, len_lst, len_scr, len_tup, cmp_is_bl, cmp_isnot_bl, cmp_eqb, cmp_neb, tru_str, cmp_in_s, cmp_notin_s, lenV_str, hz, l1, l1', l2, l2', Bool.and_false, Bool.false_and]
  · have l1' : ¬ (1 : Int) ≤ (s.length : Int) := by omega
    simp only [mir_is_name, Int.reduceLE, Int.reduceLT, Int.reduceEq, Int.reduceNe, Int.reduceAdd, Int.reduceSub, Int.reduceMul, Int.reduceToNat, Int.reduceNeg, Int.reduceBNe, Nat.reduceAdd, Nat.reduceLT, Nat.reduceLeDiff, Nat.reduceEqDiff, Int.ofNat_eq_natCast, ne_eq, not_false_eq_true, and_self, true_or, or_true, pure_app, bad_app, bd_ok, bd_exc, bd_bad, bd_ite, liftO_some, liftO_none, liftO_ite, liftB_some, we_ok, we_exc, we_bad, we_ite, an_next, an_ret, an_brk, an_cont, an_rse, an_bad, an_ite, en_ret, en_next, en_rse, en_bad, en_ite, lp_next, lp_cont, lp_brk, lp_ret, lp_rse, lp_bad, lp_ite, endF_app, forL_nil, varE_z, varE_s, kE_app, tyE_app, binE_app, notE_app, negE_app, negV_int, andE_app, orE_app, cmpE_app, cmp2E_app, iteE_app, evs_nil, evs_cons, lstE_app, newE_app, tupE_app, ixE_app, partO_none, partO_some, intO_int, Option.map_some, Option.bind_some, slE_app, callF_app, bltE_app, rngI_app, rngI2_app, rng1_app, rng2_app, seqI_app, walk_lst, walk_scr, walk_tup, walk_str, lcF_app, truT_app, notT_app, andT_app, orT_app, blO_bl, cmpT_app, cmp2T_app, exprS_app, retS_app, ifS_app, forS_app, setS_app, nxO_some, tupS_app, ixS_app, augS_app, seqS_nil, seqS_cons, addV_int, subV_int, iaddV_int, mulV_int, modV_int, fdvV_int, powV_int, shlV_int, shrV_int, andV_int, iorV_int, cmp_lt, cmp_le, cmp_gt, cmp_ge, cmp_eqi, cmp_nei, cmp_eqs, cmp_nes, tru_bl, tru_int, tru_non, abs_int, ite_app, List.set_cons_zero, List.set_cons_succ, decide_eq_true_eq, Bool.and_eq_true, Bool.or_eq_true, Bool.not_eq_true', decide_eq_false_iff_not, if_true, if_false, Bool.false_eq_true, not_true_eq_false, Bool.not_true, Bool.not_false, decide_true, decide_false, Bool.true_eq_false, ixV_loc, ixV_locs, setIx_loc, ixV_lst, ixV_tup, ixV_scr, rng_int, wipeR_nil, wipeR_cons, atI_pos, List.length_cons, List.length_nil, List.getElem?_cons_zero, List.getElem?_cons_succ, isi_non_int, isi_non_bool, isi_non_str, isi_non_tuple, isi_non_list, isi_non_dict, isi_bl_int, isi_bl_bool, isi_bl_str, isi_bl_tuple, isi_bl_list, isi_bl_dict, isi_int_int, isi_int_bool, isi_int_str, isi_int_tuple, isi_int_list, isi_int_dict, isi_str_int, isi_str_bool, isi_str_str, isi_str_tuple, isi_str_list, isi_str_dict, isi_tup_int, isi_tup_bool, isi_tup_str, isi_tup_tuple, isi_tup_list, isi_tup_dict, isi_lst_int, isi_lst_bool, isi_lst_str, isi_lst_tuple, isi_lst_list, isi_lst_dict, isi_scr_int, isi_scr_bool, isi_scr_str, isi_scr_tuple, isi_scr_list, isi_scr_dict, isi_dct_int, isi_dct_bool, isi_dct_str, isi_dct_tuple, isi_dct_list, isi_dct_dict, metE_app, met_split, met_join, met_append, nx_ok, newD_app, len_lst, len_scr, len_tup, cmp_is_bl, cmp_isnot_bl, cmp_eqb, cmp_neb, tru_str, cmp_in_s, cmp_notin_s, lenV_str, hz, l1, l1', Bool.false_and]
theorem sp_law_is_name (k : Nat) (s : Str) (h : Hs) (hz : s.length ≤ sizeLine) (ho : PyData.strOk s = true) : callN tb (k + 2) ("_law_is_name", none) [.str s] h = .ok (.bl (nameB s)) h := by
  rw [call_law_is_name]
  unfold nameB
  cases hk : isKept s with
  | true => simp only [mir_law_is_name, Int.reduceLE, Int.reduceLT, Int.reduceEq, Int.reduceNe, Int.reduceAdd, Int.reduceSub, Int.reduceMul, Int.reduceToNat, Int.reduceNeg, Int.reduceBNe, Nat.reduceAdd, Nat.reduceLT, Nat.reduceLeDiff, Nat.reduceEqDiff, Int.ofNat_eq_natCast, ne_eq, not_false_eq_true, and_self, true_or, or_true, pure_app, bad_app, bd_ok, bd_exc, bd_bad, bd_ite, liftO_some, liftO_none, liftO_ite, liftB_some, we_ok, we_exc, we_bad, we_ite, an_next, an_ret, an_brk, an_cont, an_rse, an_bad, an_ite, en_ret, en_next, en_rse, en_bad, en_ite, lp_next, lp_cont, lp_brk, lp_ret, lp_rse, lp_bad, lp_ite, endF_app, forL_nil, varE_z, varE_s, kE_app, tyE_app, binE_app, notE_app, negE_app, negV_int, andE_app, orE_app, cmpE_app, cmp2E_app, iteE_app, evs_nil, evs_cons, lstE_app, newE_app, tupE_app, ixE_app, partO_none, partO_some, intO_int, Option.map_some, Option.bind_some, slE_app, callF_app, bltE_app, rngI_app, rngI2_app, rng1_app, rng2_app, seqI_app, walk_lst, walk_scr, walk_tup, walk_str, lcF_app, truT_app, notT_app, andT_app, orT_app, blO_bl, cmpT_app, cmp2T_app, exprS_app, retS_app, ifS_app, forS_app, setS_app, nxO_some, tupS_app, ixS_app, augS_app, seqS_nil, seqS_cons, addV_int, subV_int, iaddV_int, mulV_int, modV_int, fdvV_int, powV_int, shlV_int, shrV_int, andV_int, iorV_int, cmp_lt, cmp_le, cmp_gt, cmp_ge, cmp_eqi, cmp_nei, cmp_eqs, cmp_nes, tru_bl, tru_int, tru_non, abs_int, ite_app, List.set_cons_zero, List.set_cons_succ, decide_eq_true_eq, Bool.and_eq_true, Bool.or_eq_true, Bool.not_eq_true', decide_eq_false_iff_not, if_true, if_false, Bool.false_eq_true, not_true_eq_false, Bool.not_true, Bool.not_false, decide_true, decide_false, Bool.true_eq_false, ixV_loc, ixV_locs, setIx_loc, ixV_lst, ixV_tup, ixV_scr, rng_int, wipeR_nil, wipeR_cons, atI_pos, List.length_cons, List.length_nil, List.getElem?_cons_zero, List.getElem?_cons_succ, isi_non_int, isi_non_bool, isi_non_str, isi_non_tuple, isi_non_list, isi_non_dict, isi_bl_int, isi_bl_bool, isi_bl_str, isi_bl_tuple, isi_bl_list, isi_bl_dict, isi_int_int, isi_int_bool, isi_int_str, isi_int_tuple, isi_int_list, isi_int_dict, isi_str_int, isi_str_bool, isi_str_str, isi_str_tuple, isi_str_list, isi_str_dict, isi_tup_int, isi_tup_bool, isi_tup_str, isi_tup_tuple, isi_tup_list, isi_tup_dict, isi_lst_int, isi_lst_bool, isi_lst_str, isi_lst_tuple, isi_lst_list, isi_lst_dict, isi_scr_int, isi_scr_bool, isi_scr_str, isi_scr_tuple, isi_scr_list, isi_scr_dict, isi_dct_int, isi_dct_bool, isi_dct_str, isi_dct_tuple, isi_dct_list, isi_dct_dict, metE_app, met_split, met_join, met_append, nx_ok, newD_app, len_lst, len_scr, len_tup, cmp_is_bl, cmp_isnot_bl, cmp_eqb, cmp_neb, tru_str, cmp_in_s, cmp_notin_s, cd_law_kept, sp_kept, in_lst, hk, Bool.and_false, Bool.false_and]
  | false =>
  by_cases l1 : 1 ≤ s.length
  · have ne : ¬ s = "" := fun e => by rw [e] at l1; exact absurd l1 (by decide)
    by_cases l2 : s.length ≤ 12
    · have l2' : ¬ 12 < (s.length : Int) := by omega
      have hc : (chars s).length ≤ sizeLine := by unfold chars; rw [List.length_map]; exact hz
      have hl : ∀ r, lcM (tgName 1) (fun r => cmpT .NotIn (varE r 1) (kE (.str "abcdefghijklmnopqrstuvwxyz0123456789"))) (fun r => varE r 1) [r, none] (chars s) h = .ok (.lst (((s.cps.toList.filter fun c => !inStr ⟨#[c]⟩ signsS).map fun c => (⟨#[c]⟩ : Str)).map Val.str)) h := fun r => by
        have := lc_filter (f := tgName 1) (c := fun r => cmpT .NotIn (varE r 1) (kE (.str "abcdefghijklmnopqrstuvwxyz0123456789"))) (me := fun r => varE r 1) (B := fun v => match v with | .str c => !inStr c signsS | _ => false) (l := chars s) (h := h) (r := [r, none]) hc (fun v hv => by
          unfold chars at hv
          obtain ⟨c, _, rfl⟩ := List.mem_map.mp hv
          refine ⟨_, rfl, ?_, ?_⟩
          · simp only [Int.reduceLE, Int.reduceLT, Int.reduceEq, Int.reduceNe, Int.reduceAdd, Int.reduceSub, Int.reduceMul, Int.reduceToNat, Int.reduceNeg, Int.reduceBNe, Nat.reduceAdd, Nat.reduceLT, Nat.reduceLeDiff, Nat.reduceEqDiff, Int.ofNat_eq_natCast, ne_eq, not_false_eq_true, and_self, true_or, or_true, pure_app, bad_app, bd_ok, bd_exc, bd_bad, bd_ite, liftO_some, liftO_none, liftO_ite, liftB_some, we_ok, we_exc, we_bad, we_ite, an_next, an_ret, an_brk, an_cont, an_rse, an_bad, an_ite, en_ret, en_next, en_rse, en_bad, en_ite, lp_next, lp_cont, lp_brk, lp_ret, lp_rse, lp_bad, lp_ite, endF_app, forL_nil, varE_z, varE_s, kE_app, tyE_app, binE_app, notE_app, negE_app, negV_int, andE_app, orE_app, cmpE_app, cmp2E_app, iteE_app, evs_nil, evs_cons, lstE_app, newE_app, tupE_app, ixE_app, partO_none, partO_some, intO_int, Option.map_some, Option.bind_some, slE_app, callF_app, bltE_app, rngI_app, rngI2_app, rng1_app, rng2_app, seqI_app, walk_lst, walk_scr, walk_tup, walk_str, lcF_app, truT_app, notT_app, andT_app, orT_app, blO_bl, cmpT_app, cmp2T_app, exprS_app, retS_app, ifS_app, forS_app, setS_app, nxO_some, tupS_app, ixS_app, augS_app, seqS_nil, seqS_cons, addV_int, subV_int, iaddV_int, mulV_int, modV_int, fdvV_int, powV_int, shlV_int, shrV_int, andV_int, iorV_int, cmp_lt, cmp_le, cmp_gt, cmp_ge, cmp_eqi, cmp_nei, cmp_eqs, cmp_nes, tru_bl, tru_int, tru_non, abs_int, ite_app, List.set_cons_zero, List.set_cons_succ, decide_eq_true_eq, Bool.and_eq_true, Bool.or_eq_true, Bool.not_eq_true', decide_eq_false_iff_not, if_true, if_false, Bool.false_eq_true, not_true_eq_false, Bool.not_true, Bool.not_false, decide_true, decide_false, Bool.true_eq_false, ixV_loc, ixV_locs, setIx_loc, ixV_lst, ixV_tup, ixV_scr, rng_int, wipeR_nil, wipeR_cons, atI_pos, List.length_cons, List.length_nil, List.getElem?_cons_zero, List.getElem?_cons_succ, isi_non_int, isi_non_bool, isi_non_str, isi_non_tuple, isi_non_list, isi_non_dict, isi_bl_int, isi_bl_bool, isi_bl_str, isi_bl_tuple, isi_bl_list, isi_bl_dict, isi_int_int, isi_int_bool, isi_int_str, isi_int_tuple, isi_int_list, isi_int_dict, isi_str_int, isi_str_bool, isi_str_str, isi_str_tuple, isi_str_list, isi_str_dict, isi_tup_int, isi_tup_bool, isi_tup_str, isi_tup_tuple, isi_tup_list, isi_tup_dict, isi_lst_int, isi_lst_bool, isi_lst_str, isi_lst_tuple, isi_lst_list, isi_lst_dict, isi_scr_int, isi_scr_bool, isi_scr_str, isi_scr_tuple, isi_scr_list, isi_scr_dict, isi_dct_int, isi_dct_bool, isi_dct_str, isi_dct_tuple, isi_dct_list, isi_dct_dict, metE_app, met_split, met_join, met_append, nx_ok, newD_app, len_lst, len_scr, len_tup, cmp_is_bl, cmp_isnot_bl, cmp_eqb, cmp_neb, tru_str, cmp_in_s, cmp_notin_s]
            rfl
          · simp only [Int.reduceLE, Int.reduceLT, Int.reduceEq, Int.reduceNe, Int.reduceAdd, Int.reduceSub, Int.reduceMul, Int.reduceToNat, Int.reduceNeg, Int.reduceBNe, Nat.reduceAdd, Nat.reduceLT, Nat.reduceLeDiff, Nat.reduceEqDiff, Int.ofNat_eq_natCast, ne_eq, not_false_eq_true, and_self, true_or, or_true, pure_app, bad_app, bd_ok, bd_exc, bd_bad, bd_ite, liftO_some, liftO_none, liftO_ite, liftB_some, we_ok, we_exc, we_bad, we_ite, an_next, an_ret, an_brk, an_cont, an_rse, an_bad, an_ite, en_ret, en_next, en_rse, en_bad, en_ite, lp_next, lp_cont, lp_brk, lp_ret, lp_rse, lp_bad, lp_ite, endF_app, forL_nil, varE_z, varE_s, kE_app, tyE_app, binE_app, notE_app, negE_app, negV_int, andE_app, orE_app, cmpE_app, cmp2E_app, iteE_app, evs_nil, evs_cons, lstE_app, newE_app, tupE_app, ixE_app, partO_none, partO_some, intO_int, Option.map_some, Option.bind_some, slE_app, callF_app, bltE_app, rngI_app, rngI2_app, rng1_app, rng2_app, seqI_app, walk_lst, walk_scr, walk_tup, walk_str, lcF_app, truT_app, notT_app, andT_app, orT_app, blO_bl, cmpT_app, cmp2T_app, exprS_app, retS_app, ifS_app, forS_app, setS_app, nxO_some, tupS_app, ixS_app, augS_app, seqS_nil, seqS_cons, addV_int, subV_int, iaddV_int, mulV_int, modV_int, fdvV_int, powV_int, shlV_int, shrV_int, andV_int, iorV_int, cmp_lt, cmp_le, cmp_gt, cmp_ge, cmp_eqi, cmp_nei, cmp_eqs, cmp_nes, tru_bl, tru_int, tru_non, abs_int, ite_app, List.set_cons_zero, List.set_cons_succ, decide_eq_true_eq, Bool.and_eq_true, Bool.or_eq_true, Bool.not_eq_true', decide_eq_false_iff_not, if_true, if_false, Bool.false_eq_true, not_true_eq_false, Bool.not_true, Bool.not_false, decide_true, decide_false, Bool.true_eq_false, ixV_loc, ixV_locs, setIx_loc, ixV_lst, ixV_tup, ixV_scr, rng_int, wipeR_nil, wipeR_cons, atI_pos, List.length_cons, List.length_nil, List.getElem?_cons_zero, List.getElem?_cons_succ, isi_non_int, isi_non_bool, isi_non_str, isi_non_tuple, isi_non_list, isi_non_dict, isi_bl_int, isi_bl_bool, isi_bl_str, isi_bl_tuple, isi_bl_list, isi_bl_dict, isi_int_int, isi_int_bool, isi_int_str, isi_int_tuple, isi_int_list, isi_int_dict, isi_str_int, isi_str_bool, isi_str_str, isi_str_tuple, isi_str_list, isi_str_dict, isi_tup_int, isi_tup_bool, isi_tup_str, isi_tup_tuple, isi_tup_list, isi_tup_dict, isi_lst_int, isi_lst_bool, isi_lst_str, isi_lst_tuple, isi_lst_list, isi_lst_dict, isi_scr_int, isi_scr_bool, isi_scr_str, isi_scr_tuple, isi_scr_list, isi_scr_dict, isi_dct_int, isi_dct_bool, isi_dct_str, isi_dct_tuple, isi_dct_list, isi_dct_dict, metE_app, met_split, met_join, met_append, nx_ok, newD_app, len_lst, len_scr, len_tup, cmp_is_bl, cmp_isnot_bl, cmp_eqb, cmp_neb, tru_str, cmp_in_s, cmp_notin_s])
        rw [this]
        unfold chars
        rw [List.filter_map, List.map_map]
        rfl
      have he : ∀ h, cmpV .Eq h (.lst (((s.cps.toList.filter fun c => !inStr ⟨#[c]⟩ signsS).map fun c => (⟨#[c]⟩ : Str)).map Val.str)) (.lst []) = some (.bl (s.cps.toList.all fun c => inStr ⟨#[c]⟩ signsS)) := fun h => by
        rw [eq_nil_strs]
        · congr 2
          rw [List.isEmpty_map]
          induction s.cps.toList with
          | nil => rfl
          | cons c l ih =>
            rw [List.filter_cons, List.all_cons]
            cases inStr ⟨#[c]⟩ signsS with
            | true => simpa using ih
            | false => rfl
        · intro y hy
          obtain ⟨c, hc, rfl⟩ := List.mem_map.mp hy
          have hc := (List.mem_filter.mp hc).1
          have := Array.all_eq_true_iff_forall_mem.mp ho c (Array.mem_toList_iff.mp hc)
          show (#[c] : Array Nat).all _ = true
          simpa using this
      have f1 := first_ok (h := h) l1 hz
      have h0 : (0 : Nat) ≤ sizeLine := Nat.zero_le _
      cases hf : inStr (firstS s) lettersS with
      | true =>
        have hf2 : inStr (firstS s) "abcdefghijklmnopqrstuvwxyz" = true := hf
        simp only [mir_law_is_name, Int.reduceLE, Int.reduceLT, Int.reduceEq, Int.reduceNe, Int.reduceAdd, Int.reduceSub, Int.reduceMul, Int.reduceToNat, Int.reduceNeg, Int.reduceBNe, Nat.reduceAdd, Nat.reduceLT, Nat.reduceLeDiff, Nat.reduceEqDiff, Int.ofNat_eq_natCast, ne_eq, not_false_eq_true, and_self, true_or, or_true, pure_app, bad_app, bd_ok, bd_exc, bd_bad, bd_ite, liftO_some, liftO_none, liftO_ite, liftB_some, we_ok, we_exc, we_bad, we_ite, an_next, an_ret, an_brk, an_cont, an_rse, an_bad, an_ite, en_ret, en_next, en_rse, en_bad, en_ite, lp_next, lp_cont, lp_brk, lp_ret, lp_rse, lp_bad, lp_ite, endF_app, forL_nil, varE_z, varE_s, kE_app, tyE_app, binE_app, notE_app, negE_app, negV_int, andE_app, orE_app, cmpE_app, cmp2E_app, iteE_app, evs_nil, evs_cons, lstE_app, newE_app, tupE_app, ixE_app, partO_none, partO_some, intO_int, Option.map_some, Option.bind_some, slE_app, callF_app, bltE_app, rngI_app, rngI2_app, rng1_app, rng2_app, seqI_app, walk_lst, walk_scr, walk_tup, walk_str, lcF_app, truT_app, notT_app, andT_app, orT_app, blO_bl, cmpT_app, cmp2T_app, exprS_app, retS_app, ifS_app, forS_app, setS_app, nxO_some, tupS_app, ixS_app, augS_app, seqS_nil, seqS_cons, addV_int, subV_int, iaddV_int, mulV_int, modV_int, fdvV_int, powV_int, shlV_int, shrV_int, andV_int, iorV_int, cmp_lt, cmp_le, cmp_gt, cmp_ge, cmp_eqi, cmp_nei, cmp_eqs, cmp_nes, tru_bl, tru_int, tru_non, abs_int, ite_app, List.set_cons_zero, List.set_cons_succ, decide_eq_true_eq, Bool.and_eq_true, Bool.or_eq_true, Bool.not_eq_true', decide_eq_false_iff_not, if_true, if_false, Bool.false_eq_true, not_true_eq_false, Bool.not_true, Bool.not_false, decide_true, decide_false, Bool.true_eq_false, ixV_loc, ixV_locs, setIx_loc, ixV_lst, ixV_tup, ixV_scr, rng_int, wipeR_nil, wipeR_cons, atI_pos, List.length_cons, List.length_nil, List.getElem?_cons_zero, List.getElem?_cons_succ, isi_non_int, isi_non_bool, isi_non_str, isi_non_tuple, isi_non_list, isi_non_dict, isi_bl_int, isi_bl_bool, isi_bl_str, isi_bl_tuple, isi_bl_list, isi_bl_dict, isi_int_int, isi_int_bool, isi_int_str, isi_int_tuple, isi_int_list, isi_int_dict, isi_str_int, isi_str_bool, isi_str_str, isi_str_tuple, isi_str_list, isi_str_dict, isi_tup_int, isi_tup_bool, isi_tup_str, isi_tup_tuple, isi_tup_list, isi_tup_dict, isi_lst_int, isi_lst_bool, isi_lst_str, isi_lst_tuple, isi_lst_list, isi_lst_dict, isi_scr_int, isi_scr_bool, isi_scr_str, isi_scr_tuple, isi_scr_list, isi_scr_dict, isi_dct_int, isi_dct_bool, isi_dct_str, isi_dct_tuple, isi_dct_list, isi_dct_dict, metE_app, met_split, met_join, met_append, nx_ok, newD_app, len_lst, len_scr, len_tup, cmp_is_bl, cmp_isnot_bl, cmp_eqb, cmp_neb, tru_str, cmp_in_s, cmp_notin_s, cd_law_kept, sp_kept, in_lst, hk, ne, lenV_str, hz, l1, l2, l2', f1, hf2, hl, he, h0, Bool.and_false, Bool.false_and, Bool.true_and, Bool.and_true]
      | false =>
        have hf2 : inStr (firstS s) "abcdefghijklmnopqrstuvwxyz" = false := hf
        simp only [mir_law_is_name, Int.reduceLE, Int.reduceLT, Int.reduceEq, Int.reduceNe, Int.reduceAdd, Int.reduceSub, Int.reduceMul, Int.reduceToNat, Int.reduceNeg, Int.reduceBNe, Nat.reduceAdd, Nat.reduceLT, Nat.reduceLeDiff, Nat.reduceEqDiff, Int.ofNat_eq_natCast, ne_eq, not_false_eq_true, and_self, true_or, or_true, pure_app, bad_app, bd_ok, bd_exc, bd_bad, bd_ite, liftO_some, liftO_none, liftO_ite, liftB_some, we_ok, we_exc, we_bad, we_ite, an_next, an_ret, an_brk, an_cont, an_rse, an_bad, an_ite, en_ret, en_next, en_rse, en_bad, en_ite, lp_next, lp_cont, lp_brk, lp_ret, lp_rse, lp_bad, lp_ite, endF_app, forL_nil, varE_z, varE_s, kE_app, tyE_app, binE_app, notE_app, negE_app, negV_int, andE_app, orE_app, cmpE_app, cmp2E_app, iteE_app, evs_nil, evs_cons, lstE_app, newE_app, tupE_app, ixE_app, partO_none, partO_some, intO_int, Option.map_some, Option.bind_some, slE_app, callF_app, bltE_app, rngI_app, rngI2_app, rng1_app, rng2_app, seqI_app, walk_lst, walk_scr, walk_tup, walk_str, lcF_app, truT_app, notT_app, andT_app, orT_app, blO_bl, cmpT_app, cmp2T_app, exprS_app, retS_app, ifS_app, forS_app, setS_app, nxO_some, tupS_app, ixS_app, augS_app, seqS_nil, seqS_cons, addV_int, subV_int, iaddV_int, mulV_int, modV_int, fdvV_int, powV_int, shlV_int, shrV_int, andV_int, iorV_int, cmp_lt, cmp_le, cmp_gt, cmp_ge, cmp_eqi, cmp_nei, cmp_eqs, cmp_nes, tru_bl, tru_int, tru_non, abs_int, ite_app, List.set_cons_zero, List.set_cons_succ, decide_eq_true_eq, Bool.and_eq_true, Bool.or_eq_true, Bool.not_eq_true', decide_eq_false_iff_not, if_true, if_false, Bool.false_eq_true, not_true_eq_false, Bool.not_true, Bool.not_false, decide_true, decide_false, Bool.true_eq_false, ixV_loc, ixV_locs, setIx_loc, ixV_lst, ixV_tup, ixV_scr, rng_int, wipeR_nil, wipeR_cons, atI_pos, List.length_cons, List.length_nil, List.getElem?_cons_zero, List.getElem?_cons_succ, isi_non_int, isi_non_bool, isi_non_str, isi_non_tuple, isi_non_list, isi_non_dict, isi_bl_int, isi_bl_bool, isi_bl_str, isi_bl_tuple, isi_bl_list, isi_bl_dict, isi_int_int, isi_int_bool, isi_int_str, isi_int_tuple, isi_int_list, isi_int_dict, isi_str_int, isi_str_bool, isi_str_str, isi_str_tuple, isi_str_list, isi_str_dict, isi_tup_int, isi_tup_bool, isi_tup_str, isi_tup_tuple, isi_tup_list, isi_tup_dict, isi_lst_int, isi_lst_bool, isi_lst_str, isi_lst_tuple, isi_lst_list, isi_lst_dict, isi_scr_int, isi_scr_bool, isi_scr_str, isi_scr_tuple, isi_scr_list, isi_scr_dict, isi_dct_int, isi_dct_bool, isi_dct_str, isi_dct_tuple, isi_dct_list, isi_dct_dict, metE_app, met_split, met_join, met_append, nx_ok, newD_app, len_lst, len_scr, len_tup, cmp_is_bl, cmp_isnot_bl, cmp_eqb, cmp_neb, tru_str, cmp_in_s, cmp_notin_s, cd_law_kept, sp_kept, in_lst, hk, ne, lenV_str, hz, l1, l2, l2', f1, hf2, Bool.and_false, Bool.false_and, Bool.true_and, Bool.and_true]
    · have l2' : 12 < (s.length : Int) := by omega
      simp only [mir_law_is_name, Int.reduceLE, Int.reduceLT, Int.reduceEq, Int.reduceNe, Int.reduceAdd, Int.reduceSub, Int.reduceMul, Int.reduceToNat, Int.reduceNeg, Int.reduceBNe, Nat.reduceAdd, Nat.reduceLT, Nat.reduceLeDiff, Nat.reduceEqDiff, Int.ofNat_eq_natCast, ne_eq, not_false_eq_true, and_self, true_or, or_true, pure_app, bad_app, bd_ok, bd_exc, bd_bad, bd_ite, liftO_some, liftO_none, liftO_ite, liftB_some, we_ok, we_exc, we_bad, we_ite, an_next, an_ret, an_brk, an_cont, an_rse, an_bad, an_ite, en_ret, en_next, en_rse, en_bad, en_ite, lp_next, lp_cont, lp_brk, lp_ret, lp_rse, lp_bad, lp_ite, endF_app, forL_nil, varE_z, varE_s, kE_app, tyE_app, binE_app, notE_app, negE_app, negV_int, andE_app, orE_app, cmpE_app, cmp2E_app, iteE_app, evs_nil, evs_cons, lstE_app, newE_app, tupE_app, ixE_app, partO_none, partO_some, intO_int, Option.map_some, Option.bind_some, slE_app, callF_app, bltE_app, rngI_app, rngI2_app, rng1_app, rng2_app, seqI_app, walk_lst, walk_scr, walk_tup, walk_str, lcF_app, truT_app, notT_app, andT_app, orT_app, blO_bl, cmpT_app, cmp2T_app, exprS_app, retS_app, ifS_app, forS_app, setS_app, nxO_some, tupS_app, ixS_app, augS_app, seqS_nil, seqS_cons, addV_int, subV_int, iaddV_int, mulV_int, modV_int, fdvV_int, powV_int, shlV_int, shrV_int, andV_int, iorV_int, cmp_lt, cmp_le, cmp_gt, cmp_ge, cmp_eqi, cmp_nei, cmp_eqs, cmp_nes, tru_bl, tru_int, tru_non, abs_int, ite_app, List.set_cons_zero, List.set_cons_succ, decide_eq_true_eq, Bool.and_eq_true, Bool.or_eq_true, Bool.not_eq_true', decide_eq_false_iff_not, if_true, if_false, Bool.false_eq_true, not_true_eq_false, Bool.not_true, Bool.not_false, decide_true, decide_false, Bool.true_eq_false, ixV_loc, ixV_locs, setIx_loc, ixV_lst, ixV_tup, ixV_scr, rng_int, wipeR_nil, wipeR_cons, atI_pos, List.length_cons, List.length_nil, List.getElem?_cons_zero, List.getElem?_cons_succ, isi_non_int, isi_non_bool, isi_non_str, isi_non_tuple, isi_non_list, isi_non_dict, isi_bl_int, isi_bl_bool, isi_bl_str, isi_bl_tuple, isi_bl_list, isi_bl_dict, isi_int_int, isi_int_bool, isi_int_str, isi_int_tuple, isi_int_list, isi_int_dict, isi_str_int, isi_str_bool, isi_str_str, isi_str_tuple, isi_str_list, isi_str_dict, isi_tup_int, isi_tup_bool, isi_tup_str, isi_tup_tuple, isi_tup_list, isi_tup_dict, isi_lst_int, isi_lst_bool, isi_lst_str, isi_lst_tuple, isi_lst_list, isi_lst_dict, isi_scr_int, isi_scr_bool, isi_scr_str, isi_scr_tuple, isi_scr_list, isi_scr_dict, isi_dct_int, isi_dct_bool, isi_dct_str, isi_dct_tuple, isi_dct_list, isi_dct_dict, metE_app, met_split, met_join, met_append, nx_ok, newD_app, len_lst, len_scr, len_tup, cmp_is_bl, cmp_isnot_bl, cmp_eqb, cmp_neb, tru_str, cmp_in_s, cmp_notin_s, cd_law_kept, sp_kept, in_lst, hk, ne, lenV_str, hz, l1, l2, l2', Bool.and_false, Bool.false_and]
  · have e : s = "" := by
      have : s.cps.size = 0 := by show s.length = 0; omega
      obtain ⟨c⟩ := s
      have := Array.eq_empty_of_size_eq_zero this
      subst this
      rfl
    simp only [mir_law_is_name, Int.reduceLE, Int.reduceLT, Int.reduceEq, Int.reduceNe, Int.reduceAdd, Int.reduceSub, Int.reduceMul, Int.reduceToNat, Int.reduceNeg, Int.reduceBNe, Nat.reduceAdd, Nat.reduceLT, Nat.reduceLeDiff, Nat.reduceEqDiff, Int.ofNat_eq_natCast, ne_eq, not_false_eq_true, and_self, true_or, or_true, pure_app, bad_app, bd_ok, bd_exc, bd_bad, bd_ite, liftO_some, liftO_none, liftO_ite, liftB_some, we_ok, we_exc, we_bad, we_ite, an_next, an_ret, an_brk, an_cont, an_rse, an_bad, an_ite, en_ret, en_next, en_rse, en_bad, en_ite, lp_next, lp_cont, lp_brk, lp_ret, lp_rse, lp_bad, lp_ite, endF_app, forL_nil, varE_z, varE_s, kE_app, tyE_app, binE_app, notE_app, negE_app, negV_int, andE_app, orE_app, cmpE_app, cmp2E_app, iteE_app, evs_nil, evs_cons, lstE_app, newE_app, tupE_app, ixE_app, partO_none, partO_some, intO_int, Option.map_some, Option.bind_some, slE_app, callF_app, bltE_app, rngI_app, rngI2_app, rng1_app, rng2_app, seqI_app, walk_lst, walk_scr, walk_tup, walk_str, lcF_app, truT_app, notT_app, andT_app, orT_app, blO_bl, cmpT_app, cmp2T_app, exprS_app, retS_app, ifS_app, forS_app, setS_app, nxO_some, tupS_app, ixS_app, augS_app, seqS_nil, seqS_cons, addV_int, subV_int, iaddV_int, mulV_int, modV_int, fdvV_int, powV_int, shlV_int, shrV_int, andV_int, iorV_int, cmp_lt, cmp_le, cmp_gt, cmp_ge, cmp_eqi, cmp_nei, cmp_eqs, cmp_nes, tru_bl, tru_int, tru_non, abs_int, ite_app, List.set_cons_zero, List.set_cons_succ, decide_eq_true_eq, Bool.and_eq_true, Bool.or_eq_true, Bool.not_eq_true', decide_eq_false_iff_not, if_true, if_false, Bool.false_eq_true, not_true_eq_false, Bool.not_true, Bool.not_false, decide_true, decide_false, Bool.true_eq_false, ixV_loc, ixV_locs, setIx_loc, ixV_lst, ixV_tup, ixV_scr, rng_int, wipeR_nil, wipeR_cons, atI_pos, List.length_cons, List.length_nil, List.getElem?_cons_zero, List.getElem?_cons_succ, isi_non_int, isi_non_bool, isi_non_str, isi_non_tuple, isi_non_list, isi_non_dict, isi_bl_int, isi_bl_bool, isi_bl_str, isi_bl_tuple, isi_bl_list, isi_bl_dict, isi_int_int, isi_int_bool, isi_int_str, isi_int_tuple, isi_int_list, isi_int_dict, isi_str_int, isi_str_bool, isi_str_str, isi_str_tuple, isi_str_list, isi_str_dict, isi_tup_int, isi_tup_bool, isi_tup_str, isi_tup_tuple, isi_tup_list, isi_tup_dict, isi_lst_int, isi_lst_bool, isi_lst_str, isi_lst_tuple, isi_lst_list, isi_lst_dict, isi_scr_int, isi_scr_bool, isi_scr_str, isi_scr_tuple, isi_scr_list, isi_scr_dict, isi_dct_int, isi_dct_bool, isi_dct_str, isi_dct_tuple, isi_dct_list, isi_dct_dict, metE_app, met_split, met_join, met_append, nx_ok, newD_app, len_lst, len_scr, len_tup, cmp_is_bl, cmp_isnot_bl, cmp_eqb, cmp_neb, tru_str, cmp_in_s, cmp_notin_s, cd_law_kept, sp_kept, in_lst, hk, e, l1, Bool.false_and]
    rfl
theorem sp_is_word_s (k : Nat) (s : Str) (h : Hs) : callN tb (k + 2) ("is_word", none) [.str s] h = .ok (.bl false) h := by
  rw [call_is_word]
  simp only [mir_is_word, Int.reduceLE, Int.reduceLT, Int.reduceEq, Int.reduceNe, Int.reduceAdd, Int.reduceSub, Int.reduceMul, Int.reduceToNat, Int.reduceNeg, Int.reduceBNe, Nat.reduceAdd, Nat.reduceLT, Nat.reduceLeDiff, Nat.reduceEqDiff, Int.ofNat_eq_natCast, ne_eq, not_false_eq_true, and_self, true_or, or_true, pure_app, bad_app, bd_ok, bd_exc, bd_bad, bd_ite, liftO_some, liftO_none, liftO_ite, liftB_some, we_ok, we_exc, we_bad, we_ite, an_next, an_ret, an_brk, an_cont, an_rse, an_bad, an_ite, en_ret, en_next, en_rse, en_bad, en_ite, lp_next, lp_cont, lp_brk, lp_ret, lp_rse, lp_bad, lp_ite, endF_app, forL_nil, varE_z, varE_s, kE_app, tyE_app, binE_app, notE_app, negE_app, negV_int, andE_app, orE_app, cmpE_app, cmp2E_app, iteE_app, evs_nil, evs_cons, lstE_app, newE_app, tupE_app, ixE_app, partO_none, partO_some, intO_int, Option.map_some, Option.bind_some, slE_app, callF_app, bltE_app, rngI_app, rngI2_app, rng1_app, rng2_app, seqI_app, walk_lst, walk_scr, walk_tup, walk_str, lcF_app, truT_app, notT_app, andT_app, orT_app, blO_bl, cmpT_app, cmp2T_app, exprS_app, retS_app, ifS_app, forS_app, setS_app, nxO_some, tupS_app, ixS_app, augS_app, seqS_nil, seqS_cons, addV_int, subV_int, iaddV_int, mulV_int, modV_int, fdvV_int, powV_int, shlV_int, shrV_int, andV_int, iorV_int, cmp_lt, cmp_le, cmp_gt, cmp_ge, cmp_eqi, cmp_nei, cmp_eqs, cmp_nes, tru_bl, tru_int, tru_non, abs_int, ite_app, List.set_cons_zero, List.set_cons_succ, decide_eq_true_eq, Bool.and_eq_true, Bool.or_eq_true, Bool.not_eq_true', decide_eq_false_iff_not, if_true, if_false, Bool.false_eq_true, not_true_eq_false, Bool.not_true, Bool.not_false, decide_true, decide_false, Bool.true_eq_false, ixV_loc, ixV_locs, setIx_loc, ixV_lst, ixV_tup, ixV_scr, rng_int, wipeR_nil, wipeR_cons, atI_pos, List.length_cons, List.length_nil, List.getElem?_cons_zero, List.getElem?_cons_succ, isi_non_int, isi_non_bool, isi_non_str, isi_non_tuple, isi_non_list, isi_non_dict, isi_bl_int, isi_bl_bool, isi_bl_str, isi_bl_tuple, isi_bl_list, isi_bl_dict, isi_int_int, isi_int_bool, isi_int_str, isi_int_tuple, isi_int_list, isi_int_dict, isi_str_int, isi_str_bool, isi_str_str, isi_str_tuple, isi_str_list, isi_str_dict, isi_tup_int, isi_tup_bool, isi_tup_str, isi_tup_tuple, isi_tup_list, isi_tup_dict, isi_lst_int, isi_lst_bool, isi_lst_str, isi_lst_tuple, isi_lst_list, isi_lst_dict, isi_scr_int, isi_scr_bool, isi_scr_str, isi_scr_tuple, isi_scr_list, isi_scr_dict, isi_dct_int, isi_dct_bool, isi_dct_str, isi_dct_tuple, isi_dct_list, isi_dct_dict, metE_app, met_split, met_join, met_append, nx_ok, newD_app, len_lst, len_scr, len_tup, cmp_is_bl, cmp_isnot_bl, cmp_eqb, cmp_neb, tru_str, cmp_in_s, cmp_notin_s, cd_is_whole, call_is_whole, mir_is_whole]
inductive ThingOk : Val → Prop
  | int (n : Int) : ThingOk (.int n)
  | tt : ThingOk (.bl true)
  | ff : ThingOk (.bl false)
  | non : ThingOk .non
  | five : ThingOk (.str "5")
  | lst : ThingOk (.lst [.int 5])
  | tup : ThingOk (.tup [.int 5])
  | dct : ThingOk (.dct [.inl 5] [.int 5])
  | emp : ThingOk (.str "")
  | nod : ThingOk (.dct [] [])
theorem dct5 (r : Rho) (h : Hs) : dctE [((fun r => kE (.int 5)), (fun r => kE (.int 5)))] r h = .ok (.dct [.inl 5] [.int 5]) h := nr (by kernel_rfl)
theorem sp_thing (k : Nat) (s : LSt) (hs : Hs) : ∃ v s', callN tb (k + 2) ("_law_thing", none) [.loc 0] (s.ob :: hs) = .ok v (LSt.ob s' :: hs) ∧ ThingOk v := by
  rw [call_law_thing]
  have l16 : (16 : Nat) ≤ sizeLine := by decide
  have l1 : (1 : Nat) ≤ sizeLine := by decide
  obtain ⟨v, hv, e⟩ := atI_mem (l := [.int 0, .int 65535, .int 65536, .int (-1), .int (mixV (mixN s 0) 0), .int (10 ^ 30), .bl true, .bl false, .non, .str "5", .lst [.int 5], .tup [.int 5], .dct [.inl 5] [.int 5], .str "", .dct [] [], .int 1]) (i := mixV s 0 % 16) (by omega) (by show _ < (16 : Int); omega)
  refine ⟨v, mixN (mixN s 0) 0, ?_, ?_⟩
  · simp only [mir_law_thing, Int.reduceLE, Int.reduceLT, Int.reduceEq, Int.reduceNe, Int.reduceAdd, Int.reduceSub, Int.reduceMul, Int.reduceToNat, Int.reduceNeg, Int.reduceBNe, Nat.reduceAdd, Nat.reduceLT, Nat.reduceLeDiff, Nat.reduceEqDiff, Int.ofNat_eq_natCast, ne_eq, not_false_eq_true, and_self, true_or, or_true, pure_app, bad_app, bd_ok, bd_exc, bd_bad, bd_ite, liftO_some, liftO_none, liftO_ite, liftB_some, we_ok, we_exc, we_bad, we_ite, an_next, an_ret, an_brk, an_cont, an_rse, an_bad, an_ite, en_ret, en_next, en_rse, en_bad, en_ite, lp_next, lp_cont, lp_brk, lp_ret, lp_rse, lp_bad, lp_ite, endF_app, forL_nil, varE_z, varE_s, kE_app, tyE_app, binE_app, notE_app, negE_app, negV_int, andE_app, orE_app, cmpE_app, cmp2E_app, iteE_app, evs_nil, evs_cons, lstE_app, newE_app, tupE_app, ixE_app, partO_none, partO_some, intO_int, Option.map_some, Option.bind_some, slE_app, callF_app, bltE_app, rngI_app, rngI2_app, rng1_app, rng2_app, seqI_app, walk_lst, walk_scr, walk_tup, walk_str, lcF_app, truT_app, notT_app, andT_app, orT_app, blO_bl, cmpT_app, cmp2T_app, exprS_app, retS_app, ifS_app, forS_app, setS_app, nxO_some, tupS_app, ixS_app, augS_app, seqS_nil, seqS_cons, addV_int, subV_int, iaddV_int, mulV_int, modV_int, fdvV_int, powV_int, shlV_int, shrV_int, andV_int, iorV_int, cmp_lt, cmp_le, cmp_gt, cmp_ge, cmp_eqi, cmp_nei, cmp_eqs, cmp_nes, tru_bl, tru_int, tru_non, abs_int, ite_app, List.set_cons_zero, List.set_cons_succ, decide_eq_true_eq, Bool.and_eq_true, Bool.or_eq_true, Bool.not_eq_true', decide_eq_false_iff_not, if_true, if_false, Bool.false_eq_true, not_true_eq_false, Bool.not_true, Bool.not_false, decide_true, decide_false, Bool.true_eq_false, ixV_loc, ixV_locs, setIx_loc, ixV_lst, ixV_tup, ixV_scr, rng_int, wipeR_nil, wipeR_cons, atI_pos, List.length_cons, List.length_nil, List.getElem?_cons_zero, List.getElem?_cons_succ, isi_non_int, isi_non_bool, isi_non_str, isi_non_tuple, isi_non_list, isi_non_dict, isi_bl_int, isi_bl_bool, isi_bl_str, isi_bl_tuple, isi_bl_list, isi_bl_dict, isi_int_int, isi_int_bool, isi_int_str, isi_int_tuple, isi_int_list, isi_int_dict, isi_str_int, isi_str_bool, isi_str_str, isi_str_tuple, isi_str_list, isi_str_dict, isi_tup_int, isi_tup_bool, isi_tup_str, isi_tup_tuple, isi_tup_list, isi_tup_dict, isi_lst_int, isi_lst_bool, isi_lst_str, isi_lst_tuple, isi_lst_list, isi_lst_dict, isi_scr_int, isi_scr_bool, isi_scr_str, isi_scr_tuple, isi_scr_list, isi_scr_dict, isi_dct_int, isi_dct_bool, isi_dct_str, isi_dct_tuple, isi_dct_list, isi_dct_dict, metE_app, met_split, met_join, met_append, nx_ok, newD_app, len_lst, len_scr, len_tup, cmp_is_bl, cmp_isnot_bl, cmp_eqb, cmp_neb, tru_str, cmp_in_s, cmp_notin_s, cd_law_mix, sp_mix, dct5, l16, l1, e]
  · simp only [List.mem_cons, List.not_mem_nil, or_false] at hv
    rcases hv with rfl | rfl | rfl | rfl | rfl | rfl | rfl | rfl | rfl | rfl | rfl | rfl | rfl | rfl | rfl | rfl
    all_goals constructor
def LabOk (t : Str) : Prop := t.length ≤ 1000 ∧ PyData.strOk t = true
theorem kept_ok : ∀ w ∈ keptS, w.length ≤ 6 ∧ PyData.strOk w = true := by decide +kernel
theorem kept_ix {i : Int} (h0 : 0 ≤ i) (h1 : i < 20) : ∃ w, w ∈ keptS ∧ ∀ h, ixV h (.lst (keptS.map Val.str)) (.int i) = some (.str w) := by
  obtain ⟨v, hv, e⟩ := atI_mem (l := keptS.map Val.str) (i := i) h0 (by show _ < (20 : Int); exact h1)
  obtain ⟨w, hw, rfl⟩ := List.mem_map.mp hv
  exact ⟨w, hw, fun h => e⟩
theorem sp_label (k : Nat) (s : LSt) (hs : Hs) : ∃ t s', callN tb (k + 2) ("_law_label", none) [.loc 0] (s.ob :: hs) = .ok (.str t) (LSt.ob s' :: hs) ∧ LabOk t := by
  rw [call_law_label]
  have big : (1000 : Nat) ≤ sizeLine := by decide
  obtain ⟨w, hw, ew⟩ := kept_ix (i := mixV (mixN s 0) 0 % 20) (by omega) (by omega)
  obtain ⟨w1, w2⟩ := kept_ok w hw
  have w3 : w.length ≤ sizeLine := by omega
  by_cases c0 : mixV s 0 % 6 = 0
  · refine ⟨w, mixN (mixN s 0) 0, ?_, by omega, w2⟩
    simp only [mir_law_label, Int.reduceLE, Int.reduceLT, Int.reduceEq, Int.reduceNe, Int.reduceAdd, Int.reduceSub, Int.reduceMul, Int.reduceToNat, Int.reduceNeg, Int.reduceBNe, Nat.reduceAdd, Nat.reduceLT, Nat.reduceLeDiff, Nat.reduceEqDiff, Int.ofNat_eq_natCast, ne_eq, not_false_eq_true, and_self, true_or, or_true, pure_app, bad_app, bd_ok, bd_exc, bd_bad, bd_ite, liftO_some, liftO_none, liftO_ite, liftB_some, we_ok, we_exc, we_bad, we_ite, an_next, an_ret, an_brk, an_cont, an_rse, an_bad, an_ite, en_ret, en_next, en_rse, en_bad, en_ite, lp_next, lp_cont, lp_brk, lp_ret, lp_rse, lp_bad, lp_ite, endF_app, forL_nil, varE_z, varE_s, kE_app, tyE_app, binE_app, notE_app, negE_app, negV_int, andE_app, orE_app, cmpE_app, cmp2E_app, iteE_app, evs_nil, evs_cons, lstE_app, newE_app, tupE_app, ixE_app, partO_none, partO_some, intO_int, Option.map_some, Option.bind_some, slE_app, callF_app, bltE_app, rngI_app, rngI2_app, rng1_app, rng2_app, seqI_app, walk_lst, walk_scr, walk_tup, walk_str, lcF_app, truT_app, notT_app, andT_app, orT_app, blO_bl, cmpT_app, cmp2T_app, exprS_app, retS_app, ifS_app, forS_app, setS_app, nxO_some, tupS_app, ixS_app, augS_app, seqS_nil, seqS_cons, addV_int, subV_int, iaddV_int, mulV_int, modV_int, fdvV_int, powV_int, shlV_int, shrV_int, andV_int, iorV_int, cmp_lt, cmp_le, cmp_gt, cmp_ge, cmp_eqi, cmp_nei, cmp_eqs, cmp_nes, tru_bl, tru_int, tru_non, abs_int, ite_app, List.set_cons_zero, List.set_cons_succ, decide_eq_true_eq, Bool.and_eq_true, Bool.or_eq_true, Bool.not_eq_true', decide_eq_false_iff_not, if_true, if_false, Bool.false_eq_true, not_true_eq_false, Bool.not_true, Bool.not_false, decide_true, decide_false, Bool.true_eq_false, ixV_loc, ixV_locs, setIx_loc, ixV_lst, ixV_tup, ixV_scr, rng_int, wipeR_nil, wipeR_cons, atI_pos, List.length_cons, List.length_nil, List.getElem?_cons_zero, List.getElem?_cons_succ, isi_non_int, isi_non_bool, isi_non_str, isi_non_tuple, isi_non_list, isi_non_dict, isi_bl_int, isi_bl_bool, isi_bl_str, isi_bl_tuple, isi_bl_list, isi_bl_dict, isi_int_int, isi_int_bool, isi_int_str, isi_int_tuple, isi_int_list, isi_int_dict, isi_str_int, isi_str_bool, isi_str_str, isi_str_tuple, isi_str_list, isi_str_dict, isi_tup_int, isi_tup_bool, isi_tup_str, isi_tup_tuple, isi_tup_list, isi_tup_dict, isi_lst_int, isi_lst_bool, isi_lst_str, isi_lst_tuple, isi_lst_list, isi_lst_dict, isi_scr_int, isi_scr_bool, isi_scr_str, isi_scr_tuple, isi_scr_list, isi_scr_dict, isi_dct_int, isi_dct_bool, isi_dct_str, isi_dct_tuple, isi_dct_list, isi_dct_dict, metE_app, met_split, met_join, met_append, nx_ok, newD_app, len_lst, len_scr, len_tup, cmp_is_bl, cmp_isnot_bl, cmp_eqb, cmp_neb, tru_str, cmp_in_s, cmp_notin_s, cd_law_mix, sp_mix, cd_law_kept, sp_kept, c0, ew]
  by_cases c1 : mixV s 0 % 6 = 1
  · obtain ⟨c, hc, ec⟩ := str_ix (z := "abc1 ") (h := []) (i := mixV (mixN (mixN s 0) 0) 0 % 5) (by decide) (by omega) (by show _ < (5 : Int); omega)
    have a1 : w.length + (⟨#[c]⟩ : Str).length ≤ sizeLine := by show w.length + 1 ≤ _; omega
    refine ⟨w ++ ⟨#[c]⟩, mixN (mixN (mixN s 0) 0) 0, ?_, ?_, strOk_app w2 (strOk_mem (by decide +kernel) hc)⟩
    · simp only [mir_law_label, Int.reduceLE, Int.reduceLT, Int.reduceEq, Int.reduceNe, Int.reduceAdd, Int.reduceSub, Int.reduceMul, Int.reduceToNat, Int.reduceNeg, Int.reduceBNe, Nat.reduceAdd, Nat.reduceLT, Nat.reduceLeDiff, Nat.reduceEqDiff, Int.ofNat_eq_natCast, ne_eq, not_false_eq_true, and_self, true_or, or_true, pure_app, bad_app, bd_ok, bd_exc, bd_bad, bd_ite, liftO_some, liftO_none, liftO_ite, liftB_some, we_ok, we_exc, we_bad, we_ite, an_next, an_ret, an_brk, an_cont, an_rse, an_bad, an_ite, en_ret, en_next, en_rse, en_bad, en_ite, lp_next, lp_cont, lp_brk, lp_ret, lp_rse, lp_bad, lp_ite, endF_app, forL_nil, varE_z, varE_s, kE_app, tyE_app, binE_app, notE_app, negE_app, negV_int, andE_app, orE_app, cmpE_app, cmp2E_app, iteE_app, evs_nil, evs_cons, lstE_app, newE_app, tupE_app, ixE_app, partO_none, partO_some, intO_int, Option.map_some, Option.bind_some, slE_app, callF_app, bltE_app, rngI_app, rngI2_app, rng1_app, rng2_app, seqI_app, walk_lst, walk_scr, walk_tup, walk_str, lcF_app, truT_app, notT_app, andT_app, orT_app, blO_bl, cmpT_app, cmp2T_app, exprS_app, retS_app, ifS_app, forS_app, setS_app, nxO_some, tupS_app, ixS_app, augS_app, seqS_nil, seqS_cons, addV_int, subV_int, iaddV_int, mulV_int, modV_int, fdvV_int, powV_int, shlV_int, shrV_int, andV_int, iorV_int, cmp_lt, cmp_le, cmp_gt, cmp_ge, cmp_eqi, cmp_nei, cmp_eqs, cmp_nes, tru_bl, tru_int, tru_non, abs_int, ite_app, List.set_cons_zero, List.set_cons_succ, decide_eq_true_eq, Bool.and_eq_true, Bool.or_eq_true, Bool.not_eq_true', decide_eq_false_iff_not, if_true, if_false, Bool.false_eq_true, not_true_eq_false, Bool.not_true, Bool.not_false, decide_true, decide_false, Bool.true_eq_false, ixV_loc, ixV_locs, setIx_loc, ixV_lst, ixV_tup, ixV_scr, rng_int, wipeR_nil, wipeR_cons, atI_pos, List.length_cons, List.length_nil, List.getElem?_cons_zero, List.getElem?_cons_succ, isi_non_int, isi_non_bool, isi_non_str, isi_non_tuple, isi_non_list, isi_non_dict, isi_bl_int, isi_bl_bool, isi_bl_str, isi_bl_tuple, isi_bl_list, isi_bl_dict, isi_int_int, isi_int_bool, isi_int_str, isi_int_tuple, isi_int_list, isi_int_dict, isi_str_int, isi_str_bool, isi_str_str, isi_str_tuple, isi_str_list, isi_str_dict, isi_tup_int, isi_tup_bool, isi_tup_str, isi_tup_tuple, isi_tup_list, isi_tup_dict, isi_lst_int, isi_lst_bool, isi_lst_str, isi_lst_tuple, isi_lst_list, isi_lst_dict, isi_scr_int, isi_scr_bool, isi_scr_str, isi_scr_tuple, isi_scr_list, isi_scr_dict, isi_dct_int, isi_dct_bool, isi_dct_str, isi_dct_tuple, isi_dct_list, isi_dct_dict, metE_app, met_split, met_join, met_append, nx_ok, newD_app, len_lst, len_scr, len_tup, cmp_is_bl, cmp_isnot_bl, cmp_eqb, cmp_neb, tru_str, cmp_in_s, cmp_notin_s, cd_law_mix, sp_mix, cd_law_kept, sp_kept, c1, ew, ec, addV_str a1]
    · rw [Str.length_append]
      show w.length + 1 ≤ 1000
      omega
  by_cases c2 : mixV s 0 % 6 = 2
  · refine ⟨cutS w none (some (-1)), mixN (mixN s 0) 0, ?_, ?_, strOk_cut w2⟩
    · simp only [mir_law_label, Int.reduceLE, Int.reduceLT, Int.reduceEq, Int.reduceNe, Int.reduceAdd, Int.reduceSub, Int.reduceMul, Int.reduceToNat, Int.reduceNeg, Int.reduceBNe, Nat.reduceAdd, Nat.reduceLT, Nat.reduceLeDiff, Nat.reduceEqDiff, Int.ofNat_eq_natCast, ne_eq, not_false_eq_true, and_self, true_or, or_true, pure_app, bad_app, bd_ok, bd_exc, bd_bad, bd_ite, liftO_some, liftO_none, liftO_ite, liftB_some, we_ok, we_exc, we_bad, we_ite, an_next, an_ret, an_brk, an_cont, an_rse, an_bad, an_ite, en_ret, en_next, en_rse, en_bad, en_ite, lp_next, lp_cont, lp_brk, lp_ret, lp_rse, lp_bad, lp_ite, endF_app, forL_nil, varE_z, varE_s, kE_app, tyE_app, binE_app, notE_app, negE_app, negV_int, andE_app, orE_app, cmpE_app, cmp2E_app, iteE_app, evs_nil, evs_cons, lstE_app, newE_app, tupE_app, ixE_app, partO_none, partO_some, intO_int, Option.map_some, Option.bind_some, slE_app, callF_app, bltE_app, rngI_app, rngI2_app, rng1_app, rng2_app, seqI_app, walk_lst, walk_scr, walk_tup, walk_str, lcF_app, truT_app, notT_app, andT_app, orT_app, blO_bl, cmpT_app, cmp2T_app, exprS_app, retS_app, ifS_app, forS_app, setS_app, nxO_some, tupS_app, ixS_app, augS_app, seqS_nil, seqS_cons, addV_int, subV_int, iaddV_int, mulV_int, modV_int, fdvV_int, powV_int, shlV_int, shrV_int, andV_int, iorV_int, cmp_lt, cmp_le, cmp_gt, cmp_ge, cmp_eqi, cmp_nei, cmp_eqs, cmp_nes, tru_bl, tru_int, tru_non, abs_int, ite_app, List.set_cons_zero, List.set_cons_succ, decide_eq_true_eq, Bool.and_eq_true, Bool.or_eq_true, Bool.not_eq_true', decide_eq_false_iff_not, if_true, if_false, Bool.false_eq_true, not_true_eq_false, Bool.not_true, Bool.not_false, decide_true, decide_false, Bool.true_eq_false, ixV_loc, ixV_locs, setIx_loc, ixV_lst, ixV_tup, ixV_scr, rng_int, wipeR_nil, wipeR_cons, atI_pos, List.length_cons, List.length_nil, List.getElem?_cons_zero, List.getElem?_cons_succ, isi_non_int, isi_non_bool, isi_non_str, isi_non_tuple, isi_non_list, isi_non_dict, isi_bl_int, isi_bl_bool, isi_bl_str, isi_bl_tuple, isi_bl_list, isi_bl_dict, isi_int_int, isi_int_bool, isi_int_str, isi_int_tuple, isi_int_list, isi_int_dict, isi_str_int, isi_str_bool, isi_str_str, isi_str_tuple, isi_str_list, isi_str_dict, isi_tup_int, isi_tup_bool, isi_tup_str, isi_tup_tuple, isi_tup_list, isi_tup_dict, isi_lst_int, isi_lst_bool, isi_lst_str, isi_lst_tuple, isi_lst_list, isi_lst_dict, isi_scr_int, isi_scr_bool, isi_scr_str, isi_scr_tuple, isi_scr_list, isi_scr_dict, isi_dct_int, isi_dct_bool, isi_dct_str, isi_dct_tuple, isi_dct_list, isi_dct_dict, metE_app, met_split, met_join, met_append, nx_ok, newD_app, len_lst, len_scr, len_tup, cmp_is_bl, cmp_isnot_bl, cmp_eqb, cmp_neb, tru_str, cmp_in_s, cmp_notin_s, cd_law_mix, sp_mix, cd_law_kept, sp_kept, c2, ew, slV_str w3]
    · have := cut_length (z := w) (lo := none) (hi := some (-1))
      omega
  · have m3 : 0 ≤ mixV (mixN s 0) 0 % 6 := by omega
    have m4 : mixV (mixN s 0) 0 % 6 < 18446744073709551616 := by omega
    have m5 : -18446744073709551616 < mixV (mixN s 0) 0 % 6 := by omega
    have z1 : ("A_. -" : Str).length ≤ sizeLine := by decide
    generalize hk : mixV (mixN s 0) 0 % 6 * (mixV (mixN (mixN s 0) 0) 0 % 3 / 2) = kk
    obtain ⟨cs, hcs⟩ : ∃ cs, cutS "A_. -" none (some kk) = cs := ⟨_, rfl⟩
    have lcs : cs.length ≤ 5 := by rw [← hcs]; exact cut_length
    have ocs : PyData.strOk cs = true := by rw [← hcs]; exact strOk_cut (by decide +kernel)
    obtain ⟨g, hg⟩ : ∃ g, ("abcxyz019" : Str) ++ cs = g := ⟨_, rfl⟩
    have lg : g.length = 9 + cs.length := by rw [← hg, Str.length_append]; rfl
    have og : PyData.strOk g = true := by rw [← hg]; exact strOk_app (by decide +kernel) ocs
    have a1 : ("abcxyz019" : Str).length + cs.length ≤ sizeLine := by show 9 + cs.length ≤ _; omega
    have lz : g.length ≤ sizeLine := by omega
    have g0 : (0 : Int) < (g.length : Int) := by omega
    obtain ⟨n1, n2⟩ := mixV_bound (mixN (mixN (mixN s 0) 0) 0) 0
    have r1 : -4611686018427387904 ≤ mixV (mixN (mixN (mixN s 0) 0) 0) 0 % 15 := by omega
    have r2 : mixV (mixN (mixN (mixN s 0) 0) 0) 0 % 15 < 4611686018427387904 := by omega
    obtain ⟨xs, s', e, hx, hl⟩ := lc_inv (α := LSt) (fun s => s.ob :: hs) (fun v => ∃ c, c ∈ g.cps.toList ∧ v = .str ⟨#[c]⟩) (f := tgName 4) (me := fun r => ixE (varE r 3) (binE modV (callF (callN tb (k + 1)) dc_law_mix.i [varE r 0, kE (.int 0)]) (bltE lenV [varE r 3]))) (r := [some (.loc 0), some (.lst (keptS.map Val.str)), some (.int (mixV s 0 % 6)), some (.str g), none]) (l := rangeL 0 (mixV (mixN (mixN (mixN s 0) 0) 0) 0 % 15).toNat) (by rw [rangeL_length]; omega) (fun v hv a => by
      obtain ⟨c, hc, ec⟩ := str_ix (z := g) (h := []) (i := mixV a 0 % (g.length : Int)) lz (Int.emod_nonneg _ (by omega)) (Int.emod_lt_of_pos _ g0)
      refine ⟨_, .str ⟨#[c]⟩, mixN a 0, rfl, ?_, c, hc, rfl⟩
      simp only [Int.reduceLE, Int.reduceLT, Int.reduceEq, Int.reduceNe, Int.reduceAdd, Int.reduceSub, Int.reduceMul, Int.reduceToNat, Int.reduceNeg, Int.reduceBNe, Nat.reduceAdd, Nat.reduceLT, Nat.reduceLeDiff, Nat.reduceEqDiff, Int.ofNat_eq_natCast, ne_eq, not_false_eq_true, and_self, true_or, or_true, pure_app, bad_app, bd_ok, bd_exc, bd_bad, bd_ite, liftO_some, liftO_none, liftO_ite, liftB_some, we_ok, we_exc, we_bad, we_ite, an_next, an_ret, an_brk, an_cont, an_rse, an_bad, an_ite, en_ret, en_next, en_rse, en_bad, en_ite, lp_next, lp_cont, lp_brk, lp_ret, lp_rse, lp_bad, lp_ite, endF_app, forL_nil, varE_z, varE_s, kE_app, tyE_app, binE_app, notE_app, negE_app, negV_int, andE_app, orE_app, cmpE_app, cmp2E_app, iteE_app, evs_nil, evs_cons, lstE_app, newE_app, tupE_app, ixE_app, partO_none, partO_some, intO_int, Option.map_some, Option.bind_some, slE_app, callF_app, bltE_app, rngI_app, rngI2_app, rng1_app, rng2_app, seqI_app, walk_lst, walk_scr, walk_tup, walk_str, lcF_app, truT_app, notT_app, andT_app, orT_app, blO_bl, cmpT_app, cmp2T_app, exprS_app, retS_app, ifS_app, forS_app, setS_app, nxO_some, tupS_app, ixS_app, augS_app, seqS_nil, seqS_cons, addV_int, subV_int, iaddV_int, mulV_int, modV_int, fdvV_int, powV_int, shlV_int, shrV_int, andV_int, iorV_int, cmp_lt, cmp_le, cmp_gt, cmp_ge, cmp_eqi, cmp_nei, cmp_eqs, cmp_nes, tru_bl, tru_int, tru_non, abs_int, ite_app, List.set_cons_zero, List.set_cons_succ, decide_eq_true_eq, Bool.and_eq_true, Bool.or_eq_true, Bool.not_eq_true', decide_eq_false_iff_not, if_true, if_false, Bool.false_eq_true, not_true_eq_false, Bool.not_true, Bool.not_false, decide_true, decide_false, Bool.true_eq_false, ixV_loc, ixV_locs, setIx_loc, ixV_lst, ixV_tup, ixV_scr, rng_int, wipeR_nil, wipeR_cons, atI_pos, List.length_cons, List.length_nil, List.getElem?_cons_zero, List.getElem?_cons_succ, isi_non_int, isi_non_bool, isi_non_str, isi_non_tuple, isi_non_list, isi_non_dict, isi_bl_int, isi_bl_bool, isi_bl_str, isi_bl_tuple, isi_bl_list, isi_bl_dict, isi_int_int, isi_int_bool, isi_int_str, isi_int_tuple, isi_int_list, isi_int_dict, isi_str_int, isi_str_bool, isi_str_str, isi_str_tuple, isi_str_list, isi_str_dict, isi_tup_int, isi_tup_bool, isi_tup_str, isi_tup_tuple, isi_tup_list, isi_tup_dict, isi_lst_int, isi_lst_bool, isi_lst_str, isi_lst_tuple, isi_lst_list, isi_lst_dict, isi_scr_int, isi_scr_bool, isi_scr_str, isi_scr_tuple, isi_scr_list, isi_scr_dict, isi_dct_int, isi_dct_bool, isi_dct_str, isi_dct_tuple, isi_dct_list, isi_dct_dict, metE_app, met_split, met_join, met_append, nx_ok, newD_app, len_lst, len_scr, len_tup, cmp_is_bl, cmp_isnot_bl, cmp_eqb, cmp_neb, tru_str, cmp_in_s, cmp_notin_s, cd_law_mix, sp_mix, lenV_str lz, g0, ec]) (mixN (mixN (mixN (mixN s 0) 0) 0) 0)
    rw [rangeL_length] at hl
    obtain ⟨ys, hy, ey, oy⟩ : ∃ ys : List Str, strsOf xs = some ys ∧ ys.length = xs.length ∧ ∀ y ∈ ys, y.length = 1 ∧ PyData.strOk y = true := by
      clear e hl
      induction xs with
      | nil => exact ⟨[], rfl, rfl, fun _ h => nomatch h⟩
      | cons x xs ih =>
        obtain ⟨c, hc, ex⟩ := hx x List.mem_cons_self
        obtain ⟨ys, h1, h2, h3⟩ := ih fun z hz => hx z (List.mem_cons_of_mem _ hz)
        refine ⟨⟨#[c]⟩ :: ys, ?_, by rw [List.length_cons, List.length_cons, h2], fun y hy => ?_⟩
        · rw [ex]
          unfold strsOf
          rw [h1]
          rfl
        · rcases List.mem_cons.mp hy with q | q
          · rw [q]; exact ⟨rfl, strOk_mem og hc⟩
          · exact h3 y q
    have sum1 : (ys.map (·.length)).sum = ys.length := by
      clear hy ey
      induction ys with
      | nil => rfl
      | cons y ys ih =>
        rw [List.map_cons, List.sum_cons, ih fun z hz => oy z (List.mem_cons_of_mem _ hz), (oy y List.mem_cons_self).1, List.length_cons]
        omega
    have jl : ∀ h, mJoin (.str "") [.lst xs] h = .ok (.str (Str.join "" ys)) h := fun h => by
      show (match (some xs).bind strsOf with
        | some ys => if (ys.map fun y : Str => y.length).sum + ys.length * ("" : Str).length ≤ 16777216 then Out.ok (Val.str (Txt.join "" ys)) h else .bad
        | none => .bad) = _
      rw [Option.bind_some, hy]
      dsimp only
      rw [if_pos, txt_join]
      rw [sum1]
      show ys.length + ys.length * 0 ≤ _
      omega
    have len := StrLaws.join_length_le "" ys
    rw [sum1] at len
    have len2 : (Str.join "" ys).length ≤ ys.length + ys.length * 0 := len
    refine ⟨Str.join "" ys, s', ?_, by omega, strOk_join (by decide +kernel) fun y hy => (oy y hy).2⟩
    simp only [mir_law_label, Int.reduceLE, Int.reduceLT, Int.reduceEq, Int.reduceNe, Int.reduceAdd, Int.reduceSub, Int.reduceMul, Int.reduceToNat, Int.reduceNeg, Int.reduceBNe, Nat.reduceAdd, Nat.reduceLT, Nat.reduceLeDiff, Nat.reduceEqDiff, Int.ofNat_eq_natCast, ne_eq, not_false_eq_true, and_self, true_or, or_true, pure_app, bad_app, bd_ok, bd_exc, bd_bad, bd_ite, liftO_some, liftO_none, liftO_ite, liftB_some, we_ok, we_exc, we_bad, we_ite, an_next, an_ret, an_brk, an_cont, an_rse, an_bad, an_ite, en_ret, en_next, en_rse, en_bad, en_ite, lp_next, lp_cont, lp_brk, lp_ret, lp_rse, lp_bad, lp_ite, endF_app, forL_nil, varE_z, varE_s, kE_app, tyE_app, binE_app, notE_app, negE_app, negV_int, andE_app, orE_app, cmpE_app, cmp2E_app, iteE_app, evs_nil, evs_cons, lstE_app, newE_app, tupE_app, ixE_app, partO_none, partO_some, intO_int, Option.map_some, Option.bind_some, slE_app, callF_app, bltE_app, rngI_app, rngI2_app, rng1_app, rng2_app, seqI_app, walk_lst, walk_scr, walk_tup, walk_str, lcF_app, truT_app, notT_app, andT_app, orT_app, blO_bl, cmpT_app, cmp2T_app, exprS_app, retS_app, ifS_app, forS_app, setS_app, nxO_some, tupS_app, ixS_app, augS_app, seqS_nil, seqS_cons, addV_int, subV_int, iaddV_int, mulV_int, modV_int, fdvV_int, powV_int, shlV_int, shrV_int, andV_int, iorV_int, cmp_lt, cmp_le, cmp_gt, cmp_ge, cmp_eqi, cmp_nei, cmp_eqs, cmp_nes, tru_bl, tru_int, tru_non, abs_int, ite_app, List.set_cons_zero, List.set_cons_succ, decide_eq_true_eq, Bool.and_eq_true, Bool.or_eq_true, Bool.not_eq_true', decide_eq_false_iff_not, if_true, if_false, Bool.false_eq_true, not_true_eq_false, Bool.not_true, Bool.not_false, decide_true, decide_false, Bool.true_eq_false, ixV_loc, ixV_locs, setIx_loc, ixV_lst, ixV_tup, ixV_scr, rng_int, wipeR_nil, wipeR_cons, atI_pos, List.length_cons, List.length_nil, List.getElem?_cons_zero, List.getElem?_cons_succ, isi_non_int, isi_non_bool, isi_non_str, isi_non_tuple, isi_non_list, isi_non_dict, isi_bl_int, isi_bl_bool, isi_bl_str, isi_bl_tuple, isi_bl_list, isi_bl_dict, isi_int_int, isi_int_bool, isi_int_str, isi_int_tuple, isi_int_list, isi_int_dict, isi_str_int, isi_str_bool, isi_str_str, isi_str_tuple, isi_str_list, isi_str_dict, isi_tup_int, isi_tup_bool, isi_tup_str, isi_tup_tuple, isi_tup_list, isi_tup_dict, isi_lst_int, isi_lst_bool, isi_lst_str, isi_lst_tuple, isi_lst_list, isi_lst_dict, isi_scr_int, isi_scr_bool, isi_scr_str, isi_scr_tuple, isi_scr_list, isi_scr_dict, isi_dct_int, isi_dct_bool, isi_dct_str, isi_dct_tuple, isi_dct_list, isi_dct_dict, metE_app, met_split, met_join, met_append, nx_ok, newD_app, len_lst, len_scr, len_tup, cmp_is_bl, cmp_isnot_bl, cmp_eqb, cmp_neb, tru_str, cmp_in_s, cmp_notin_s, cd_law_mix, sp_mix, cd_law_kept, sp_kept, c0, c1, c2, m4, m5, hk, slV_str z1, hcs, addV_str a1, hg, r1, r2, e, jl]
theorem is_name_no (k : Nat) (v : Val) (h : Hs) (t : ThingOk v) : callN tb (k + 1) ("is_name", none) [v] h = .ok (.bl false) h := by
  cases t with
  | five => exact (sp_is_name k _ h (by decide)).trans (by kernel_rfl)
  | emp => exact (sp_is_name k _ h (by decide)).trans (by kernel_rfl)
  | _ =>
    rw [call_is_name]
    simp only [mir_is_name, Int.reduceLE, Int.reduceLT, Int.reduceEq, Int.reduceNe, Int.reduceAdd, Int.reduceSub, Int.reduceMul, Int.reduceToNat, Int.reduceNeg, Int.reduceBNe, Nat.reduceAdd, Nat.reduceLT, Nat.reduceLeDiff, Nat.reduceEqDiff, Int.ofNat_eq_natCast, ne_eq, not_false_eq_true, and_self, true_or, or_true, pure_app, bad_app, bd_ok, bd_exc, bd_bad, bd_ite, liftO_some, liftO_none, liftO_ite, liftB_some, we_ok, we_exc, we_bad, we_ite, an_next, an_ret, an_brk, an_cont, an_rse, an_bad, an_ite, en_ret, en_next, en_rse, en_bad, en_ite, lp_next, lp_cont, lp_brk, lp_ret, lp_rse, lp_bad, lp_ite, endF_app, forL_nil, varE_z, varE_s, kE_app, tyE_app, binE_app, notE_app, negE_app, negV_int, andE_app, orE_app, cmpE_app, cmp2E_app, iteE_app, evs_nil, evs_cons, lstE_app, newE_app, tupE_app, ixE_app, partO_none, partO_some, intO_int, Option.map_some, Option.bind_some, slE_app, callF_app, bltE_app, rngI_app, rngI2_app, rng1_app, rng2_app, seqI_app, walk_lst, walk_scr, walk_tup, walk_str, lcF_app, truT_app, notT_app, andT_app, orT_app, blO_bl, cmpT_app, cmp2T_app, exprS_app, retS_app, ifS_app, forS_app, setS_app, nxO_some, tupS_app, ixS_app, augS_app, seqS_nil, seqS_cons, addV_int, subV_int, iaddV_int, mulV_int, modV_int, fdvV_int, powV_int, shlV_int, shrV_int, andV_int, iorV_int, cmp_lt, cmp_le, cmp_gt, cmp_ge, cmp_eqi, cmp_nei, cmp_eqs, cmp_nes, tru_bl, tru_int, tru_non, abs_int, ite_app, List.set_cons_zero, List.set_cons_succ, decide_eq_true_eq, Bool.and_eq_true, Bool.or_eq_true, Bool.not_eq_true', decide_eq_false_iff_not, if_true, if_false, Bool.false_eq_true, not_true_eq_false, Bool.not_true, Bool.not_false, decide_true, decide_false, Bool.true_eq_false, ixV_loc, ixV_locs, setIx_loc, ixV_lst, ixV_tup, ixV_scr, rng_int, wipeR_nil, wipeR_cons, atI_pos, List.length_cons, List.length_nil, List.getElem?_cons_zero, List.getElem?_cons_succ, isi_non_int, isi_non_bool, isi_non_str, isi_non_tuple, isi_non_list, isi_non_dict, isi_bl_int, isi_bl_bool, isi_bl_str, isi_bl_tuple, isi_bl_list, isi_bl_dict, isi_int_int, isi_int_bool, isi_int_str, isi_int_tuple, isi_int_list, isi_int_dict, isi_str_int, isi_str_bool, isi_str_str, isi_str_tuple, isi_str_list, isi_str_dict, isi_tup_int, isi_tup_bool, isi_tup_str, isi_tup_tuple, isi_tup_list, isi_tup_dict, isi_lst_int, isi_lst_bool, isi_lst_str, isi_lst_tuple, isi_lst_list, isi_lst_dict, isi_scr_int, isi_scr_bool, isi_scr_str, isi_scr_tuple, isi_scr_list, isi_scr_dict, isi_dct_int, isi_dct_bool, isi_dct_str, isi_dct_tuple, isi_dct_list, isi_dct_dict, metE_app, met_split, met_join, met_append, nx_ok, newD_app, len_lst, len_scr, len_tup, cmp_is_bl, cmp_isnot_bl, cmp_eqb, cmp_neb, tru_str, cmp_in_s, cmp_notin_s]
theorem sp_good (k : Nat) (s : LSt) (hs : Hs) : ∃ s', callN tb (k + 3) ("_law_good", none) [.loc 0] (s.ob :: hs) = .ok (.bl true) (LSt.ob s' :: hs) := by
  rw [call_law_good]
  obtain ⟨v, s1, e1, ok⟩ := sp_thing k s hs
  obtain ⟨t, s2, e2, l2, o2⟩ := sp_label k s1 hs
  have big : (1000 : Nat) ≤ sizeLine := by decide
  have l3 : t.length ≤ sizeLine := by omega
  have n1 := fun h => is_name_no (k + 1) v h ok
  have n2 := fun h => sp_is_name (k + 1) t h l3
  have n3 := fun h => sp_law_is_name k t h l3 o2
  have n4 := fun h => sp_is_word_s k t h
  refine ⟨s2, ?_⟩
  cases ok with
  | int n =>
    by_cases q1 : 0 ≤ n
    · by_cases q2 : n ≤ 65535
      · simp only [mir_law_good, Int.reduceLE, Int.reduceLT, Int.reduceEq, Int.reduceNe, Int.reduceAdd, Int.reduceSub, Int.reduceMul, Int.reduceToNat, Int.reduceNeg, Int.reduceBNe, Nat.reduceAdd, Nat.reduceLT, Nat.reduceLeDiff, Nat.reduceEqDiff, Int.ofNat_eq_natCast, ne_eq, not_false_eq_true, and_self, true_or, or_true, pure_app, bad_app, bd_ok, bd_exc, bd_bad, bd_ite, liftO_some, liftO_none, liftO_ite, liftB_some, we_ok, we_exc, we_bad, we_ite, an_next, an_ret, an_brk, an_cont, an_rse, an_bad, an_ite, en_ret, en_next, en_rse, en_bad, en_ite, lp_next, lp_cont, lp_brk, lp_ret, lp_rse, lp_bad, lp_ite, endF_app, forL_nil, varE_z, varE_s, kE_app, tyE_app, binE_app, notE_app, negE_app, negV_int, andE_app, orE_app, cmpE_app, cmp2E_app, iteE_app, evs_nil, evs_cons, lstE_app, newE_app, tupE_app, ixE_app, partO_none, partO_some, intO_int, Option.map_some, Option.bind_some, slE_app, callF_app, bltE_app, rngI_app, rngI2_app, rng1_app, rng2_app, seqI_app, walk_lst, walk_scr, walk_tup, walk_str, lcF_app, truT_app, notT_app, andT_app, orT_app, blO_bl, cmpT_app, cmp2T_app, exprS_app, retS_app, ifS_app, forS_app, setS_app, nxO_some, tupS_app, ixS_app, augS_app, seqS_nil, seqS_cons, addV_int, subV_int, iaddV_int, mulV_int, modV_int, fdvV_int, powV_int, shlV_int, shrV_int, andV_int, iorV_int, cmp_lt, cmp_le, cmp_gt, cmp_ge, cmp_eqi, cmp_nei, cmp_eqs, cmp_nes, tru_bl, tru_int, tru_non, abs_int, ite_app, List.set_cons_zero, List.set_cons_succ, decide_eq_true_eq, Bool.and_eq_true, Bool.or_eq_true, Bool.not_eq_true', decide_eq_false_iff_not, if_true, if_false, Bool.false_eq_true, not_true_eq_false, Bool.not_true, Bool.not_false, decide_true, decide_false, Bool.true_eq_false, ixV_loc, ixV_locs, setIx_loc, ixV_lst, ixV_tup, ixV_scr, rng_int, wipeR_nil, wipeR_cons, atI_pos, List.length_cons, List.length_nil, List.getElem?_cons_zero, List.getElem?_cons_succ, isi_non_int, isi_non_bool, isi_non_str, isi_non_tuple, isi_non_list, isi_non_dict, isi_bl_int, isi_bl_bool, isi_bl_str, isi_bl_tuple, isi_bl_list, isi_bl_dict, isi_int_int, isi_int_bool, isi_int_str, isi_int_tuple, isi_int_list, isi_int_dict, isi_str_int, isi_str_bool, isi_str_str, isi_str_tuple, isi_str_list, isi_str_dict, isi_tup_int, isi_tup_bool, isi_tup_str, isi_tup_tuple, isi_tup_list, isi_tup_dict, isi_lst_int, isi_lst_bool, isi_lst_str, isi_lst_tuple, isi_lst_list, isi_lst_dict, isi_scr_int, isi_scr_bool, isi_scr_str, isi_scr_tuple, isi_scr_list, isi_scr_dict, isi_dct_int, isi_dct_bool, isi_dct_str, isi_dct_tuple, isi_dct_list, isi_dct_dict, metE_app, met_split, met_join, met_append, nx_ok, newD_app, len_lst, len_scr, len_tup, cmp_is_bl, cmp_isnot_bl, cmp_eqb, cmp_neb, tru_str, cmp_in_s, cmp_notin_s, cd_law_thing, e1, cd_is_word, call_is_word, mir_is_word, cd_is_whole, call_is_whole, mir_is_whole, cd_is_name, n1, cd_law_label, e2, n2, cd_law_is_name, n3, n4, q1, q2]
      · simp only [mir_law_good, Int.reduceLE, Int.reduceLT, Int.reduceEq, Int.reduceNe, Int.reduceAdd, Int.reduceSub, Int.reduceMul, Int.reduceToNat, Int.reduceNeg, Int.reduceBNe, Nat.reduceAdd, Nat.reduceLT, Nat.reduceLeDiff, Nat.reduceEqDiff, Int.ofNat_eq_natCast, ne_eq, not_false_eq_true, and_self, true_or, or_true, pure_app, bad_app, bd_ok, bd_exc, bd_bad, bd_ite, liftO_some, liftO_none, liftO_ite, liftB_some, we_ok, we_exc, we_bad, we_ite, an_next, an_ret, an_brk, an_cont, an_rse, an_bad, an_ite, en_ret, en_next, en_rse, en_bad, en_ite, lp_next, lp_cont, lp_brk, lp_ret, lp_rse, lp_bad, lp_ite, endF_app, forL_nil, varE_z, varE_s, kE_app, tyE_app, binE_app, notE_app, negE_app, negV_int, andE_app, orE_app, cmpE_app, cmp2E_app, iteE_app, evs_nil, evs_cons, lstE_app, newE_app, tupE_app, ixE_app, partO_none, partO_some, intO_int, Option.map_some, Option.bind_some, slE_app, callF_app, bltE_app, rngI_app, rngI2_app, rng1_app, rng2_app, seqI_app, walk_lst, walk_scr, walk_tup, walk_str, lcF_app, truT_app, notT_app, andT_app, orT_app, blO_bl, cmpT_app, cmp2T_app, exprS_app, retS_app, ifS_app, forS_app, setS_app, nxO_some, tupS_app, ixS_app, augS_app, seqS_nil, seqS_cons, addV_int, subV_int, iaddV_int, mulV_int, modV_int, fdvV_int, powV_int, shlV_int, shrV_int, andV_int, iorV_int, cmp_lt, cmp_le, cmp_gt, cmp_ge, cmp_eqi, cmp_nei, cmp_eqs, cmp_nes, tru_bl, tru_int, tru_non, abs_int, ite_app, List.set_cons_zero, List.set_cons_succ, decide_eq_true_eq, Bool.and_eq_true, Bool.or_eq_true, Bool.not_eq_true', decide_eq_false_iff_not, if_true, if_false, Bool.false_eq_true, not_true_eq_false, Bool.not_true, Bool.not_false, decide_true, decide_false, Bool.true_eq_false, ixV_loc, ixV_locs, setIx_loc, ixV_lst, ixV_tup, ixV_scr, rng_int, wipeR_nil, wipeR_cons, atI_pos, List.length_cons, List.length_nil, List.getElem?_cons_zero, List.getElem?_cons_succ, isi_non_int, isi_non_bool, isi_non_str, isi_non_tuple, isi_non_list, isi_non_dict, isi_bl_int, isi_bl_bool, isi_bl_str, isi_bl_tuple, isi_bl_list, isi_bl_dict, isi_int_int, isi_int_bool, isi_int_str, isi_int_tuple, isi_int_list, isi_int_dict, isi_str_int, isi_str_bool, isi_str_str, isi_str_tuple, isi_str_list, isi_str_dict, isi_tup_int, isi_tup_bool, isi_tup_str, isi_tup_tuple, isi_tup_list, isi_tup_dict, isi_lst_int, isi_lst_bool, isi_lst_str, isi_lst_tuple, isi_lst_list, isi_lst_dict, isi_scr_int, isi_scr_bool, isi_scr_str, isi_scr_tuple, isi_scr_list, isi_scr_dict, isi_dct_int, isi_dct_bool, isi_dct_str, isi_dct_tuple, isi_dct_list, isi_dct_dict, metE_app, met_split, met_join, met_append, nx_ok, newD_app, len_lst, len_scr, len_tup, cmp_is_bl, cmp_isnot_bl, cmp_eqb, cmp_neb, tru_str, cmp_in_s, cmp_notin_s, cd_law_thing, e1, cd_is_word, call_is_word, mir_is_word, cd_is_whole, call_is_whole, mir_is_whole, cd_is_name, n1, cd_law_label, e2, n2, cd_law_is_name, n3, n4, q1, q2]
    · simp only [mir_law_good, Int.reduceLE, Int.reduceLT, Int.reduceEq, Int.reduceNe, Int.reduceAdd, Int.reduceSub, Int.reduceMul, Int.reduceToNat, Int.reduceNeg, Int.reduceBNe, Nat.reduceAdd, Nat.reduceLT, Nat.reduceLeDiff, Nat.reduceEqDiff, Int.ofNat_eq_natCast, ne_eq, not_false_eq_true, and_self, true_or, or_true, pure_app, bad_app, bd_ok, bd_exc, bd_bad, bd_ite, liftO_some, liftO_none, liftO_ite, liftB_some, we_ok, we_exc, we_bad, we_ite, an_next, an_ret, an_brk, an_cont, an_rse, an_bad, an_ite, en_ret, en_next, en_rse, en_bad, en_ite, lp_next, lp_cont, lp_brk, lp_ret, lp_rse, lp_bad, lp_ite, endF_app, forL_nil, varE_z, varE_s, kE_app, tyE_app, binE_app, notE_app, negE_app, negV_int, andE_app, orE_app, cmpE_app, cmp2E_app, iteE_app, evs_nil, evs_cons, lstE_app, newE_app, tupE_app, ixE_app, partO_none, partO_some, intO_int, Option.map_some, Option.bind_some, slE_app, callF_app, bltE_app, rngI_app, rngI2_app, rng1_app, rng2_app, seqI_app, walk_lst, walk_scr, walk_tup, walk_str, lcF_app, truT_app, notT_app, andT_app, orT_app, blO_bl, cmpT_app, cmp2T_app, exprS_app, retS_app, ifS_app, forS_app, setS_app, nxO_some, tupS_app, ixS_app, augS_app, seqS_nil, seqS_cons, addV_int, subV_int, iaddV_int, mulV_int, modV_int, fdvV_int, powV_int, shlV_int, shrV_int, andV_int, iorV_int, cmp_lt, cmp_le, cmp_gt, cmp_ge, cmp_eqi, cmp_nei, cmp_eqs, cmp_nes, tru_bl, tru_int, tru_non, abs_int, ite_app, List.set_cons_zero, List.set_cons_succ, decide_eq_true_eq, Bool.and_eq_true, Bool.or_eq_true, Bool.not_eq_true', decide_eq_false_iff_not, if_true, if_false, Bool.false_eq_true, not_true_eq_false, Bool.not_true, Bool.not_false, decide_true, decide_false, Bool.true_eq_false, ixV_loc, ixV_locs, setIx_loc, ixV_lst, ixV_tup, ixV_scr, rng_int, wipeR_nil, wipeR_cons, atI_pos, List.length_cons, List.length_nil, List.getElem?_cons_zero, List.getElem?_cons_succ, isi_non_int, isi_non_bool, isi_non_str, isi_non_tuple, isi_non_list, isi_non_dict, isi_bl_int, isi_bl_bool, isi_bl_str, isi_bl_tuple, isi_bl_list, isi_bl_dict, isi_int_int, isi_int_bool, isi_int_str, isi_int_tuple, isi_int_list, isi_int_dict, isi_str_int, isi_str_bool, isi_str_str, isi_str_tuple, isi_str_list, isi_str_dict, isi_tup_int, isi_tup_bool, isi_tup_str, isi_tup_tuple, isi_tup_list, isi_tup_dict, isi_lst_int, isi_lst_bool, isi_lst_str, isi_lst_tuple, isi_lst_list, isi_lst_dict, isi_scr_int, isi_scr_bool, isi_scr_str, isi_scr_tuple, isi_scr_list, isi_scr_dict, isi_dct_int, isi_dct_bool, isi_dct_str, isi_dct_tuple, isi_dct_list, isi_dct_dict, metE_app, met_split, met_join, met_append, nx_ok, newD_app, len_lst, len_scr, len_tup, cmp_is_bl, cmp_isnot_bl, cmp_eqb, cmp_neb, tru_str, cmp_in_s, cmp_notin_s, cd_law_thing, e1, cd_is_word, call_is_word, mir_is_word, cd_is_whole, call_is_whole, mir_is_whole, cd_is_name, n1, cd_law_label, e2, n2, cd_law_is_name, n3, n4, q1]
  | _ => simp only [mir_law_good, Int.reduceLE, Int.reduceLT, Int.reduceEq, Int.reduceNe, Int.reduceAdd, Int.reduceSub, Int.reduceMul, Int.reduceToNat, Int.reduceNeg, Int.reduceBNe, Nat.reduceAdd, Nat.reduceLT, Nat.reduceLeDiff, Nat.reduceEqDiff, Int.ofNat_eq_natCast, ne_eq, not_false_eq_true, and_self, true_or, or_true, pure_app, bad_app, bd_ok, bd_exc, bd_bad, bd_ite, liftO_some, liftO_none, liftO_ite, liftB_some, we_ok, we_exc, we_bad, we_ite, an_next, an_ret, an_brk, an_cont, an_rse, an_bad, an_ite, en_ret, en_next, en_rse, en_bad, en_ite, lp_next, lp_cont, lp_brk, lp_ret, lp_rse, lp_bad, lp_ite, endF_app, forL_nil, varE_z, varE_s, kE_app, tyE_app, binE_app, notE_app, negE_app, negV_int, andE_app, orE_app, cmpE_app, cmp2E_app, iteE_app, evs_nil, evs_cons, lstE_app, newE_app, tupE_app, ixE_app, partO_none, partO_some, intO_int, Option.map_some, Option.bind_some, slE_app, callF_app, bltE_app, rngI_app, rngI2_app, rng1_app, rng2_app, seqI_app, walk_lst, walk_scr, walk_tup, walk_str, lcF_app, truT_app, notT_app, andT_app, orT_app, blO_bl, cmpT_app, cmp2T_app, exprS_app, retS_app, ifS_app, forS_app, setS_app, nxO_some, tupS_app, ixS_app, augS_app, seqS_nil, seqS_cons, addV_int, subV_int, iaddV_int, mulV_int, modV_int, fdvV_int, powV_int, shlV_int, shrV_int, andV_int, iorV_int, cmp_lt, cmp_le, cmp_gt, cmp_ge, cmp_eqi, cmp_nei, cmp_eqs, cmp_nes, tru_bl, tru_int, tru_non, abs_int, ite_app, List.set_cons_zero, List.set_cons_succ, decide_eq_true_eq, Bool.and_eq_true, Bool.or_eq_true, Bool.not_eq_true', decide_eq_false_iff_not, if_true, if_false, Bool.false_eq_true, not_true_eq_false, Bool.not_true, Bool.not_false, decide_true, decide_false, Bool.true_eq_false, ixV_loc, ixV_locs, setIx_loc, ixV_lst, ixV_tup, ixV_scr, rng_int, wipeR_nil, wipeR_cons, atI_pos, List.length_cons, List.length_nil, List.getElem?_cons_zero, List.getElem?_cons_succ, isi_non_int, isi_non_bool, isi_non_str, isi_non_tuple, isi_non_list, isi_non_dict, isi_bl_int, isi_bl_bool, isi_bl_str, isi_bl_tuple, isi_bl_list, isi_bl_dict, isi_int_int, isi_int_bool, isi_int_str, isi_int_tuple, isi_int_list, isi_int_dict, isi_str_int, isi_str_bool, isi_str_str, isi_str_tuple, isi_str_list, isi_str_dict, isi_tup_int, isi_tup_bool, isi_tup_str, isi_tup_tuple, isi_tup_list, isi_tup_dict, isi_lst_int, isi_lst_bool, isi_lst_str, isi_lst_tuple, isi_lst_list, isi_lst_dict, isi_scr_int, isi_scr_bool, isi_scr_str, isi_scr_tuple, isi_scr_list, isi_scr_dict, isi_dct_int, isi_dct_bool, isi_dct_str, isi_dct_tuple, isi_dct_list, isi_dct_dict, metE_app, met_split, met_join, met_append, nx_ok, newD_app, len_lst, len_scr, len_tup, cmp_is_bl, cmp_isnot_bl, cmp_eqb, cmp_neb, tru_str, cmp_in_s, cmp_notin_s, cd_law_thing, e1, cd_is_word, call_is_word, mir_is_word, cd_is_whole, call_is_whole, mir_is_whole, cd_is_name, n1, cd_law_label, e2, n2, cd_law_is_name, n3, n4]
theorem good_loop (k : Nat) : ∀ (ns : List Int) (s : LSt) (x : Val) (y : Option Val), ∃ s' y', forL (tgName 2) (seqS [fun r => exprS (callF (callN tb (k + 3)) dc_law_mix.i [varE r 1, varE r 2]) r, fun r => ifS (notT (truT (callF (callN tb (k + 3)) dc_law_good.i [varE r 1]))) (seqS [fun r => retS (kE (.bl false)) r]) (seqS []) r]) (ns.map Val.int) [some x, some (.loc 0), y] [s.ob] = .ok (.next [some x, some (.loc 0), y']) [LSt.ob s']
  | [], s, x, y => ⟨s, y, rfl⟩
  | n :: ns, s, x, y => by
    obtain ⟨s1, e1⟩ := sp_good k (mixN s n) []
    obtain ⟨s2, y2, e2⟩ := good_loop k ns s1 x (some (.int n))
    refine ⟨s2, y2, ?_⟩
    rw [List.map_cons, forL_cons (ρ' := [some x, some (.loc 0), some (.int n)]) rfl]
    simp only [Int.reduceLE, Int.reduceLT, Int.reduceEq, Int.reduceNe, Int.reduceAdd, Int.reduceSub, Int.reduceMul, Int.reduceToNat, Int.reduceNeg, Int.reduceBNe, Nat.reduceAdd, Nat.reduceLT, Nat.reduceLeDiff, Nat.reduceEqDiff, Int.ofNat_eq_natCast, ne_eq, not_false_eq_true, and_self, true_or, or_true, pure_app, bad_app, bd_ok, bd_exc, bd_bad, bd_ite, liftO_some, liftO_none, liftO_ite, liftB_some, we_ok, we_exc, we_bad, we_ite, an_next, an_ret, an_brk, an_cont, an_rse, an_bad, an_ite, en_ret, en_next, en_rse, en_bad, en_ite, lp_next, lp_cont, lp_brk, lp_ret, lp_rse, lp_bad, lp_ite, endF_app, forL_nil, varE_z, varE_s, kE_app, tyE_app, binE_app, notE_app, negE_app, negV_int, andE_app, orE_app, cmpE_app, cmp2E_app, iteE_app, evs_nil, evs_cons, lstE_app, newE_app, tupE_app, ixE_app, partO_none, partO_some, intO_int, Option.map_some, Option.bind_some, slE_app, callF_app, bltE_app, rngI_app, rngI2_app, rng1_app, rng2_app, seqI_app, walk_lst, walk_scr, walk_tup, walk_str, lcF_app, truT_app, notT_app, andT_app, orT_app, blO_bl, cmpT_app, cmp2T_app, exprS_app, retS_app, ifS_app, forS_app, setS_app, nxO_some, tupS_app, ixS_app, augS_app, seqS_nil, seqS_cons, addV_int, subV_int, iaddV_int, mulV_int, modV_int, fdvV_int, powV_int, shlV_int, shrV_int, andV_int, iorV_int, cmp_lt, cmp_le, cmp_gt, cmp_ge, cmp_eqi, cmp_nei, cmp_eqs, cmp_nes, tru_bl, tru_int, tru_non, abs_int, ite_app, List.set_cons_zero, List.set_cons_succ, decide_eq_true_eq, Bool.and_eq_true, Bool.or_eq_true, Bool.not_eq_true', decide_eq_false_iff_not, if_true, if_false, Bool.false_eq_true, not_true_eq_false, Bool.not_true, Bool.not_false, decide_true, decide_false, Bool.true_eq_false, ixV_loc, ixV_locs, setIx_loc, ixV_lst, ixV_tup, ixV_scr, rng_int, wipeR_nil, wipeR_cons, atI_pos, List.length_cons, List.length_nil, List.getElem?_cons_zero, List.getElem?_cons_succ, isi_non_int, isi_non_bool, isi_non_str, isi_non_tuple, isi_non_list, isi_non_dict, isi_bl_int, isi_bl_bool, isi_bl_str, isi_bl_tuple, isi_bl_list, isi_bl_dict, isi_int_int, isi_int_bool, isi_int_str, isi_int_tuple, isi_int_list, isi_int_dict, isi_str_int, isi_str_bool, isi_str_str, isi_str_tuple, isi_str_list, isi_str_dict, isi_tup_int, isi_tup_bool, isi_tup_str, isi_tup_tuple, isi_tup_list, isi_tup_dict, isi_lst_int, isi_lst_bool, isi_lst_str, isi_lst_tuple, isi_lst_list, isi_lst_dict, isi_scr_int, isi_scr_bool, isi_scr_str, isi_scr_tuple, isi_scr_list, isi_scr_dict, isi_dct_int, isi_dct_bool, isi_dct_str, isi_dct_tuple, isi_dct_list, isi_dct_dict, metE_app, met_split, met_join, met_append, nx_ok, newD_app, len_lst, len_scr, len_tup, cmp_is_bl, cmp_isnot_bl, cmp_eqb, cmp_neb, tru_str, cmp_in_s, cmp_notin_s, cd_law_mix, sp_mix, cd_law_good, e1, e2]
theorem law_true (ns : List Int) (hn : ns.length ≤ 63) : ∃ h', callN tb 200 ("law", none) [.scr (ns.map Val.int)] [] = .ok (.bl true) h' := by
  rw [show (200 : Nat) = 199 + 1 from rfl, call_law, show (199 : Nat) = 196 + 3 from rfl]
  obtain ⟨s1, e1⟩ := sp_good 196 ⟨1 + (ns.length : Int), 0⟩ []
  obtain ⟨s2, y2, e2⟩ := good_loop 196 ns s1 (.scr (ns.map Val.int)) none
  have hl : (2 : Nat) ≤ sizeLine := by decide
  have len : lenV [] [.scr (ns.map Val.int)] = some (.int (ns.length : Int)) := by
    show some (Val.int ((ns.map Val.int).length : Int)) = _
    rw [List.length_map]
  refine ⟨[LSt.ob s2], ?_⟩
  have e1 : callN tb 199 ("_law_good", none) [.loc 0] [some (Ob.lst [.int (1 + (ns.length : Int)), .int 0])] = .ok (.bl true) [s1.ob] := e1
  simp only [Nat.reduceAdd] at e2
  simp only [mir_law, Int.reduceLE, Int.reduceLT, Int.reduceEq, Int.reduceNe, Int.reduceAdd, Int.reduceSub, Int.reduceMul, Int.reduceToNat, Int.reduceNeg, Int.reduceBNe, Nat.reduceAdd, Nat.reduceLT, Nat.reduceLeDiff, Nat.reduceEqDiff, Int.ofNat_eq_natCast, ne_eq, not_false_eq_true, and_self, true_or, or_true, pure_app, bad_app, bd_ok, bd_exc, bd_bad, bd_ite, liftO_some, liftO_none, liftO_ite, liftB_some, we_ok, we_exc, we_bad, we_ite, an_next, an_ret, an_brk, an_cont, an_rse, an_bad, an_ite, en_ret, en_next, en_rse, en_bad, en_ite, lp_next, lp_cont, lp_brk, lp_ret, lp_rse, lp_bad, lp_ite, endF_app, forL_nil, varE_z, varE_s, kE_app, tyE_app, binE_app, notE_app, negE_app, negV_int, andE_app, orE_app, cmpE_app, cmp2E_app, iteE_app, evs_nil, evs_cons, lstE_app, newE_app, tupE_app, ixE_app, partO_none, partO_some, intO_int, Option.map_some, Option.bind_some, slE_app, callF_app, bltE_app, rngI_app, rngI2_app, rng1_app, rng2_app, seqI_app, walk_lst, walk_scr, walk_tup, walk_str, lcF_app, truT_app, notT_app, andT_app, orT_app, blO_bl, cmpT_app, cmp2T_app, exprS_app, retS_app, ifS_app, forS_app, setS_app, nxO_some, tupS_app, ixS_app, augS_app, seqS_nil, seqS_cons, addV_int, subV_int, iaddV_int, mulV_int, modV_int, fdvV_int, powV_int, shlV_int, shrV_int, andV_int, iorV_int, cmp_lt, cmp_le, cmp_gt, cmp_ge, cmp_eqi, cmp_nei, cmp_eqs, cmp_nes, tru_bl, tru_int, tru_non, abs_int, ite_app, List.set_cons_zero, List.set_cons_succ, decide_eq_true_eq, Bool.and_eq_true, Bool.or_eq_true, Bool.not_eq_true', decide_eq_false_iff_not, if_true, if_false, Bool.false_eq_true, not_true_eq_false, Bool.not_true, Bool.not_false, decide_true, decide_false, Bool.true_eq_false, ixV_loc, ixV_locs, setIx_loc, ixV_lst, ixV_tup, ixV_scr, rng_int, wipeR_nil, wipeR_cons, atI_pos, List.length_cons, List.length_nil, List.getElem?_cons_zero, List.getElem?_cons_succ, isi_non_int, isi_non_bool, isi_non_str, isi_non_tuple, isi_non_list, isi_non_dict, isi_bl_int, isi_bl_bool, isi_bl_str, isi_bl_tuple, isi_bl_list, isi_bl_dict, isi_int_int, isi_int_bool, isi_int_str, isi_int_tuple, isi_int_list, isi_int_dict, isi_str_int, isi_str_bool, isi_str_str, isi_str_tuple, isi_str_list, isi_str_dict, isi_tup_int, isi_tup_bool, isi_tup_str, isi_tup_tuple, isi_tup_list, isi_tup_dict, isi_lst_int, isi_lst_bool, isi_lst_str, isi_lst_tuple, isi_lst_list, isi_lst_dict, isi_scr_int, isi_scr_bool, isi_scr_str, isi_scr_tuple, isi_scr_list, isi_scr_dict, isi_dct_int, isi_dct_bool, isi_dct_str, isi_dct_tuple, isi_dct_list, isi_dct_dict, metE_app, met_split, met_join, met_append, nx_ok, newD_app, len_lst, len_scr, len_tup, cmp_is_bl, cmp_isnot_bl, cmp_eqb, cmp_neb, tru_str, cmp_in_s, cmp_notin_s, List.length_map, len, hl, List.nil_append, cd_law_good, e1, e2]

end K02

namespace K02
open PySem PySem.Spec PyProof.Rows L2 Ev
abbrev R : PySem.W.OpenRow := PySem.W.OpenLaw.row PySem.Challenge.rw_mirrorwalk_k02_words_and_names
abbrev hk : PySem.W.Hook := hookC 5 (chkT tb) (ds.map Dc.h)
def ob (s : PySem.W.SharedT) : He.AlD := obsCG 5 (chkT tb) (ds.map Dc.h) (HandSHeadRun.getT s)
theorem ob_eq (s : PySem.W.SharedT) : ob s = hk.obs s.abs := obsCG_eq (HandSHeadRun.getT_eq s)
theorem run (w : World) : HandSHeadRun.RunEq R (PySem.W.view R.prog [18]) hk ob 30000 loose w := by
  intro os
  kernel_rfl
end K02
open PySem PySem.W PySem.Calls PyProof.Rows
theorem PySem.Challenge.cw_mirrorwalk_k02_words_and_names_holds : PySem.Challenge.rw_mirrorwalk_k02_words_and_names.Holds := by
  w_on; o_law
  refine HandSHeadRun.head_any (r := OpenLaw.row PySem.Challenge.rw_mirrorwalk_k02_words_and_names) (q := view (OpenLaw.row PySem.Challenge.rw_mirrorwalk_k02_words_and_names).prog [18]) (H := K02.hk) (ob := K02.ob) (M := 30000) (loose := K02.loose) (d := HandSHeadRun.topDef (OpenLaw.row PySem.Challenge.rw_mirrorwalk_k02_words_and_names).prog 18) (kwd := []) K02.ob_eq
    (by kernel_rfl) (fun s => by kernel_rfl) K02.run (by kernel_rfl) (by kernel_rfl) (by kernel_rfl) (by rfl) (by first | assumption | decide +kernel) (by decide +kernel) ⟨rfl, rfl, rfl, rfl, rfl, by decide +kernel⟩ ?hw ?hc
  case hw => w_witness2
  case hc =>
    exact Ev.law_ofC (l := PySem.Challenge.rw_mirrorwalk_k02_words_and_names) (k := 199) (x := "_law_script") (T := K02.tb) (ds := K02.ds) (nm := "law") rfl (by kernel_rfl) ⟨rfl, by decide, by decide⟩ rfl K02.fnd K02.ds_ok K02.dc_law K02.law_in rfl rfl rfl (by kernel_rfl) K02.law_true

