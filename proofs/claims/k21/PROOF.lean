import PyProof.Rows.All
import Wide.All
import OpenK.AllK
import Wide.FinOn
import HandS.ForMost
import HandS.ForExc
import HandS.Wide
import HandS.WideBits
import HandS.IsInst
import HandS.CallSlots
import HandS.Zip
import HandS.SortKw
import HandS.Flow
import HandS.Conv
import HandS.ListItems
import HandS.Deep
import HandS.WideMore
import HandS.Style
import HandS.SortInts
import HandS.TryOnly
import HandS.ExcIs
import PySem.Challenge.RW_landroll_k21_lowest_fractions
set_option Elab.async false
set_option linter.all false
set_option maxRecDepth 100000
/-! DV: a def of the text as a plain function over data. -/
namespace DV
open PySem PySem.Spec L2

/-- a value with all that hangs on it -/
inductive D where
  | non | bl (b : Bool) | int (i : Int) | str (x : Str)
  | tup (xs : List D) | lst (xs : List D) | dct (kvs : List (Key × D)) | op (v : V) | exc (n : Nat) (fs : List (Str × D)) | kl (xs : List D)

/-- what may be changed -/
def Mt : HO → Prop
  | .lst _ => True
  | .dK _ => True
  | _ => False
/-- a list of the written part -/
def KLst (K : PySem.W.Frag) (a : Addr) (xs : List V) : Prop :=
  ∃ (o : Obj) (its : Array Value) (n : Nat), K.lookup a = some o ∧ o.cls = .type "list" ∧ o.dict = none ∧ o.data = .seq its n ∧ its.size ≤ sizeLine ∧ Vals xs its.toList
def LsR (K : PySem.W.Frag) (H : Hp) (O : Addr → Prop) (a : Addr) (xs : List V) : Prop := (¬ O a ∧ Rd H a (.lst xs)) ∨ KLst K a xs
theorem LsR.sq {K : PySem.W.Frag} {H : Hp} {O : Addr → Prop} {a : Addr} {xs : List V} (h : LsR K H O a xs) : SqL K H a xs := by
  rcases h with ⟨_, h⟩ | h
  · exact .inl h
  · exact .inr h

/-- the written part, and which exceptions are held -/
structure KJ where
  k : PySem.W.Frag
  exc : V → Nat → Option Addr → Prop
instance : Coe KJ PySem.W.Frag := ⟨KJ.k⟩
mutual
inductive Rep (K : KJ) (H : Hp) (O : Addr → Prop) : V → D → Prop where
  | non : Rep K H O .non .non
  | bl (b : Bool) : Rep K H O (.bl b) (.bl b)
  | int (i : Int) : Rep K H O (.int i) (.int i)
  | str (x : Str) : Rep K H O (.str x) (.str x)
  | tup {a : Addr} {vs : List V} {ds : List D} : SqT K H a vs → RepL K H O vs ds → Rep K H O (.ref a) (.tup ds)
  | lst {a : Addr} {vs : List V} {ds : List D} : ¬ O a → Rd H a (.lst vs) → RepL K H O vs ds → Rep K H O (.ref a) (.lst ds)
  | kl {a : Addr} {vs : List V} {ds : List D} : LsR K H O a vs → RepL K H O vs ds → Rep K H O (.ref a) (.kl ds)
  | dct {a : Addr} {vs : List (Key × V)} {ds : List (Key × D)} : ¬ O a → H a = some (.dK vs) → RepD K H O vs ds → Rep K H O (.ref a) (.dct ds)
  | op (v : V) : Rep K H O v (.op v)
  | exc {v : V} {n : Nat} {da : Option Addr} {fs : List (Str × D)} : K.exc v n da → RepF K H O da fs → (fs = [] → da = none) → Rep K H O v (.exc n fs)
inductive RepL (K : KJ) (H : Hp) (O : Addr → Prop) : List V → List D → Prop where
  | nil : RepL K H O [] []
  | cons {v : V} {vs : List V} {d : D} {ds : List D} : Rep K H O v d → RepL K H O vs ds → RepL K H O (v :: vs) (d :: ds)
inductive RepD (K : KJ) (H : Hp) (O : Addr → Prop) : List (Key × V) → List (Key × D) → Prop where
  | nil : RepD K H O [] []
  | cons {k : Key} {v : V} {vs : List (Key × V)} {d : D} {ds : List (Key × D)} : Rep K H O v d → RepD K H O vs ds → RepD K H O ((k, v) :: vs) ((k, d) :: ds)
inductive RepF (K : KJ) (H : Hp) (O : Addr → Prop) : Option Addr → List (Str × D) → Prop where
  | nil {da : Option Addr} : RepF K H O da []
  | cons {dx : Addr} {f : Str} {d : D} {fs : List (Str × D)} {fvs : List (Str × V)} {v : V} : H dx = some (.xd fvs) → fvs.lookup f = some v → Rep K H O v d → RepF K H O (some dx) fs → RepF K H O (some dx) ((f, d) :: fs)
end

/-- what stays from H to H', where O may change -/
def Stp (O : Addr → Prop) (H H' : Hp) : Prop := ∀ a o, H a = some o → (¬ O a ∨ ¬ Mt o) → H' a = some o
theorem Stp.of_same {O : Addr → Prop} {H H' : Hp} (e : Same H H') : Stp O H H' := fun a o h _ => e a o h

section
variable {K : KJ} {H H' H0 H1 : Hp} {O O' P : Addr → Prop} {v : V} {d : D} {vs : List V} {ds : List D}

theorem Rd.stp {a : Addr} {u : HO} (s : Stp O H H') (h : Rd H a u) (n : ¬ O a ∨ ¬ Mt u) : Rd H' a u := by
  rcases h with h | ⟨o, h⟩
  · exact .inl (s a _ h n)
  · exact .inr ⟨o, s a _ h (.inr (fun z => z))⟩
theorem Rd.there {a : Addr} {u : HO} (h : Rd H a u) : H a ≠ none := by
  rcases h with h | ⟨o, h⟩ <;> (rw [h]; exact fun z => nomatch z)
theorem SqT.stp {K : PySem.W.Frag} {a : Addr} {xs : List V} (s : Stp O H H') (h : SqT K H a xs) : SqT K H' a xs := by
  rcases h with h | h
  · exact .inl (Rd.stp s h (.inr (fun z => z)))
  · exact .inr h

mutual
theorem Rep.move (s : Stp O H H') (ho : ∀ a, O' a → O a ∨ H a = none) : ∀ {v : V} {d : D}, Rep K H O v d → Rep K H' O' v d
  | _, _, .non => .non
  | _, _, .bl b => .bl b
  | _, _, .int i => .int i
  | _, _, .str x => .str x
  | _, _, .tup h r => .tup (SqT.stp s h) (RepL.move s ho r)
  | _, _, .lst n h r => .lst (fun z => (ho _ z).elim n (Rd.there h)) (Rd.stp s h (.inl n)) (RepL.move s ho r)
  | _, _, .kl h r => .kl (by
      rcases h with ⟨n, h⟩ | h
      · exact .inl ⟨fun z => (ho _ z).elim n (Rd.there h), Rd.stp s h (.inl n)⟩
      · exact .inr h) (RepL.move s ho r)
  | _, _, .dct n h r => .dct (fun z => (ho _ z).elim n (by rw [h]; exact fun z => nomatch z)) (s _ _ h (.inl n)) (RepD.move s ho r)
  | _, _, .op v => .op v
  | _, _, .exc e r z => .exc e (RepF.move s ho r) z
theorem RepL.move (s : Stp O H H') (ho : ∀ a, O' a → O a ∨ H a = none) : ∀ {vs : List V} {ds : List D}, RepL K H O vs ds → RepL K H' O' vs ds
  | _, _, .nil => .nil
  | _, _, .cons h r => .cons (Rep.move s ho h) (RepL.move s ho r)
theorem RepD.move (s : Stp O H H') (ho : ∀ a, O' a → O a ∨ H a = none) : ∀ {vs : List (Key × V)} {ds : List (Key × D)}, RepD K H O vs ds → RepD K H' O' vs ds
  | _, _, .nil => .nil
  | _, _, .cons h r => .cons (Rep.move s ho h) (RepD.move s ho r)
theorem RepF.move (s : Stp O H H') (ho : ∀ a, O' a → O a ∨ H a = none) : ∀ {da : Option Addr} {fs : List (Str × D)}, RepF K H O da fs → RepF K H' O' da fs
  | _, _, .nil => .nil
  | _, _, .cons h l r q => .cons (s _ _ h (.inr fun z => z)) l (Rep.move s ho r) (RepF.move s ho q)
end
theorem Rep.same (s : Same H H') (h : Rep K H O v d) : Rep K H' O v d := h.move (.of_same s) fun _ z => .inl z
theorem RepL.same (s : Same H H') (h : RepL K H O vs ds) : RepL K H' O vs ds := h.move (.of_same s) fun _ z => .inl z
theorem Rep.anti (h : Rep K H O v d) (ho : ∀ a, O' a → O a) : Rep K H O' v d := h.move (.of_same (Same.refl _)) fun a z => .inl (ho a z)
theorem RepL.anti (h : RepL K H O vs ds) (ho : ∀ a, O' a → O a) : RepL K H O' vs ds := h.move (.of_same (Same.refl _)) fun a z => .inl (ho a z)
theorem RepL.len : ∀ {vs : List V} {ds : List D}, RepL K H O vs ds → vs.length = ds.length
  | _, _, .nil => rfl
  | _, _, .cons _ r => by simp [RepL.len r]
theorem RepL.get : ∀ {vs : List V} {ds : List D} {i : Nat} {d : D}, RepL K H O vs ds → ds[i]? = some d → ∃ v, vs[i]? = some v ∧ Rep K H O v d
  | _, _, _, _, .nil, h => by simp at h
  | _, _, 0, _, .cons h r, e => by simp at e; subst e; exact ⟨_, rfl, h⟩
  | _, _, i + 1, _, .cons h r, e => by
    obtain ⟨v, h1, h2⟩ := RepL.get (i := i) r (by simpa using e)
    exact ⟨v, by simpa using h1, h2⟩
theorem RepL.getV : ∀ {vs : List V} {ds : List D} {i : Nat} {v : V}, RepL K H O vs ds → vs[i]? = some v → ∃ d, ds[i]? = some d ∧ Rep K H O v d
  | _, _, _, _, .nil, h => by simp at h
  | _, _, 0, _, .cons h r, e => by simp at e; subst e; exact ⟨_, rfl, h⟩
  | _, _, i + 1, _, .cons h r, e => by
    obtain ⟨v, h1, h2⟩ := RepL.getV (i := i) r (by simpa using e)
    exact ⟨v, by simpa using h1, h2⟩
theorem RepL.append : ∀ {vs ws : List V} {ds es : List D}, RepL K H O vs ds → RepL K H O ws es → RepL K H O (vs ++ ws) (ds ++ es)
  | _, _, _, _, .nil, h => h
  | _, _, _, _, .cons h r, q => .cons h (RepL.append r q)
theorem RepL.one (h : Rep K H O v d) : RepL K H O [v] [d] := .cons h .nil
theorem RepL.set : ∀ {vs : List V} {ds : List D} {v : V} {d : D} (i : Nat), RepL K H O vs ds → Rep K H O v d → RepL K H O (vs.set i v) (ds.set i d)
  | _, _, _, _, _, .nil, _ => .nil
  | _, _, _, _, 0, .cons _ r, q => .cons q r
  | _, _, _, _, i + 1, .cons h r, q => .cons h (RepL.set i r q)
theorem RepL.take : ∀ {vs : List V} {ds : List D} (n : Nat), RepL K H O vs ds → RepL K H O (vs.take n) (ds.take n)
  | _, _, 0, _ => .nil
  | _, _, _ + 1, .nil => .nil
  | _, _, n + 1, .cons h r => .cons h (RepL.take n r)
theorem RepL.drop : ∀ {vs : List V} {ds : List D} (n : Nat), RepL K H O vs ds → RepL K H O (vs.drop n) (ds.drop n)
  | _, _, 0, h => h
  | _, _, _ + 1, .nil => .nil
  | _, _, n + 1, .cons _ r => RepL.drop n r

/-- a thing of its own at p -/
def OwnAt (K : KJ) (H : Hp) (O : Addr → Prop) (p : Addr) : D → Prop
  | .lst ds => ∃ vs, H p = some (.lst vs) ∧ RepL K H O vs ds
  | .dct ds => ∃ vs, H p = some (.dK vs) ∧ RepD K H O vs ds
  | _ => False
theorem OwnAt.mt {p : Addr} (h : OwnAt K H O p d) : ∃ o, H p = some o ∧ Mt o := by
  cases d <;> first | exact h.elim | (obtain ⟨vs, e, _⟩ := h; exact ⟨_, e, trivial⟩)
theorem OwnAt.there {p : Addr} (h : OwnAt K H O p d) : H p ≠ none := by
  obtain ⟨o, e, _⟩ := h.mt
  rw [e]
  exact fun z => nomatch z
/-- p itself stands, the rest moves -/
theorem OwnAt.move {p : Addr} (h : OwnAt K H O p d) (s : Stp O H H') (ho : ∀ a, O' a → O a ∨ H a = none) (hp : ∀ o, H p = some o → H' p = some o) : OwnAt K H' O' p d := by
  cases d with
  | lst ds => obtain ⟨vs, e, r⟩ := h; exact ⟨vs, hp _ e, r.move s ho⟩
  | dct ds => obtain ⟨vs, e, r⟩ := h; exact ⟨vs, hp _ e, r.move s ho⟩
  | _ => exact h.elim
theorem OwnAt.same {p : Addr} (h : OwnAt K H O p d) (s : Same H H') : OwnAt K H' O p d := h.move (.of_same s) (fun _ z => .inl z) (fun o e => s _ o e)
theorem OwnAt.anti {p : Addr} (h : OwnAt K H O p d) (ho : ∀ a, O' a → O a) : OwnAt K H O' p d := h.move (.of_same (Same.refl _)) (fun a z => .inl (ho a z)) (fun _ e => e)
theorem OwnAt.rep {p : Addr} (h : OwnAt K H O p d) (n : ¬ O p) : Rep K H O (.ref p) d := by
  cases d with
  | lst ds => obtain ⟨vs, e, r⟩ := h; exact .lst n (.inl e) r
  | dct ds => obtain ⟨vs, e, r⟩ := h; exact .dct n e r
  | _ => exact h.elim

/-- to be read: a value, or a thing of its own -/
def Vw (K : KJ) (H : Hp) (O : Addr → Prop) (v : V) (d : D) : Prop := Rep K H O v d ∨ ∃ p, v = .ref p ∧ OwnAt K H O p d
theorem Vw.same (s : Same H H') (h : Vw K H O v d) : Vw K H' O v d := by
  rcases h with h | ⟨p, e, h⟩
  · exact .inl (h.same s)
  · exact .inr ⟨p, e, h.same s⟩
theorem Vw.int_ {i : Int} (h : Vw K H O v (.int i)) : v = .int i := by
  rcases h with h | ⟨p, e, h⟩
  · cases h; rfl
  · exact h.elim
theorem Vw.bl_ {i : Bool} (h : Vw K H O v (.bl i)) : v = .bl i := by
  rcases h with h | ⟨p, e, h⟩
  · cases h; rfl
  · exact h.elim
theorem Vw.str_ {i : Str} (h : Vw K H O v (.str i)) : v = .str i := by
  rcases h with h | ⟨p, e, h⟩
  · cases h; rfl
  · exact h.elim
theorem Vw.non_ (h : Vw K H O v .non) : v = .non := by
  rcases h with h | ⟨p, e, h⟩
  · cases h; rfl
  · exact h.elim
theorem Vw.op_ {x : V} (h : Vw K H O v (.op x)) : v = x := by
  rcases h with h | ⟨p, e, h⟩
  · cases h; rfl
  · exact h.elim
theorem Vw.tup_ (h : Vw K H O v (.tup ds)) : ∃ a vs, v = .ref a ∧ SqT K H a vs ∧ RepL K H O vs ds := by
  rcases h with h | ⟨p, e, h⟩
  · cases h with | tup h r => exact ⟨_, _, rfl, h, r⟩
  · exact h.elim
theorem Vw.lstR (h : Vw K H O v (.lst ds)) : ∃ a vs, v = .ref a ∧ Rd H a (.lst vs) ∧ RepL K H O vs ds := by
  rcases h with h | ⟨p, e, h⟩
  · cases h with | lst n h r => exact ⟨_, _, rfl, h, r⟩
  · obtain ⟨vs, q, r⟩ := h; exact ⟨p, vs, e, .inl q, r⟩
theorem Vw.lst_ (h : Vw K H O v (.lst ds)) : ∃ a vs, v = .ref a ∧ SqL K H a vs ∧ RepL K H O vs ds :=
  let ⟨a, vs, e, q, r⟩ := h.lstR
  ⟨a, vs, e, .inl q, r⟩
theorem Vw.kl_ (h : Vw K H O v (.kl ds)) : ∃ a vs, v = .ref a ∧ SqL K H a vs ∧ RepL K H O vs ds := by
  rcases h with h | ⟨p, e, h⟩
  · cases h with | kl h r => exact ⟨_, _, rfl, h.sq, r⟩
  · exact h.elim
theorem Vw.dct_ {kvs : List (Key × D)} (h : Vw K H O v (.dct kvs)) : ∃ a vs, v = .ref a ∧ H a = some (.dK vs) ∧ RepD K H O vs kvs := by
  rcases h with h | ⟨p, e, h⟩
  · cases h with | dct n h r => exact ⟨_, _, rfl, h, r⟩
  · obtain ⟨vs, q, r⟩ := h; exact ⟨p, vs, e, q, r⟩

/-! ### slots -/
inductive Sl where
  | no | sh (d : D) | ow (d : D) | pn

abbrev En := List Sl
abbrev Own (env : En) (σ : St) (a : Addr) : Prop := ∃ (i : Nat) (d : D), env[i]? = some (Sl.ow d) ∧ σ[i]? = some (some (V.ref a))
abbrev OO (O : Addr → Prop) (env : En) (σ : St) : Addr → Prop := fun a => O a ∨ Own env σ a

/-- the world around: what may not be touched, the heap that stays, the pinned slots -/
structure Wd where
  O : Addr → Prop
  H0 : Hp
  σ0 : St

structure EnvR (K : KJ) (w : Wd) (env : En) (σ : St) (H : Hp) : Prop where
  len : σ.length = env.length
  dom : ∀ a, w.O a → H a ≠ none
  ext : Same w.H0 H
  sh : ∀ (i : Nat) (d : D), env[i]? = some (.sh d) → ∃ v, σ[i]? = some (some v) ∧ Rep K H (OO w.O env σ) v d
  ow : ∀ (i : Nat) (d : D), env[i]? = some (.ow d) → ∃ p, σ[i]? = some (some (.ref p)) ∧ (w.H0 p = none ∧ ¬ w.O p) ∧ OwnAt K H (OO w.O env σ) p d
  pn : ∀ (i : Nat), env[i]? = some .pn → σ[i]? = w.σ0[i]?
  dist : ∀ (i j : Nat) (p : Addr) (d e : D), env[i]? = some (.ow d) → env[j]? = some (.ow e) → σ[i]? = some (some (.ref p)) → σ[j]? = some (some (.ref p)) → i = j

theorem EnvR.same {w : Wd} {env : En} {σ : St} (e : EnvR K w env σ H) (s : Same H H') : EnvR K w env σ H' :=
  ⟨e.len, (fun a z q => by
      cases h : H a with
      | none => exact e.dom a z h
      | some o => rw [s a o h] at q; cases q), e.ext.trans s, fun i d h => let ⟨v, a, b⟩ := e.sh i d h; ⟨v, a, b.same s⟩, fun i d h => let ⟨p, a, b, c⟩ := e.ow i d h; ⟨p, a, b, c.same s⟩, e.pn, e.dist⟩
theorem EnvR.own {w : Wd} {env : En} {σ : St} (e : EnvR K w env σ H) {a : Addr} (h : Own env σ a) : (w.H0 a = none ∧ ¬ w.O a) ∧ ∃ o, H a = some o ∧ Mt o := by
  obtain ⟨i, d, h1, h2⟩ := h
  obtain ⟨p, q1, q2, q3⟩ := e.ow i d h1
  rw [h2] at q1
  cases q1
  exact ⟨q2, q3.mt⟩
theorem EnvR.there {w : Wd} {env : En} {σ : L2.St} (e : EnvR K w env σ H) {a : Addr} (h : OO w.O env σ a) : H a ≠ none := by
  rcases h with h | h
  · exact e.dom a h
  · obtain ⟨_, o, q, _⟩ := e.own h
    rw [q]
    exact fun z => nomatch z
theorem EnvR.free {w : Wd} {env : En} {σ : St} (e : EnvR K w env σ H) {a : Addr} (h : H a = none) : ¬ OO w.O env σ a := fun z => e.there z h
end
end DV

namespace DV
open PySem PySem.Spec L2

inductive Rv where
  | sh (d : D) | bw (d : D) | nw (d : D)
def Rv.d : Rv → D
  | .sh d => d | .bw d => d | .nw d => d
inductive Er where
  | val (r : Rv) | err (n : Nat) (fs : List (Str × D))
abbrev SE := En → Option Er

def RvR (K : KJ) (P : Addr → Prop) (H H' : Hp) (v : V) : Rv → Prop
  | .sh d => Rep K H' P v d
  | .bw d => ∃ p, v = .ref p ∧ OwnAt K H' P p d
  | .nw d => ∃ p, v = .ref p ∧ H p = none ∧ OwnAt K H' (fun a => P a ∨ a = p) p d
def ExcAt (K : KJ) (H : Hp) (P : Addr → Prop) (da : Option Addr) (fs : List (Str × D)) : Prop := RepF K H P da fs ∧ (fs = [] → da = none)

section
variable {K : KJ} {H H' H1 : Hp} {P P' : Addr → Prop} {v : V} {d : D} {r : Rv}
theorem RvR.vw (h : RvR K P H H' v r) : Vw K H' P v r.d := by
  cases r with
  | sh d => exact .inl h
  | bw d => exact .inr h
  | nw d => obtain ⟨p, e, _, o⟩ := h; exact .inr ⟨p, e, o.anti fun _ z => .inl z⟩
theorem RvR.back (s : Same H H1) (h : RvR K P H1 H' v r) : RvR K P H H' v r := by
  cases r with
  | sh d => exact h
  | bw d => exact h
  | nw d => obtain ⟨p, e, n, o⟩ := h; exact ⟨p, e, s.free n, o⟩
/-- a new thing is let stand -/
def Rv.frz : Rv → Option D
  | .sh d => some d | .nw d => some d | .bw _ => none
theorem RvR.rep (hd : ∀ a, P a → H a ≠ none) (h : RvR K P H H' v r) (e : r.frz = some d) : Rep K H' P v d := by
  cases r with
  | sh d' => cases e; exact h
  | bw d' => cases e
  | nw d' =>
    cases e
    obtain ⟨p, rfl, n, o⟩ := h
    exact (o.anti fun _ z => .inl z).rep fun z => hd p z n
theorem ExcAt.same {da : Option Addr} {fs : List (Str × D)} (h : ExcAt K H P da fs) (s : Same H H') : ExcAt K H' P da fs := ⟨RepF.move (.of_same s) (fun _ z => .inl z) h.1, h.2⟩
theorem ExcAt.anti {da : Option Addr} {fs : List (Str × D)} (h : ExcAt K H P da fs) (ho : ∀ a, P' a → P a) : ExcAt K H P' da fs := ⟨RepF.move (.of_same (Same.refl _)) (fun a z => .inl (ho a z)) h.1, h.2⟩
end

/-- what is wanted of an exception; which exceptions are held -/
structure WJ where
  w : WX
  J : V → Nat → Option Addr → Prop
abbrev J0 : V → Nat → Option Addr → Prop := fun _ _ _ => False
def okE (K : KJ) (cl : Nat → Addr) (W : WX) (P : Addr → Prop) (σ : L2.St) (H : Hp) (Q : VK) : Option Er → Prop
  | none => False
  | some (.val r) => ∀ v H', Same H H' → RvR K P H H' v r → Q v H'
  | some (.err n fs) => ∀ da H', Same H H' → ExcAt K H' P da fs → W (.ref (cl n)) da σ H'
def tE (K : PySem.W.Frag) (cl : Nat → Addr) (W : WJ) (f : SE) : TE := fun σ H Q => ∃ w env, EnvR ⟨K, W.J⟩ w env σ H ∧ okE ⟨K, W.J⟩ cl W.w (OO w.O env σ) σ H Q (f env)
abbrev QE (X : Cx) (cl : Nat → Addr) (W : WJ) (e : Expr) (f : SE) : Prop := PE X e (tE X.K cl W f)
/-- a test: its value is a bool -/
def tT (K : PySem.W.Frag) (cl : Nat → Addr) (W : WJ) (f : SE) : TT := fun σ H Q => ∃ w env, EnvR ⟨K, W.J⟩ w env σ H ∧ okE ⟨K, W.J⟩ cl W.w (OO w.O env σ) σ H (fun v H' => ∃ b, v = .bl b ∧ Q b H') (f env)
abbrev QT (X : Cx) (cl : Nat → Addr) (W : WJ) (e : Expr) (f : SE) : Prop := PT X e (tT X.K cl W f)
abbrev QW (X : Cx) (cl : Nat → Addr) (W : WJ) (e : Expr) (f : SE) : Prop := PW X e (tT X.K cl W f)

theorem PEimp {X : Cx} {e : Expr} {t t' : TE} (h : PE X e t) (i : ∀ σ H Q, t' σ H Q → t σ H Q) : PE X e t' := ⟨fun pins s σ H Q I q => h.run pins s σ H Q I (i _ _ _ q)⟩
theorem PTimp {X : Cx} {e : Expr} {t t' : TT} (h : PT X e t) (i : ∀ σ H Q, t' σ H Q → t σ H Q) : PT X e t' := ⟨fun pins s σ H Q I q => h.run pins s σ H Q I (i _ _ _ q)⟩
theorem PWimp {X : Cx} {e : Expr} {t t' : TT} (h : PW X e t) (i : ∀ σ H Q, t' σ H Q → t σ H Q) : PW X e t' := ⟨fun wh pins s σ H Q I q => h.run wh pins s σ H Q I (i _ _ _ q)⟩
theorem PAimp {X : Cx} {e : List Expr} {t t' : TA} (h : PA X e t) (i : ∀ σ H Q, t' σ H Q → t σ H Q) : PA X e t' := ⟨fun pos pins s σ H Q I q => h.run pos pins s σ H Q I (i _ _ _ q)⟩
theorem PSimp {X : Cx} {e : Stmt} {t t' : TS} (h : PS X e t) (i : ∀ D σ H, t' D σ H → t D σ H) : PS X e t' := ⟨fun pins s σ H D I q => h.run pins s σ H D I (i _ _ _ q)⟩
theorem PSsimp {X : Cx} {e : List Stmt} {t t' : TS} (h : PSs X e t) (i : ∀ D σ H, t' D σ H → t D σ H) : PSs X e t' := ⟨fun pins s σ H D I q => h.run pins s σ H D I (i _ _ _ q)⟩

/-! ### the functions -/
def bindE (x : Option Er) (k : Rv → Option Er) : Option Er :=
  match x with
  | some (.val r) => k r
  | some (.err n fs) => some (.err n fs)
  | none => none
@[simp] theorem bindE_val {r : Rv} {k : Rv → Option Er} : bindE (some (.val r)) k = k r := rfl
@[simp] theorem bindE_err {n : Nat} {fs : List (Str × D)} {k : Rv → Option Er} : bindE (some (.err n fs)) k = some (.err n fs) := rfl
@[simp] theorem bindE_none {k : Rv → Option Er} : bindE none k = none := rfl
@[simp] theorem Rv.d_sh {d : D} : (Rv.sh d).d = d := rfl
@[simp] theorem Rv.d_bw {d : D} : (Rv.bw d).d = d := rfl
@[simp] theorem Rv.d_nw {d : D} : (Rv.nw d).d = d := rfl
@[simp] theorem Rv.frz_sh {d : D} : (Rv.sh d).frz = some d := rfl
@[simp] theorem Rv.frz_nw {d : D} : (Rv.nw d).frz = some d := rfl
@[simp] theorem Rv.frz_bw {d : D} : (Rv.bw d).frz = none := rfl
abbrev vS (d : D) : Option Er := some (.val (.sh d))
abbrev vN (d : D) : Option Er := some (.val (.nw d))
abbrev vB (d : D) : Option Er := some (.val (.bw d))

section
variable {K : KJ} {cl : Nat → Addr} {W : WX} {P P' : Addr → Prop} {σ : L2.St} {H H' H1 : Hp} {Q Q' : VK} {x : Option Er} {k : Rv → Option Er}
theorem okE.mono (h : okE K cl W P σ H Q x) (i : ∀ v H', Same H H' → Q v H' → Q' v H') : okE K cl W P σ H Q' x := by
  match x, h with
  | some (.val r), h => exact fun v H' s q => i v H' s (h v H' s q)
  | some (.err n fs), h => exact h
theorem okE.same (s : Same H H1) (h : okE K cl W P σ H Q x) : okE K cl W P σ H1 Q x := by
  match x, h with
  | some (.val r), h => exact fun v H' t q => h v H' (s.trans t) (q.back s)
  | some (.err n fs), h => exact fun da H' t q => h da H' (s.trans t) q
theorem okE.bind (h : okE K cl W P σ H Q (bindE x k)) : okE K cl W P σ H (fun v H1 => ∃ r, RvR K P H H1 v r ∧ x = some (.val r) ∧ Same H H1 ∧ okE K cl W P σ H1 Q (k r)) x := by
  match x, h with
  | some (.val r), h => exact fun v H1 s q => ⟨r, q, rfl, s, h.same s⟩
  | some (.err n fs), h => exact h
end

section
variable {X : Cx} {cl : Nat → Addr} {W : WJ} {a b c e : Expr} {f g : SE} {pos : Pos}

/-! ### names, constants -/
def sVar (i : Nat) : SE := fun env =>
  match env[i]? with
  | some (.sh d) => vS d
  | some (.ow d) => vB d
  | _ => none
def sC (d : D) : SE := fun _ => vS d
theorem q_pv (i : Nat) {x : Str} (h : PE X (.Name x pos) (tVar i)) : QE X cl W (.Name x pos) (sVar i) := by
  refine PEimp h fun σ H Q ⟨w, env, ev, h⟩ => ?_
  unfold sVar at h
  split at h
  · rename_i d hd
    obtain ⟨v, e1, r⟩ := ev.sh i d hd
    exact ⟨v, e1, h v H (Same.refl _) r⟩
  · rename_i d hd
    obtain ⟨p, e1, _, r⟩ := ev.ow i d hd
    exact ⟨_, e1, h _ H (Same.refl _) ⟨p, rfl, r⟩⟩
  · exact h.elim
theorem q_var (i : Nat) {x : Str} (hN : X.N[i]? = some x := by rfl) (hv : Vis X.env.scope x := by first | exact Or.inl rfl | exact Or.inr (Or.inl rfl) | exact Or.inr (Or.inr rfl)) (hd : (x == ("__debug__" : Str)) = false := by decide)
    (hcd : (x == ("__classdict__" : Str)) = false := by decide) : QE X cl W (.Name x pos) (sVar i) := q_pv i (pe_var hN hv hd hcd)
/-- a value that stands for d in every heap -/
theorem q_const {v : V} {d : D} (h : PE X e (tC v)) (r : ∀ J H P, Rep ⟨X.K, J⟩ H P v d) : QE X cl W e (sC d) :=
  PEimp h fun σ H Q ⟨w, env, ev, h⟩ => h v H (Same.refl _) (r _ H _)
theorem q_int {i j} : QE X cl W (.Constant (.int i) j pos) (sC (.int i)) := q_const pe_int fun _ _ _ => .int i
theorem q_bl {i j} : QE X cl W (.Constant (.bool i) j pos) (sC (.bl i)) := q_const pe_bl fun _ _ _ => .bl i
theorem q_non {j} : QE X cl W (.Constant .none j pos) (sC .non) := q_const pe_non fun _ _ _ => .non
theorem q_str {i j} : QE X cl W (.Constant (.str i) j pos) (sC (.str i)) := q_const pe_str fun _ _ _ => .str i

/-! ### two operands -/
def OpD (K : PySem.W.Frag) (r : R2) (s : D → D → Option Rv) : Prop :=
  ∀ (J : V → Nat → Option Addr → Prop) (P : Addr → Prop) (H : Hp) (x y : V) (d e : D) (z : Rv) (Q : VK), Vw ⟨K, J⟩ H P x d → Vw ⟨K, J⟩ H P y e → s d e = some z → (∀ a, P a → H a ≠ none) → (∀ v H', Same H H' → RvR ⟨K, J⟩ P H H' v z → Q v H') → r x y H Q
def sBin (s : D → D → Option Rv) (f g : SE) : SE := fun env => bindE (f env) fun x => bindE (g env) fun y => (s x.d y.d).map .val
theorem tE_bin {K : PySem.W.Frag} {r : R2} {s : D → D → Option Rv} {σ : L2.St} {H : Hp} {Q : VK} (hd : OpD K r s) (h : tE K cl W (sBin s f g) σ H Q) : tOp r (tE K cl W f) (tE K cl W g) σ H Q := by
  obtain ⟨w, env, ev, h⟩ := h
  refine ⟨w, env, ev, okE.mono (okE.bind h) fun x H1 s1 ⟨rx, qx, _, _, h1⟩ => ?_⟩
  refine ⟨w, env, ev.same s1, okE.mono (okE.bind h1) fun y H2 s2 ⟨ry, qy, _, _, h2⟩ => ?_⟩
  cases e : s rx.d ry.d with
  | none => rw [e] at h2; exact h2.elim
  | some z =>
    rw [e] at h2
    exact hd _ _ H2 x y _ _ z Q (qx.vw.same s2) qy.vw e (fun a ha => (ev.same (s1.trans s2)).there ha) h2
theorem q_op {op : Operator} {r : R2} {s : D → D → Option Rv} (ho : OpR X (binaryOp op) r) (hd : OpD X.K r s) (ha : QE X cl W a f) (hb : QE X cl W b g) : QE X cl W (.BinOp a op b pos) (sBin s f g) :=
  PEimp (pe_op ho ha hb) fun σ H Q h => tE_bin hd h
theorem q_cmp {op : CmpOp} {r : R2} {s : D → D → Option Rv} (ho : OpR X (compareOp op) r) (hd : OpD X.K r s) (ha : QE X cl W a f) (hb : QE X cl W b g) (hm : behindInMarks op b = false) : QE X cl W (.Compare a [op] [b] pos) (sBin s f g) :=
  PEimp (pe_cmpR ho ha hb hm) fun σ H Q h => tE_bin hd h
theorem tT_tE {K : PySem.W.Frag} {f : SE} {σ : L2.St} {H : Hp} {Q : Bool → Hp → Prop} (h : tT K cl W f σ H Q) : tE K cl W f σ H (fun v H' => ∃ k, v = .bl k ∧ Q k H') := h
theorem qt_cmp {op : CmpOp} {r : R2} {s : D → D → Option Rv} (ho : OpR X (compareOp op) r) (hd : OpD X.K r s) (ha : QE X cl W a f) (hb : QE X cl W b g) (hm : behindInMarks op b = false) : QT X cl W (.Compare a [op] [b] pos) (sBin s f g) :=
  PTimp (pt_cmpR ho ha hb hm) fun σ H Q h => tE_bin hd (tT_tE h)
/-- a value that is a bool, as a test -/
theorem qt_val (h : QE X cl W e f) (he : ∀ whole, isTrue e X.env whole = (do let v ← whole; standAt e.pos; holding [v] (truthy v)) := by intro _; rfl) : QT X cl W e f :=
  PTimp (pt_val h he) fun σ H Q h => tT_tE h
/-- a < b < c -/
def sChain (s s' : D → D → Option Rv) (f g h : SE) : SE := fun env => bindE (f env) fun x => bindE (g env) fun y =>
  match s x.d y.d with
  | some (.sh (.bl true)) => bindE (h env) fun z => (s' y.d z.d).map .val
  | some (.sh (.bl false)) => vS (.bl false)
  | _ => none
theorem tE_chain {K : PySem.W.Frag} {r r' : R2} {s s' : D → D → Option Rv} {h : SE} {σ : L2.St} {H : Hp} {Q : VK} (hd : OpD K r s) (hd' : OpD K r' s') (hh : tE K cl W (sChain s s' f g h) σ H Q) :
    tChain r r' (tE K cl W f) (tE K cl W g) (tE K cl W h) σ H Q := by
  obtain ⟨w, env, ev, hh⟩ := hh
  refine ⟨w, env, ev, okE.mono (okE.bind hh) fun x H1 s1 ⟨rx, qx, _, _, h1⟩ => ?_⟩
  refine ⟨w, env, ev.same s1, okE.mono (okE.bind h1) fun y H2 s2 ⟨ry, qy, _, _, h2⟩ => ?_⟩
  have ev2 := ev.same (s1.trans s2)
  cases e : s rx.d ry.d with
  | none => rw [e] at h2; exact h2.elim
  | some z =>
    rw [e] at h2
    refine hd _ _ H2 x y _ _ z _ (qx.vw.same s2) qy.vw e (fun a ha => ev2.there ha) fun v H3 s3 q => ?_
    match z, h2, q with
    | .sh (.bl true), h2, q =>
      cases q
      refine ⟨true, rfl, ?_⟩
      rw [if_pos rfl]
      refine ⟨w, env, ev2.same s3, okE.mono (okE.bind (okE.same s3 h2)) fun u H4 s4 ⟨ru, qu, _, _, h4⟩ => ?_⟩
      cases e' : s' ry.d ru.d with
      | none => rw [e'] at h4; exact h4.elim
      | some z' =>
        rw [e'] at h4
        exact hd' _ _ H4 y u _ _ z' Q (qy.vw.same (s3.trans s4)) qu.vw e' (fun a ha => (ev2.same (s3.trans s4)).there ha) h4
    | .sh (.bl false), h2, q =>
      cases q
      refine ⟨false, rfl, ?_⟩
      rw [if_neg Bool.false_ne_true]
      exact h2 _ H3 s3 (.bl false)
    | .sh .non, h2, _ => exact h2.elim
    | .sh (.int _), h2, _ => exact h2.elim
    | .sh (.str _), h2, _ => exact h2.elim
    | .sh (.tup _), h2, _ => exact h2.elim
    | .sh (.lst _), h2, _ => exact h2.elim
    | .sh (.dct _), h2, _ => exact h2.elim
    | .sh (.op _), h2, _ => exact h2.elim
    | .sh (.exc _ _), h2, _ => exact h2.elim
    | .sh (.kl _), h2, _ => exact h2.elim
    | .bw _, h2, _ => exact h2.elim
    | .nw _, h2, _ => exact h2.elim
theorem q_chain {op op' : CmpOp} {r r' : R2} {s s' : D → D → Option Rv} {h : SE} (ho : OpR X (compareOp op) r) (hd : OpD X.K r s) (ho' : OpR X (compareOp op') r') (hd' : OpD X.K r' s') (ha : QE X cl W a f) (hb : QE X cl W b g) (hc : QE X cl W c h)
    (hm : lastMarks [op, op'] [b, c] = false := by rfl) : QE X cl W (.Compare a [op, op'] [b, c] pos) (sChain s s' f g h) :=
  PEimp (pe_chain ho ho' ha hb hc hm) fun σ H Q q => tE_chain hd hd' q
theorem qt_chain {op op' : CmpOp} {r r' : R2} {s s' : D → D → Option Rv} {h : SE} (ho : OpR X (compareOp op) r) (hd : OpD X.K r s) (ho' : OpR X (compareOp op') r') (hd' : OpD X.K r' s') (ha : QE X cl W a f) (hb : QE X cl W b g) (hc : QE X cl W c h)
    (hm : lastMarks [op, op'] [b, c] = false := by rfl) : QT X cl W (.Compare a [op, op'] [b, c] pos) (sChain s s' f g h) :=
  PTimp (pt_chain ho ho' ha hb hc hm) fun σ H Q q => tE_chain hd hd' (tT_tE q)

/-! ### one operand -/
def UnD (K : PySem.W.Frag) (r : V → Hp → VK → Prop) (s : D → Option Rv) : Prop :=
  ∀ (J : V → Nat → Option Addr → Prop) (P : Addr → Prop) (H : Hp) (x : V) (d : D) (z : Rv) (Q : VK), Vw ⟨K, J⟩ H P x d → s d = some z → (∀ v H', Same H H' → RvR ⟨K, J⟩ P H H' v z → Q v H') → r x H Q
def sUn (s : D → Option Rv) (f : SE) : SE := fun env => bindE (f env) fun x => (s x.d).map .val
theorem q_un {op : UnaryOp} {r : V → Hp → VK → Prop} {s : D → Option Rv} (ho : UnR X (unaryOp op) r) (hd : UnD X.K r s) (ha : QE X cl W a f) : QE X cl W (.UnaryOp op a pos) (sUn s f) := by
  refine PEimp (pe_un ho ha) fun σ H Q ⟨w, env, ev, h⟩ => ?_
  refine ⟨w, env, ev, okE.mono (okE.bind h) fun x H1 s1 ⟨rx, qx, _, _, h1⟩ => ?_⟩
  cases e : s rx.d with
  | none => rw [e] at h1; exact h1.elim
  | some z =>
    rw [e] at h1
    exact hd _ _ H1 x _ z Q qx.vw e h1
def dNeg : D → Option Rv
  | .int i => some (.sh (.int (-i)))
  | _ => none
theorem ud_neg {K : PySem.W.Frag} : UnD K (rU fun i => .int (-i)) dNeg := by
  intro J P H x d z Q hx e h
  match d, e with
  | .int i, e =>
    cases e
    exact ⟨i, hx.int_, h _ H (Same.refl _) (.int _)⟩

/-! ### and, or, not -/
def sAnd (f g : SE) : SE := fun env => bindE (f env) fun x =>
  match x with
  | .sh (.bl true) => g env
  | .sh (.bl false) => vS (.bl false)
  | _ => none
def sOr (f g : SE) : SE := fun env => bindE (f env) fun x =>
  match x with
  | .sh (.bl false) => g env
  | .sh (.bl true) => vS (.bl true)
  | _ => none
def sNot (f : SE) : SE := fun env => bindE (f env) fun x =>
  match x with
  | .sh (.bl b) => vS (.bl (!b))
  | _ => none
def sIf (f g h : SE) : SE := fun env => bindE (f env) fun x =>
  match x with
  | .sh (.bl true) => g env
  | .sh (.bl false) => h env
  | _ => none
theorem bl_of {K : KJ} {P : Addr → Prop} {H H' : Hp} {v : V} {r : Rv} (q : RvR K P H H' v r) {p : Bool → Prop} (h : ∀ b, r = .sh (.bl b) → p b) (hn : (∀ b, r ≠ .sh (.bl b)) → False) : ∃ b, v = .bl b ∧ r = .sh (.bl b) ∧ p b := by
  match r, q with
  | .sh (.bl b), q => cases q; exact ⟨b, rfl, rfl, h b rfl⟩
  | .sh .non, _ => exact (hn fun b z => nomatch z).elim
  | .sh (.int _), _ => exact (hn fun b z => nomatch z).elim
  | .sh (.str _), _ => exact (hn fun b z => nomatch z).elim
  | .sh (.tup _), _ => exact (hn fun b z => nomatch z).elim
  | .sh (.lst _), _ => exact (hn fun b z => nomatch z).elim
  | .sh (.dct _), _ => exact (hn fun b z => nomatch z).elim
  | .sh (.op _), _ => exact (hn fun b z => nomatch z).elim
  | .sh (.exc _ _), _ => exact (hn fun b z => nomatch z).elim
  | .sh (.kl _), _ => exact (hn fun b z => nomatch z).elim
  | .bw _, _ => exact (hn fun b z => nomatch z).elim
  | .nw _, _ => exact (hn fun b z => nomatch z).elim
/-- split a truth -/
theorem tE_bool {K : PySem.W.Frag} {k0 k1 : SE} {σ : L2.St} {H : Hp} {Q : VK} {R : Bool → V → Hp → Prop}
    (h : tE K cl W (fun env => bindE (f env) fun x => match x with | .sh (.bl true) => k1 env | .sh (.bl false) => k0 env | _ => none) σ H Q) :
    tE K cl W f σ H fun v H1 => ∃ b, v = .bl b ∧ tE K cl W (if b = true then k1 else k0) σ H1 Q := by
  obtain ⟨w, env, ev, h⟩ := h
  refine ⟨w, env, ev, okE.mono (okE.bind h) fun x H1 s1 ⟨rx, qx, _, _, h1⟩ => ?_⟩
  obtain ⟨b, e1, e2, _⟩ := bl_of (p := fun _ => True) qx (fun _ _ => trivial) (fun hn => by
    split at h1
    · exact hn true rfl
    · exact hn false rfl
    · exact h1)
  subst e1 e2
  refine ⟨b, rfl, w, env, ev.same s1, ?_⟩
  cases b with
  | true => rw [if_pos rfl]; exact h1
  | false => rw [if_neg Bool.false_ne_true]; exact h1
end
section
variable {X : Cx} {cl : Nat → Addr} {W : WJ} {a b c e : Expr} {rest : List Expr} {f g h : SE} {pos : Pos}
theorem tE_false {K : PySem.W.Frag} {σ : L2.St} {H : Hp} {Q : VK} {b : Bool} (h : tE K cl W (fun _ => vS (.bl b)) σ H Q) : Q (.bl b) H := by
  obtain ⟨w, env, ev, h⟩ := h
  exact h _ H (Same.refl _) (.bl b)
theorem sAnd_eq : sAnd f g = fun env => bindE (f env) fun x => match x with | .sh (.bl true) => g env | .sh (.bl false) => (fun _ => vS (.bl false)) env | _ => none := rfl
theorem sOr_eq : sOr f g = fun env => bindE (f env) fun x => match x with | .sh (.bl true) => (fun _ => vS (.bl true)) env | .sh (.bl false) => g env | _ => none := by
  funext env
  unfold sOr
  congr 1
  funext x
  split <;> (try rfl)
  rename_i h1 h2
  split <;> (try rfl)
  · exact (h2 rfl).elim
  · exact (h1 rfl).elim
theorem q_and (ha : QE X cl W a f) (hb : QE X cl W (.BoolOp .And (b :: rest) pos) g) : QE X cl W (.BoolOp .And (a :: b :: rest) pos) (sAnd f g) := by
  refine PEimp (pe_and ha hb) fun σ H Q h => ?_
  rw [sAnd_eq] at h
  obtain ⟨w, env, ev, h⟩ := tE_bool (R := fun _ _ _ => True) h
  refine ⟨w, env, ev, h.mono fun v H1 s ⟨b, e, q⟩ => ⟨b, e, ?_⟩⟩
  cases b with
  | true => rw [if_pos rfl] at q ⊢; exact q
  | false => rw [if_neg Bool.false_ne_true] at q ⊢; exact tE_false q
theorem q_or (ha : QE X cl W a f) (hb : QE X cl W (.BoolOp .Or (b :: rest) pos) g) : QE X cl W (.BoolOp .Or (a :: b :: rest) pos) (sOr f g) := by
  refine PEimp (pe_or ha hb) fun σ H Q h => ?_
  rw [sOr_eq] at h
  obtain ⟨w, env, ev, h⟩ := tE_bool (R := fun _ _ _ => True) h
  refine ⟨w, env, ev, h.mono fun v H1 s ⟨b, e, q⟩ => ⟨b, e, ?_⟩⟩
  cases b with
  | true => rw [if_pos rfl] at q ⊢; exact tE_false q
  | false => rw [if_neg Bool.false_ne_true] at q ⊢; exact q
theorem q_one {op} (h : QE X cl W a f) : QE X cl W (.BoolOp op [a] pos) f := pe_one h
theorem q_not (ha : QE X cl W a f) : QE X cl W (.UnaryOp .Not a pos) (sNot f) := by
  refine PEimp (pe_not ha) fun σ H Q ⟨w, env, ev, h⟩ => ?_
  refine ⟨w, env, ev, okE.mono (okE.bind h) fun x H1 s1 ⟨rx, qx, _, _, h1⟩ => ?_⟩
  obtain ⟨b, e1, e2, _⟩ := bl_of (p := fun _ => True) qx (fun _ _ => trivial) (fun hn => by
    split at h1
    · exact hn _ rfl
    · exact h1)
  subst e1 e2
  exact ⟨b, rfl, h1 _ H1 (Same.refl _) (.bl _)⟩
theorem qw_and1 (ha : QT X cl W a f) : QW X cl W (.BoolOp .And [a] pos) f := pw_and1 ha
theorem qw_or1 (ha : QT X cl W a f) : QW X cl W (.BoolOp .Or [a] pos) f := pw_or1 ha
theorem qw_and (ha : QT X cl W a f) (hb : QW X cl W (.BoolOp .And (b :: rest) pos) g) : QW X cl W (.BoolOp .And (a :: b :: rest) pos) (sAnd f g) := by
  refine PWimp (pw_and ha hb) fun σ H Q h => ?_
  have h := tT_tE h
  rw [sAnd_eq] at h
  obtain ⟨w, env, ev, h⟩ := tE_bool (R := fun _ _ _ => True) h
  refine ⟨w, env, ev, h.mono fun v H1 s ⟨b, e, q⟩ => ⟨b, e, ?_⟩⟩
  cases b with
  | true => rw [if_pos rfl] at q ⊢; exact q
  | false =>
    rw [if_neg Bool.false_ne_true] at q ⊢
    obtain ⟨k, e, q⟩ := tE_false q
    cases e
    exact q
theorem qw_or (ha : QT X cl W a f) (hb : QW X cl W (.BoolOp .Or (b :: rest) pos) g) : QW X cl W (.BoolOp .Or (a :: b :: rest) pos) (sOr f g) := by
  refine PWimp (pw_or ha hb) fun σ H Q h => ?_
  have h := tT_tE h
  rw [sOr_eq] at h
  obtain ⟨w, env, ev, h⟩ := tE_bool (R := fun _ _ _ => True) h
  refine ⟨w, env, ev, h.mono fun v H1 s ⟨b, e, q⟩ => ⟨b, e, ?_⟩⟩
  cases b with
  | true =>
    rw [if_pos rfl] at q ⊢
    obtain ⟨k, e, q⟩ := tE_false q
    cases e
    exact q
  | false => rw [if_neg Bool.false_ne_true] at q ⊢; exact q
theorem qt_of (h : QW X cl W e f) : QT X cl W e f := PW.pt h
theorem qt_not (ha : QT X cl W a f) : QT X cl W (.UnaryOp .Not a pos) (sNot f) := by
  refine PTimp (pt_not ha) fun σ H Q ⟨w, env, ev, h⟩ => ?_
  refine ⟨w, env, ev, okE.mono (okE.bind h) fun x H1 s1 ⟨rx, qx, _, _, h1⟩ => ?_⟩
  obtain ⟨b, e1, e2, _⟩ := bl_of (p := fun _ => True) qx (fun _ _ => trivial) (fun hn => by
    split at h1
    · exact hn _ rfl
    · exact h1)
  subst e1 e2
  obtain ⟨k, e, q⟩ := h1 _ H1 (Same.refl _) (.bl _)
  cases e
  exact ⟨b, rfl, q⟩
theorem q_if (hc : QT X cl W c f) (ha : QE X cl W a g) (hb : QE X cl W b h) : QE X cl W (.IfExp c a b pos) (sIf f g h) := by
  refine PEimp (pe_ifExp hc ha hb) fun σ H Q hh => ?_
  obtain ⟨w, env, ev, hh⟩ := tE_bool (R := fun _ _ _ => True) (k1 := g) (k0 := h) hh
  refine ⟨w, env, ev, hh.mono fun v H1 s ⟨b, e, q⟩ => ⟨b, e, ?_⟩⟩
  cases b with
  | true => rw [if_pos rfl] at q ⊢; exact q
  | false => rw [if_neg Bool.false_ne_true] at q ⊢; exact q

/-! ### arguments, displays -/
inductive Ar where
  | vals (rs : List Rv) | err (n : Nat) (fs : List (Str × D))
abbrev SA := En → Option Ar
def bindA (x : Option Ar) (k : List Rv → Option Er) : Option Er :=
  match x with
  | some (.vals rs) => k rs
  | some (.err n fs) => some (.err n fs)
  | none => none
def aNil : SA := fun _ => some (.vals [])
def aCons (f : SE) (g : SA) : SA := fun env =>
  match f env with
  | some (.val r) => (match g env with
    | some (.vals rs) => some (.vals (r :: rs))
    | y => y)
  | some (.err n fs) => some (.err n fs)
  | none => none
inductive RvsR (K : KJ) (P : Addr → Prop) (H H' : Hp) : List V → List Rv → Prop where
  | nil : RvsR K P H H' [] []
  | cons {v : V} {vs : List V} {r : Rv} {rs : List Rv} : RvR K P H H' v r → RvsR K P H H' vs rs → RvsR K P H H' (v :: vs) (r :: rs)
end
theorem RvR.fwd {K : KJ} {P : Addr → Prop} {H H1 H2 : Hp} {v : V} {r : Rv} (s : Same H1 H2) (h : RvR K P H H1 v r) : RvR K P H H2 v r := by
  cases r with
  | sh d => exact Rep.same s h
  | bw d => obtain ⟨p, e, o⟩ := h; exact ⟨p, e, o.same s⟩
  | nw d => obtain ⟨p, e, n, o⟩ := h; exact ⟨p, e, n, o.same s⟩
theorem RvsR.back {K : KJ} {P : Addr → Prop} {H H1 H2 : Hp} (s : Same H H1) : ∀ {vs : List V} {rs : List Rv}, RvsR K P H1 H2 vs rs → RvsR K P H H2 vs rs
  | _, _, .nil => .nil
  | _, _, .cons h r => .cons (h.back s) (r.back s)
def okA (K : KJ) (cl : Nat → Addr) (W : WX) (P : Addr → Prop) (σ : L2.St) (H : Hp) (Q : List V → Hp → Prop) : Option Ar → Prop
  | none => False
  | some (.vals rs) => ∀ vs H', Same H H' → RvsR K P H H' vs rs → Q vs H'
  | some (.err n fs) => ∀ da H', Same H H' → ExcAt K H' P da fs → W (.ref (cl n)) da σ H'
def tA (K : PySem.W.Frag) (cl : Nat → Addr) (W : WJ) (f : SA) : TA := fun σ H Q => ∃ w env, EnvR ⟨K, W.J⟩ w env σ H ∧ okA ⟨K, W.J⟩ cl W.w (OO w.O env σ) σ H Q (f env)
abbrev QA (X : Cx) (cl : Nat → Addr) (W : WJ) (es : List Expr) (f : SA) : Prop := PA X es (tA X.K cl W f)
section
variable {X : Cx} {cl : Nat → Addr} {W : WJ} {e : Expr} {es : List Expr} {f : SE} {g : SA} {pos : Pos} {K : KJ} {Y : WX} {P : Addr → Prop} {σ : L2.St} {H H1 : Hp} {Q : VK}
theorem okA.same {x : Option Ar} {Q : List V → Hp → Prop} (s : Same H H1) (h : okA K cl Y P σ H Q x) : okA K cl Y P σ H1 Q x := by
  match x, h with
  | some (.vals r), h => exact fun v H' t q => h v H' (s.trans t) (q.back s)
  | some (.err n fs), h => exact fun da H' t q => h da H' (s.trans t) q
theorem okA.mono {x : Option Ar} {Q Q' : List V → Hp → Prop} (h : okA K cl Y P σ H Q x) (i : ∀ v H', Same H H' → Q v H' → Q' v H') : okA K cl Y P σ H Q' x := by
  match x, h with
  | some (.vals r), h => exact fun v H' s q => i v H' s (h v H' s q)
  | some (.err n fs), h => exact h
theorem okA.bind {x : Option Ar} {k : List Rv → Option Er} (h : okE K cl Y P σ H Q (bindA x k)) : okA K cl Y P σ H (fun vs H1 => ∃ rs, RvsR K P H H1 vs rs ∧ x = some (.vals rs) ∧ Same H H1 ∧ okE K cl Y P σ H1 Q (k rs)) x := by
  match x, h with
  | some (.vals r), h => exact fun v H1 s q => ⟨r, q, rfl, s, okE.same s h⟩
  | some (.err n fs), h => exact h
theorem qa_nil : QA X cl W [] aNil := PAimp pa_nil fun σ H Q ⟨w, env, ev, h⟩ => h [] H (Same.refl _) .nil
theorem qa_cons (ha : QE X cl W e f) (hr : QA X cl W es g) (hs : starEach (e :: es) X.env = (false, eval e X.env) :: starEach es X.env := by rfl) : QA X cl W (e :: es) (aCons f g) := by
  refine PAimp (pa_cons ha hr hs) fun σ H Q ⟨w, env, ev, h⟩ => ?_
  unfold aCons at h
  cases hf : f env with
  | none => rw [hf] at h; exact h.elim
  | some x =>
    cases x with
    | err n fs => refine ⟨w, env, ev, ?_⟩; rw [hf] at h ⊢; exact h
    | val r =>
      refine ⟨w, env, ev, ?_⟩
      rw [hf] at h ⊢
      refine fun v H1 s1 q1 => ⟨w, env, ev.same s1, ?_⟩
      cases hg : g env with
      | none => simp only [hg] at h; exact h.elim
      | some y =>
        cases y with
        | err n fs => simp only [hg] at h; exact fun da H' t q => h da H' (s1.trans t) q
        | vals rs =>
          simp only [hg] at h
          exact fun vs H2 s2 q2 => h (v :: vs) H2 (s1.trans s2) (.cons (q1.fwd s2) (q2.back s1))

def frzs : List Rv → Option (List D)
  | [] => some []
  | r :: rs => match r.frz, frzs rs with
    | some d, some ds => some (d :: ds)
    | _, _ => none
theorem RvsR.rep (hd : ∀ a, P a → H a ≠ none) : ∀ {vs : List V} {rs : List Rv} {ds : List D}, RvsR K P H H1 vs rs → frzs rs = some ds → RepL K H1 P vs ds
  | _, _, _, .nil, e => by cases e; exact .nil
  | _, _, _, .cons (r := r) (rs := rs) h q, e => by
    unfold frzs at e
    split at e
    · rename_i d ds e1 e2
      cases e
      exact .cons (h.rep hd e1) (q.rep hd e2)
    · cases e
theorem RvsR.len : ∀ {vs : List V} {rs : List Rv}, RvsR K P H H1 vs rs → vs.length = rs.length
  | _, _, .nil => rfl
  | _, _, .cons _ q => by simp [q.len]
def sTup (g : SA) : SE := fun env => bindA (g env) fun rs =>
  match frzs rs with
  | some ds => if ds.length ≤ 100000 then vS (.tup ds) else none
  | none => none
def sLst (g : SA) : SE := fun env => bindA (g env) fun rs =>
  match frzs rs with
  | some ds => if ds.length ≤ 100000 then vN (.lst ds) else none
  | none => none
theorem line_le {n : Nat} (h : n ≤ 100000) : n ≤ sizeLine := Nat.le_trans h (by decide)
theorem line_lt {n : Nat} (h : n < 100000) : n < sizeLine := Nat.lt_of_lt_of_le h (by decide)
theorem same_upd {H : Hp} {p : Addr} {o : HO} (h : H p = none) : Same H (upd H p o) := fun b x e => by
  rw [upd_ne (ne_of_none e h)]
  exact e
/-- a new list, its items read -/
theorem RepL.nw {vs : List V} {ds : List D} {p : Addr} (h : RepL K H P vs ds) (hp : H p = none) : RepL K (upd H p (.lst vs)) (fun a => P a ∨ a = p) vs ds :=
  h.move (.of_same (same_upd hp)) fun a z => z.elim .inl fun e => .inr (by rw [e]; exact hp)
theorem rv_nw {H0 : Hp} {vs : List V} {ds : List D} {p : Addr} (h : RepL K H P vs ds) (s : Same H0 H) (hp : H p = none) : RvR K P H0 (upd H p (.lst vs)) (.ref p) (.nw (.lst ds)) :=
  ⟨p, rfl, s.free hp, vs, upd_same, h.nw hp⟩
theorem q_tup {x1} (h : QA X cl W es g) : QE X cl W (.Tuple es x1 pos) (sTup g) := by
  refine PEimp (pe_tup h) fun σ H Q ⟨w, env, ev, h⟩ => ?_
  refine ⟨w, env, ev, okA.mono (okA.bind h) fun vs H1 s1 ⟨rs, qs, _, _, h1⟩ => ?_⟩
  split at h1
  · rename_i ds e
    split at h1
    · rename_i hl
      have r := qs.rep (fun a ha => ev.there ha) e
      refine ⟨by rw [r.len]; exact line_le hl, fun p hp => h1 _ _ (same_upd hp) (.tup (SqT.of upd_same) (r.same (same_upd hp)))⟩
    · exact h1.elim
  · exact h1.elim
theorem q_lst (h : QA X cl W es g) : QE X cl W (.List es pos) (sLst g) := by
  refine PEimp (pe_lst h) fun σ H Q ⟨w, env, ev, h⟩ => ?_
  refine ⟨w, env, ev, okA.mono (okA.bind h) fun vs H1 s1 ⟨rs, qs, _, _, h1⟩ => ?_⟩
  split at h1
  · rename_i ds e
    split at h1
    · rename_i hl
      have r := qs.rep (fun a ha => ev.there ha) e
      refine ⟨by rw [r.len]; exact line_le hl, fun p hp => h1 _ _ (same_upd hp) (rv_nw r (Same.refl _) hp)⟩
    · exact h1.elim
  · exact h1.elim
end
end DV

/-! DV3: operators over data -/
namespace DV
open PySem PySem.Spec L2

/-! ### deep equality -/
mutual
def D.py : D → PyData
  | .non => .none
  | .bl b => .bool b
  | .int i => .int i
  | .str x => .str x
  | .tup xs => .tuple (pyL xs)
  | .lst xs => .list (pyL xs)
  | .kl xs => .list (pyL xs)
  | .dct _ => .none
  | .op _ => .none
  | .exc _ _ => .none
def pyL : List D → List PyData
  | [] => []
  | x :: xs => x.py :: pyL xs
end
def strOk (x : Str) : Bool := x.cps.all (· < 0x110000)
/-- plain data to a depth -/
def D.ok : Nat → D → Bool
  | _, .non => true
  | _, .bl _ => true
  | _, .int _ => true
  | _, .str x => PyData.strOk x
  | n + 1, .tup xs => xs.all (D.ok n)
  | n + 1, .lst xs => xs.all (D.ok n)
  | n + 1, .kl xs => xs.all (D.ok n)
  | _, _ => false
theorem py_canLay : ∀ (n : Nat) (d : D), d.ok n = true → d.py.canLay0 = true ∧ d.py.depth ≤ n
  | _, .non, _ => by simp [D.py, PyData.canLay0, PyData.depth]
  | _, .bl _, _ => by simp [D.py, PyData.canLay0, PyData.depth]
  | _, .int _, _ => by simp [D.py, PyData.canLay0, PyData.depth]
  | n, .str x, h => by
    have h' : PyData.strOk x = true := by cases n <;> simpa [D.ok] using h
    simp [D.py, PyData.canLay0, PyData.depth, h']
  | 0, .tup xs, h => by simp [D.ok] at h
  | 0, .lst xs, h => by simp [D.ok] at h
  | 0, .kl xs, h => by simp [D.ok] at h
  | n + 1, .tup xs, h => by
    have h' : ∀ x ∈ xs, D.ok n x = true := by simpa [D.ok] using h
    have := go n xs h'
    simp [D.py, PyData.canLay0, PyData.depth, this.1]
    exact this.2
  | n + 1, .lst xs, h => by
    have h' : ∀ x ∈ xs, D.ok n x = true := by simpa [D.ok] using h
    have := go n xs h'
    simp [D.py, PyData.canLay0, PyData.depth, this.1]
    exact this.2
  | n + 1, .kl xs, h => by
    have h' : ∀ x ∈ xs, D.ok n x = true := by simpa [D.ok] using h
    have := go n xs h'
    simp [D.py, PyData.canLay0, PyData.depth, this.1]
    exact this.2
  | n, .dct _, h => by cases n <;> simp [D.ok] at h
  | n, .op _, h => by cases n <;> simp [D.ok] at h
  | n, .exc _ _, h => by cases n <;> simp [D.ok] at h
where go (n : Nat) : ∀ xs : List D, (∀ x ∈ xs, D.ok n x = true) → PyData.canLayAll0 (pyL xs) = true ∧ PyData.depthAll (pyL xs) ≤ n
  | [], _ => by simp [pyL, PyData.canLayAll0, PyData.depthAll]
  | x :: xs, h => by
    have h1 := py_canLay n x (h x List.mem_cons_self)
    have h2 := go n xs fun y hy => h y (List.mem_cons_of_mem _ hy)
    simp [pyL, PyData.canLayAll0, PyData.depthAll, h1.1, h2.1]
    omega
theorem ok_shaped {n : Nat} {d : D} (h : d.ok n = true) (hn : n ≤ 64) : SeqAt.shaped d.py = true := by
  have := py_canLay n d h
  unfold SeqAt.shaped
  rw [this.1, decide_eq_true (Nat.le_trans this.2 hn)]
  rfl

section
variable {K : KJ} {H : Hp} {O : Addr → Prop}
mutual
theorem Rep.dp : ∀ {n : Nat} {v : V} {d : D}, Rep K H O v d → d.ok n = true → Dp K H v d.py
  | _, _, _, .non, _ => by rw [D.py]; exact .non
  | _, _, _, .bl b, _ => by rw [D.py]; exact .bl b
  | _, _, _, .int i, _ => by rw [D.py]; exact .int i
  | _, _, _, .str x, _ => by rw [D.py]; exact .str x
  | n + 1, _, _, .tup h r, e => by rw [D.py]; exact .tup h (RepL.dp (n := n) r (by simpa [D.ok] using e))
  | n + 1, _, _, .lst _ h r, e => by rw [D.py]; exact .lst (.inl h) (RepL.dp (n := n) r (by simpa [D.ok] using e))
  | n + 1, _, _, .kl h r, e => by rw [D.py]; exact .lst h.sq (RepL.dp (n := n) r (by simpa [D.ok] using e))
  | 0, _, _, .tup h r, e => by simp [D.ok] at e
  | 0, _, _, .lst _ h r, e => by simp [D.ok] at e
  | 0, _, _, .kl h r, e => by simp [D.ok] at e
  | n, _, _, .dct _ _ _, e => by cases n <;> simp [D.ok] at e
  | n, _, _, .op _, e => by cases n <;> simp [D.ok] at e
  | n, _, _, .exc _ _ _, e => by cases n <;> simp [D.ok] at e
theorem RepL.dp : ∀ {n : Nat} {vs : List V} {ds : List D}, RepL K H O vs ds → (∀ x ∈ ds, D.ok n x = true) → DpAll K H vs (pyL ds)
  | _, _, _, .nil, _ => by rw [pyL]; exact .nil
  | _, _, _, .cons h r, e => by rw [pyL]; exact .cons (h.dp (e _ List.mem_cons_self)) (r.dp fun x hx => e x (List.mem_cons_of_mem _ hx))
end
theorem Vw.dp {n : Nat} {v : V} {d : D} (h : Vw K H O v d) (e : d.ok n = true) : Dp K H v d.py := by
  rcases h with h | ⟨p, rfl, h⟩
  · exact h.dp e
  · cases d with
    | lst ds =>
      obtain ⟨vs, q, r⟩ := h
      cases n with
      | zero => simp [D.ok] at e
      | succ n => rw [D.py]; exact .lst (SqL.of q) (r.dp (n := n) (by simpa [D.ok] using e))
    | dct ds => cases n <;> simp [D.ok] at e
    | _ => exact h.elim
end
def eqD (a b : D) : Bool := PyData.eqv a.py b.py
def dEq (a b : D) : Option Rv := if a.ok 9 && b.ok 9 then some (.sh (.bl (eqD a b))) else none
def dNe (a b : D) : Option Rv := if a.ok 9 && b.ok 9 then some (.sh (.bl (!eqD a b))) else none
theorem od_eq {K : PySem.W.Frag} : OpD K (rEqD K) dEq := by
  intro J P H x y d e z Q hx hy hs _ h
  unfold dEq at hs
  split at hs
  · rename_i c
    rw [Bool.and_eq_true] at c
    cases hs
    exact ⟨_, _, hx.dp c.1, hy.dp c.2, ok_shaped c.1 (by decide), ok_shaped c.2 (by decide), h _ H (Same.refl _) (.bl _)⟩
  · cases hs
theorem od_ne {K : PySem.W.Frag} : OpD K (rNeD K) dNe := by
  intro J P H x y d e z Q hx hy hs _ h
  unfold dNe at hs
  split at hs
  · rename_i c
    rw [Bool.and_eq_true] at c
    cases hs
    exact ⟨_, _, hx.dp c.1, hy.dp c.2, ok_shaped c.1 (by decide), ok_shaped c.2 (by decide), h _ H (Same.refl _) (.bl _)⟩
  · cases hs
/-- x in a list or tuple -/
def dIn (a b : D) : Option Rv :=
  match b with
  | .lst ds => if a.ok 8 && (D.lst ds).ok 9 then some (.sh (.bl (ds.any fun z => eqD z a))) else none
  | _ => none
def dNotIn (a b : D) : Option Rv :=
  match b with
  | .lst ds => if a.ok 8 && (D.lst ds).ok 9 then some (.sh (.bl (!ds.any fun z => eqD z a))) else none
  | _ => none
theorem any_pyL (a : D) : ∀ ds : List D, ((pyL ds).any fun z => PyData.eqv z a.py) = ds.any fun z => eqD z a
  | [] => rfl
  | d :: ds => by
    rw [pyL, List.any_cons, List.any_cons, any_pyL a ds]
    rfl
theorem od_in {K : PySem.W.Frag} : OpD K (rInD K) dIn := by
  intro J P H x y d e z Q hx hy hs _ h
  match e, hs, hy with
  | .lst ds, hs, hy =>
    unfold dIn at hs
    simp only at hs
    split at hs
    · rename_i c
      rw [Bool.and_eq_true] at c
      cases hs
      have hy' := hy.dp c.2
      have sy := ok_shaped c.2 (by decide)
      rw [D.py] at hy' sy
      exact ⟨_, _, hx.dp c.1, hy', ok_shaped c.1 (by decide), sy, by rw [any_pyL]; exact h _ H (Same.refl _) (.bl _)⟩
    · cases hs
theorem od_notIn {K : PySem.W.Frag} : OpD K (rNotInD K) dNotIn := by
  intro J P H x y d e z Q hx hy hs _ h
  match e, hs, hy with
  | .lst ds, hs, hy =>
    unfold dNotIn at hs
    simp only at hs
    split at hs
    · rename_i c
      rw [Bool.and_eq_true] at c
      cases hs
      have hy' := hy.dp c.2
      have sy := ok_shaped c.2 (by decide)
      rw [D.py] at hy' sy
      exact ⟨_, _, hx.dp c.1, hy', ok_shaped c.1 (by decide), sy, by rw [any_pyL]; exact h _ H (Same.refl _) (.bl _)⟩
    · cases hs

/-! ### ints -/
section
variable {K : PySem.W.Frag}
theorem od_I {C : Int → Int → Prop} {g : Int → Int → Int} {s : D → D → Option Rv} (hs : ∀ d e z, s d e = some z → ∃ i j, d = .int i ∧ e = .int j ∧ C i j ∧ z = .sh (.int (g i j))) : OpD K (rI C fun i j => .int (g i j)) s := by
  intro J P H x y d e z Q hx hy h _ q
  obtain ⟨i, j, rfl, rfl, c, rfl⟩ := hs d e z h
  exact ⟨i, j, hx.int_, hy.int_, c, q _ H (Same.refl _) (.int _)⟩
theorem od_I0 {g : Int → Int → Int} {s : D → D → Option Rv} (hs : ∀ d e z, s d e = some z → ∃ i j, d = .int i ∧ e = .int j ∧ z = .sh (.int (g i j))) : OpD K (rI0 fun i j => .int (g i j)) s := by
  intro J P H x y d e z Q hx hy h _ q
  obtain ⟨i, j, rfl, rfl, rfl⟩ := hs d e z h
  exact ⟨i, j, hx.int_, hy.int_, q _ H (Same.refl _) (.int _)⟩
theorem od_B0 {g : Int → Int → Bool} {s : D → D → Option Rv} (hs : ∀ d e z, s d e = some z → ∃ i j, d = .int i ∧ e = .int j ∧ z = .sh (.bl (g i j))) : OpD K (rI0 fun i j => .bl (g i j)) s := by
  intro J P H x y d e z Q hx hy h _ q
  obtain ⟨i, j, rfl, rfl, rfl⟩ := hs d e z h
  exact ⟨i, j, hx.int_, hy.int_, q _ H (Same.refl _) (.bl _)⟩
def d2 (g : Int → Int → Option Rv) (a b : D) : Option Rv :=
  match a with
  | .int i => (match b with
    | .int j => g i j
    | _ => none)
  | _ => none
@[simp] theorem d2_int {g : Int → Int → Option Rv} {i j : Int} : d2 g (.int i) (.int j) = g i j := rfl
theorem d2_some {g : Int → Int → Option Rv} {a b : D} {z : Rv} (h : d2 g a b = some z) : ∃ i j, a = .int i ∧ b = .int j ∧ g i j = some z := by
  unfold d2 at h
  split at h
  · split at h
    · exact ⟨_, _, rfl, rfl, h⟩
    · cases h
  · cases h
abbrev rvI (i : Int) : Option Rv := some (.sh (.int i))
abbrev rvB (b : Bool) : Option Rv := some (.sh (.bl b))
def dSub := d2 fun i j => rvI (i - j)
def dMul := d2 fun i j => if i.natAbs.log2 + j.natAbs.log2 < 1000000 then rvI (i * j) else none
def dDiv := d2 fun i j => if j ≠ 0 ∧ j.natAbs.log2 < 9000 then rvI (i.fdiv j) else none
def dMod := d2 fun i j => if j ≠ 0 then rvI (i.fmod j) else none
def dPow := d2 fun i j => if 0 ≤ j ∧ j ≤ 1000000 ∧ i.natAbs < 18446744073709551616 then rvI (i ^ j.toNat) else none
def dShl := d2 fun i j => if 0 ≤ j ∧ (Builtin.Int.intBits i : Int) + j ≤ 134217728 then rvI (i * 2 ^ j.toNat) else none
def dShr := d2 fun i j => if 0 ≤ j then rvI (i / 2 ^ j.toNat) else none
def dAnd := d2 fun i j => rvI (Builtin.bitAnd i j)
def dOr := d2 fun i j => rvI (Builtin.bitOr i j)
def dXor := d2 fun i j => rvI (Builtin.bitXor i j)
theorem od_sub : OpD K (rI0 fun i j => .int (i - j)) dSub := od_I0 fun d e z h => by
  obtain ⟨i, j, rfl, rfl, h⟩ := d2_some h
  cases h
  exact ⟨i, j, rfl, rfl, rfl⟩
theorem od_and : OpD K (rI0 fun i j => .int (Builtin.bitAnd i j)) dAnd := od_I0 fun d e z h => by
  obtain ⟨i, j, rfl, rfl, h⟩ := d2_some h
  cases h
  exact ⟨i, j, rfl, rfl, rfl⟩
theorem od_or : OpD K (rI0 fun i j => .int (Builtin.bitOr i j)) dOr := od_I0 fun d e z h => by
  obtain ⟨i, j, rfl, rfl, h⟩ := d2_some h
  cases h
  exact ⟨i, j, rfl, rfl, rfl⟩
theorem od_xor : OpD K (rI0 fun i j => .int (Builtin.bitXor i j)) dXor := od_I0 fun d e z h => by
  obtain ⟨i, j, rfl, rfl, h⟩ := d2_some h
  cases h
  exact ⟨i, j, rfl, rfl, rfl⟩
theorem ite_some {c : Prop} [Decidable c] {x z : Rv} (h : (if c then some x else none) = some z) : c ∧ z = x := by
  split at h
  · cases h; exact ⟨by assumption, rfl⟩
  · cases h
theorem od_mul : OpD K (rI CMulW fun i j => .int (i * j)) dMul := od_I fun d e z h => by
  obtain ⟨i, j, rfl, rfl, h⟩ := d2_some h
  obtain ⟨c, rfl⟩ := ite_some h
  exact ⟨i, j, rfl, rfl, c, rfl⟩
def CDivX (_ j : Int) : Prop := j ≠ 0 ∧ j.natAbs.log2 < 9000
theorem op_fdivX {X : Cx} : OpR X (binaryOp .FloorDiv) (rI CDivX fun i j => .int (i.fdiv j)) := opI fun i j _ _ _ _ _ hc q =>
  PyProof.Rows.floordiv_int hc.1 q (.inl (PyProof.noPylong_of_log2 hc.2))
theorem od_div : OpD K (rI CDivX fun i j => .int (i.fdiv j)) dDiv := od_I fun d e z h => by
  obtain ⟨i, j, rfl, rfl, h⟩ := d2_some h
  obtain ⟨c, rfl⟩ := ite_some h
  exact ⟨i, j, rfl, rfl, c, rfl⟩
theorem od_mod : OpD K (rI (fun _ j => j ≠ 0) fun i j => .int (i.fmod j)) dMod := od_I fun d e z h => by
  obtain ⟨i, j, rfl, rfl, h⟩ := d2_some h
  obtain ⟨c, rfl⟩ := ite_some h
  exact ⟨i, j, rfl, rfl, c, rfl⟩
theorem od_pow : OpD K (rI CPow fun i j => .int (i ^ j.toNat)) dPow := od_I fun d e z h => by
  obtain ⟨i, j, rfl, rfl, h⟩ := d2_some h
  obtain ⟨c, rfl⟩ := ite_some h
  exact ⟨i, j, rfl, rfl, ⟨c.1, c.2.1, by have := c.2.2; have e : (2 : Nat) ^ 64 = 18446744073709551616 := by decide
                                         omega⟩, rfl⟩
theorem od_shl : OpD K (rI CShl fun i j => .int (i * 2 ^ j.toNat)) dShl := od_I fun d e z h => by
  obtain ⟨i, j, rfl, rfl, h⟩ := d2_some h
  obtain ⟨c, rfl⟩ := ite_some h
  exact ⟨i, j, rfl, rfl, ⟨c.1, by have := c.2; have e : (2 : Int) ^ 27 = 134217728 := by decide
                                  omega⟩, rfl⟩
theorem od_shr : OpD K (rI (fun _ j => 0 ≤ j) fun i j => .int (i / 2 ^ j.toNat)) dShr := od_I fun d e z h => by
  obtain ⟨i, j, rfl, rfl, h⟩ := d2_some h
  obtain ⟨c, rfl⟩ := ite_some h
  exact ⟨i, j, rfl, rfl, c, rfl⟩
/-- + : ints, texts, lists, tuples (the left one not empty) -/
def dAdd : D → D → Option Rv
  | .int i, .int j => rvI (i + j)
  | .str x, .str y => if x.length + y.length ≤ 100000 then some (.sh (.str (x ++ y))) else none
  | .tup (x :: xs), .tup ys => if (x :: xs).length + ys.length ≤ 100000 then some (.sh (.tup (x :: xs ++ ys))) else none
  | .lst xs, .lst ys => if xs.length + ys.length ≤ 100000 then some (.nw (.lst (xs ++ ys))) else none
  | _, _ => none
/-- two lists together, whichever may be changed or not -/
def rCatR : R2 := fun x y H Q => ∃ l b xs zs, x = .ref l ∧ y = .ref b ∧ Rd H l (.lst xs) ∧ Rd H b (.lst zs) ∧ xs.length + zs.length ≤ sizeLine ∧ ∀ p, H p = none → Q (.ref p) (upd H p (.lst (xs ++ zs)))
theorem rd_list {X : Cx} {pins : List (Addr × Obj)} {σ : L2.St} {H : Hp} {s : Shared} {l : Addr} {xs : List V} (I : Inv X pins σ H s) (h : Rd H l (.lst xs)) : ∃ (its : List Value) (n : Nat), Vals xs its ∧ s.heap.get? l = some { cls := .type "list", data := .seq its.toArray n } := by
  obtain ⟨_, its, n, r, e⟩ := h.ok I.hok
  exact ⟨its, n, r, e⟩
theorem op_catR {X : Cx} : OpR X (binaryOp .Add) rCatR := by
  intro pins s σ H x y v u Q I rx ry ⟨l, b, xs, zs, ex, ey, h1, h2, hz, q⟩
  subst ex ey
  cases rx
  cases ry
  obtain ⟨i1, n1, r1, e1⟩ := rd_list I h1
  obtain ⟨i2, n2, r2, e2⟩ := rd_list I h2
  have g1 := r1.length
  have g2 := r2.length
  refine PySem.P.add_list e1 e2 ?_ (by simp only [List.size_toArray]; omega)
  have eq : i1.toArray ++ i2.toArray = (i1 ++ i2).toArray := by simp
  rw [eq]
  refine ⟨.ref _, _, I.laid (t' := s.toks) (o := .lst (xs ++ zs)) (fun c w e => Heap.get?_push_of_some _ e) (Nat.le_refl _) ?_, rfl, q _ (I.hok.fresh (Nat.le_refl _))⟩
  exact ⟨by rw [List.length_append]; exact hz, _, 0, r1.append r2, Heap.get?_push_size _ rfl⟩
theorem od_add : OpD K (fun x y H Q => (rI0 (fun i j => .int (i + j)) x y H Q) ∨ (∃ i j, x = .str i ∧ y = .str j ∧ i.length + j.length ≤ sizeLine ∧ Q (.str (i ++ j)) H) ∨ rCatT K x y H Q ∨ rCatR x y H Q) dAdd := by
  intro J P H x y d e z Q hx hy hs _ h
  unfold dAdd at hs
  split at hs
  · cases hs
    exact .inl ⟨_, _, hx.int_, hy.int_, h _ H (Same.refl _) (.int _)⟩
  · obtain ⟨c, rfl⟩ := ite_some hs
    exact .inr (.inl ⟨_, _, hx.str_, hy.str_, line_le c, h _ H (Same.refl _) (.str _)⟩)
  · obtain ⟨c, rfl⟩ := ite_some hs
    obtain ⟨a, vs, rfl, ha, ra⟩ := hx.tup_
    obtain ⟨b, ws, rfl, hb, rb⟩ := hy.tup_
    refine .inr (.inr (.inl ⟨a, b, vs, ws, rfl, rfl, ha, hb, ?_, ?_, ?_, ?_⟩))
    · intro e; subst e; cases ra
    · rw [ra.len, rb.len]; exact line_le c
    · intro e
      subst e
      cases rb
      rw [List.append_nil] at h
      exact h _ H (Same.refl _) (.tup ha ra)
    · intro _ p hp
      exact h _ _ (same_upd hp) (.tup (SqT.of upd_same) ((ra.append rb).same (same_upd hp)))
  · obtain ⟨c, rfl⟩ := ite_some hs
    obtain ⟨a, vs, rfl, ha, ra⟩ := hx.lstR
    obtain ⟨b, ws, rfl, hb, rb⟩ := hy.lstR
    exact .inr (.inr (.inr ⟨a, b, vs, ws, rfl, rfl, ha, hb, by rw [ra.len, rb.len]; exact line_le c, fun p hp => h _ _ (same_upd hp) (rv_nw (ra.append rb) (Same.refl _) hp)⟩))
  · cases hs
theorem op_addX {X : Cx} : OpR X (binaryOp .Add) (fun x y H Q => (rI0 (fun i j => .int (i + j)) x y H Q) ∨ (∃ i j, x = .str i ∧ y = .str j ∧ i.length + j.length ≤ sizeLine ∧ Q (.str (i ++ j)) H) ∨ rCatT X.K x y H Q ∨ rCatR x y H Q) :=
  op_add.or (op_add_str.or (op_catT.or op_catR))
def dLt := d2 fun i j => rvB (decide (i < j))
def dLe := d2 fun i j => rvB (decide (i ≤ j))
def dGt := d2 fun i j => rvB (decide (j < i))
def dGe := d2 fun i j => rvB (decide (j ≤ i))
theorem od_lt : OpD K (rI0 fun i j => .bl (decide (i < j))) dLt := od_B0 fun d e z h => by
  obtain ⟨i, j, rfl, rfl, h⟩ := d2_some h
  cases h
  exact ⟨i, j, rfl, rfl, rfl⟩
theorem od_le : OpD K (rI0 fun i j => .bl (decide (i ≤ j))) dLe := od_B0 fun d e z h => by
  obtain ⟨i, j, rfl, rfl, h⟩ := d2_some h
  cases h
  exact ⟨i, j, rfl, rfl, rfl⟩
theorem od_gt : OpD K (rI0 fun i j => .bl (decide (j < i))) dGt := od_B0 fun d e z h => by
  obtain ⟨i, j, rfl, rfl, h⟩ := d2_some h
  cases h
  exact ⟨i, j, rfl, rfl, rfl⟩
theorem od_ge : OpD K (rI0 fun i j => .bl (decide (j ≤ i))) dGe := od_B0 fun d e z h => by
  obtain ⟨i, j, rfl, rfl, h⟩ := d2_some h
  cases h
  exact ⟨i, j, rfl, rfl, rfl⟩

/-! ### items -/
def dIx : D → D → Option Rv
  | .lst ds, .int i => (atI ds i).map .sh
  | .kl ds, .int i => (atI ds i).map .sh
  | .tup ds, .int i => (atI ds i).map .sh
  | .str x, .int i => if x.length ≤ 100000 then (atI x.cps.toList i).map fun c => .sh (.str ⟨#[c]⟩) else none
  | _, _ => none
theorem RepL.atI {K : KJ} {H : Hp} {P : Addr → Prop} {vs : List V} {ds : List D} {i : Int} {d : D} (r : RepL K H P vs ds) (e : atI ds i = some d) : ∃ v, L2.atI vs i = some v ∧ Rep K H P v d := by
  unfold L2.atI at e ⊢
  rw [r.len]
  cases q : ixN ds.length i with
  | none => rw [q] at e; cases e
  | some j =>
    rw [q] at e
    exact r.get (i := j) e
theorem od_ix : OpD K (rIx K) dIx := by
  intro J P H x y d e z Q hx hy hs _ h
  unfold dIx at hs
  split at hs
  · rename_i ds i
    cases q : atI ds i with
    | none => rw [q] at hs; cases hs
    | some d =>
      rw [q] at hs
      cases hs
      obtain ⟨a, vs, rfl, ha, ra⟩ := hx.lst_
      obtain ⟨v, e1, rv⟩ := ra.atI q
      exact .inl ⟨a, vs, i, v, rfl, hy.int_, ha, e1, h v H (Same.refl _) rv⟩
  · rename_i ds i
    cases q : atI ds i with
    | none => rw [q] at hs; cases hs
    | some d =>
      rw [q] at hs
      cases hs
      obtain ⟨a, vs, rfl, ha, ra⟩ := hx.kl_
      obtain ⟨v, e1, rv⟩ := ra.atI q
      exact .inl ⟨a, vs, i, v, rfl, hy.int_, ha, e1, h v H (Same.refl _) rv⟩
  · rename_i ds i
    cases q : atI ds i with
    | none => rw [q] at hs; cases hs
    | some d =>
      rw [q] at hs
      cases hs
      obtain ⟨a, vs, rfl, ha, ra⟩ := hx.tup_
      obtain ⟨v, e1, rv⟩ := ra.atI q
      exact .inr (.inl ⟨a, vs, i, v, rfl, hy.int_, ha, e1, h v H (Same.refl _) rv⟩)
  · rename_i x' i
    split at hs
    · rename_i c
      cases q : atI x'.cps.toList i with
      | none => rw [q] at hs; cases hs
      | some k =>
        rw [q] at hs
        cases hs
        exact .inr (.inr ⟨_, i, k, hx.str_, hy.int_, line_le c, q, h _ H (Same.refl _) (.str _)⟩)
    · cases hs
  · cases hs
end
section
variable {X : Cx} {cl : Nat → Addr} {W : WJ} {a b c e : Expr} {f g : SE} {pos : Pos}
abbrev sAdd := sBin dAdd
abbrev sSub := sBin dSub
abbrev sMul := sBin dMul
abbrev sDiv := sBin dDiv
abbrev sMod := sBin dMod
abbrev sPow := sBin dPow
abbrev sShl := sBin dShl
abbrev sShr := sBin dShr
abbrev sBAnd := sBin dAnd
abbrev sBOr := sBin dOr
abbrev sBXor := sBin dXor
abbrev sEq := sBin dEq
abbrev sNe := sBin dNe
abbrev sLt := sBin dLt
abbrev sLe := sBin dLe
abbrev sGt := sBin dGt
abbrev sGe := sBin dGe
abbrev sIn := sBin dIn
abbrev sNotIn := sBin dNotIn
abbrev sIx := sBin dIx
abbrev sNeg := sUn dNeg
theorem q_add (ha : QE X cl W a f) (hb : QE X cl W b g) : QE X cl W (.BinOp a .Add b pos) (sAdd f g) := q_op op_addX od_add ha hb
theorem q_sub (ha : QE X cl W a f) (hb : QE X cl W b g) : QE X cl W (.BinOp a .Sub b pos) (sSub f g) := q_op op_sub od_sub ha hb
theorem q_mul (ha : QE X cl W a f) (hb : QE X cl W b g) : QE X cl W (.BinOp a .Mult b pos) (sMul f g) := q_op op_mulW od_mul ha hb
theorem q_div (ha : QE X cl W a f) (hb : QE X cl W b g) : QE X cl W (.BinOp a .FloorDiv b pos) (sDiv f g) := q_op op_fdivX od_div ha hb
theorem q_mod (ha : QE X cl W a f) (hb : QE X cl W b g) : QE X cl W (.BinOp a .Mod b pos) (sMod f g) := q_op op_modN od_mod ha hb
theorem q_pow (ha : QE X cl W a f) (hb : QE X cl W b g) : QE X cl W (.BinOp a .Pow b pos) (sPow f g) := q_op op_pow od_pow ha hb
theorem q_shl (ha : QE X cl W a f) (hb : QE X cl W b g) : QE X cl W (.BinOp a .LShift b pos) (sShl f g) := q_op op_shlW od_shl ha hb
theorem q_shr (ha : QE X cl W a f) (hb : QE X cl W b g) : QE X cl W (.BinOp a .RShift b pos) (sShr f g) := q_op op_shr od_shr ha hb
theorem q_band (ha : QE X cl W a f) (hb : QE X cl W b g) : QE X cl W (.BinOp a .BitAnd b pos) (sBAnd f g) := q_op op_and od_and ha hb
theorem q_bor (ha : QE X cl W a f) (hb : QE X cl W b g) : QE X cl W (.BinOp a .BitOr b pos) (sBOr f g) := q_op op_or od_or ha hb
theorem q_bxor (ha : QE X cl W a f) (hb : QE X cl W b g) : QE X cl W (.BinOp a .BitXor b pos) (sBXor f g) := q_op op_xor od_xor ha hb
theorem q_neg (ha : QE X cl W a f) : QE X cl W (.UnaryOp .USub a pos) (sNeg f) := q_un un_neg ud_neg ha
theorem q_eq (hu : X.A.units + 64 < cLine) (ha : QE X cl W a f) (hb : QE X cl W b g) : QE X cl W (.Compare a [.Eq] [b] pos) (sEq f g) := q_cmp (op_eqD hu) od_eq ha hb (nomark _)
theorem q_ne (hu : X.A.units + 64 < cLine) (ha : QE X cl W a f) (hb : QE X cl W b g) : QE X cl W (.Compare a [.NotEq] [b] pos) (sNe f g) := q_cmp (op_neD hu) od_ne ha hb (nomark _)
theorem q_lt (ha : QE X cl W a f) (hb : QE X cl W b g) : QE X cl W (.Compare a [.Lt] [b] pos) (sLt f g) := q_cmp op_lt od_lt ha hb (nomark _)
theorem q_le (ha : QE X cl W a f) (hb : QE X cl W b g) : QE X cl W (.Compare a [.LtE] [b] pos) (sLe f g) := q_cmp op_le od_le ha hb (nomark _)
theorem q_gt (ha : QE X cl W a f) (hb : QE X cl W b g) : QE X cl W (.Compare a [.Gt] [b] pos) (sGt f g) := q_cmp op_gt od_gt ha hb (nomark _)
theorem q_ge (ha : QE X cl W a f) (hb : QE X cl W b g) : QE X cl W (.Compare a [.GtE] [b] pos) (sGe f g) := q_cmp op_ge od_ge ha hb (nomark _)
theorem qt_eq (hu : X.A.units + 64 < cLine) (ha : QE X cl W a f) (hb : QE X cl W b g) : QT X cl W (.Compare a [.Eq] [b] pos) (sEq f g) := qt_cmp (op_eqD hu) od_eq ha hb (nomark _)
theorem qt_ne (hu : X.A.units + 64 < cLine) (ha : QE X cl W a f) (hb : QE X cl W b g) : QT X cl W (.Compare a [.NotEq] [b] pos) (sNe f g) := qt_cmp (op_neD hu) od_ne ha hb (nomark _)
theorem qt_lt (ha : QE X cl W a f) (hb : QE X cl W b g) : QT X cl W (.Compare a [.Lt] [b] pos) (sLt f g) := qt_cmp op_lt od_lt ha hb (nomark _)
theorem qt_le (ha : QE X cl W a f) (hb : QE X cl W b g) : QT X cl W (.Compare a [.LtE] [b] pos) (sLe f g) := qt_cmp op_le od_le ha hb (nomark _)
theorem qt_gt (ha : QE X cl W a f) (hb : QE X cl W b g) : QT X cl W (.Compare a [.Gt] [b] pos) (sGt f g) := qt_cmp op_gt od_gt ha hb (nomark _)
theorem qt_ge (ha : QE X cl W a f) (hb : QE X cl W b g) : QT X cl W (.Compare a [.GtE] [b] pos) (sGe f g) := qt_cmp op_ge od_ge ha hb (nomark _)
theorem q_ix (ha : QE X cl W a f) (hb : QE X cl W b g) (hs : PlainIx b) : QE X cl W (.Subscript a b pos) (sIx f g) := PEimp (pe_ix ix_seq ha hb hs) fun σ H Q h => tE_bin od_ix h
end
end DV

/-! DV4: calls, what a def computes, plain statements -/
namespace DV
open PySem PySem.Spec L2

/-! ### flat data -/
mutual
def D.flat : D → Bool
  | .tup xs => flatL xs
  | .lst _ => false
  | .dct _ => false
  | .exc _ _ => false
  | .kl _ => false
  | _ => true
def flatL : List D → Bool
  | [] => true
  | x :: xs => x.flat && flatL xs
end
theorem flatL_all : ∀ xs : List D, flatL xs = xs.all D.flat
  | [] => rfl
  | x :: xs => by rw [flatL, List.all_cons, flatL_all xs]
section
variable {K : KJ} {H : Hp} {O O' : Addr → Prop}
mutual
theorem Rep.free : ∀ {v : V} {d : D}, Rep K H O v d → d.flat = true → Rep K H O' v d
  | _, _, .non, _ => .non
  | _, _, .bl b, _ => .bl b
  | _, _, .int i, _ => .int i
  | _, _, .str x, _ => .str x
  | _, _, .tup h r, e => .tup h (RepL.free r (by simpa [D.flat] using e))
  | _, _, .lst _ h r, e => by simp [D.flat] at e
  | _, _, .kl h r, e => by simp [D.flat] at e
  | _, _, .dct _ _ _, e => by simp [D.flat] at e
  | _, _, .op v, _ => .op v
  | _, _, .exc _ _ _, e => by simp [D.flat] at e
theorem RepL.free : ∀ {vs : List V} {ds : List D}, RepL K H O vs ds → flatL ds = true → RepL K H O' vs ds
  | _, _, .nil, _ => .nil
  | _, _, .cons h r, e => by
    rw [flatL, Bool.and_eq_true] at e
    exact .cons (h.free e.1) (r.free e.2)
end
theorem RepD.free : ∀ {vs : List (Key × V)} {ds : List (Key × D)}, RepD K H O vs ds → (ds.all fun p => p.2.flat) = true → RepD K H O' vs ds
  | _, _, .nil, _ => .nil
  | _, _, .cons h r, e => by
    rw [List.all_cons, Bool.and_eq_true] at e
    exact .cons (h.free e.1) (RepD.free r e.2)
end

theorem RepF.free : ∀ {da : Option Addr} {fs : List (Str × D)}, RepF K H O da fs → (fs.all fun p => p.2.flat) = true → RepF K H O' da fs
  | _, _, .nil, _ => .nil
  | _, _, .cons h l r q, e => by
    rw [List.all_cons, Bool.and_eq_true] at e
    exact .cons h l (r.free e.1) (RepF.free q e.2)
/-! ### a def of the text -/
inductive Out where
  | nx (env : En) | rt (r : Rv) | bk (env : En) | ct (env : En) | err (n : Nat) (fs : List (Str × D)) (env : En)
abbrev SS := En → Option Out
/-- what a def computes: n parameters, m slots -/
def fnSem (n m : Nat) (body : SS) : List D → Option Er := fun ds =>
  if ds.length = n then
    match body (ds.map .sh ++ List.replicate (m - n) .no) with
    | some (.rt (.sh d)) => vS d
    | some (.rt (.nw d)) => vN d
    | some (.nx _) => vS .non
    | some (.err n fs _) => some (.err n fs)
    | _ => none
  else none
def spOf (K : PySem.W.Frag) (cl : Nat → Addr) (n : Nat) (g : List D → Option Er) : Sp := fun vs H Q E =>
  ∃ O ds, (∀ a, O a → H a ≠ none) ∧ RepL ⟨K, J0⟩ H O vs ds ∧ ds.length = n ∧ okE ⟨K, J0⟩ cl (fun c da _ H => E c da H) O [] H Q (g ds)

/-! ### a call -/
def Rv.isBw : Rv → Bool
  | .bw _ => true
  | _ => false
def callRes (bw : Bool) (x : Option Er) : Option Er :=
  if bw then
    match x with
    | some (.val (.sh d)) => if d.flat then vS d else none
    | some (.val (.nw (.lst ds))) => if flatL ds then vN (.lst ds) else none
    | some (.val (.nw (.dct ds))) => if ds.all fun p => p.2.flat then vN (.dct ds) else none
    | some (.err n fs) => if fs.all fun p => p.2.flat then some (.err n fs) else none
    | _ => none
  else x
/-- f(args), dvs the defaults -/
def sCallD (g : List D → Option Er) (dvs : List D) (args : SA) : SE := fun env => bindA (args env) fun rs => callRes (rs.any Rv.isBw) (g (rs.map Rv.d ++ dvs))
abbrev sCall (g : List D → Option Er) (args : SA) : SE := sCallD g [] args
theorem RvsR.call {K : KJ} {P : Addr → Prop} {H H1 : Hp} {vs : List V} {rs : List Rv} (hd : ∀ a, P a → H a ≠ none) (h : RvsR K P H H1 vs rs) :
    ∃ O : Addr → Prop, (∀ a, O a → P a) ∧ RepL K H1 O vs (rs.map Rv.d) ∧ (rs.any Rv.isBw = false → ∀ a, P a → O a) := by
  refine ⟨fun a => P a ∧ ¬ ∃ (i : Nat) (d : D), rs[i]? = some (.bw d) ∧ vs[i]? = some (.ref a), fun a z => z.1, ?_, fun e a z => ⟨z, fun ⟨i, d, q, _⟩ => ?_⟩⟩
  · have key : ∀ (vs' : List V) (rs' : List Rv), RvsR K P H H1 vs' rs' → (∀ a, (∃ (i : Nat) (d : D), rs'[i]? = some (.bw d) ∧ vs'[i]? = some (.ref a)) → ∃ (i : Nat) (d : D), rs[i]? = some (.bw d) ∧ vs[i]? = some (.ref a)) →
        RepL K H1 (fun a => P a ∧ ¬ ∃ (i : Nat) (d : D), rs[i]? = some (.bw d) ∧ vs[i]? = some (.ref a)) vs' (rs'.map Rv.d) := by
      intro vs' rs' h'
      induction h' with
      | nil => intro _; exact .nil
      | cons hr hs ih =>
        rename_i v vs' r rs'
        intro sub
        refine .cons ?_ (ih fun a ⟨i, d, q1, q2⟩ => sub a ⟨i + 1, d, by simpa using q1, by simpa using q2⟩)
        cases r with
        | sh d => exact Rep.anti hr fun a z => z.1
        | nw d =>
          obtain ⟨p, rfl, n, o⟩ := hr
          exact ((o.anti fun a z => .inl z).rep fun z => hd p z n).anti fun a z => z.1
        | bw d =>
          obtain ⟨p, rfl, o⟩ := hr
          exact (o.anti fun a z => z.1).rep fun z => z.2 (sub p ⟨0, d, rfl, rfl⟩)
    exact key vs rs h fun a z => z
  · have : (rs.any Rv.isBw) = true := List.any_eq_true.mpr ⟨_, List.mem_of_getElem? q, rfl⟩
    rw [e] at this; cases this
theorem okE.call {K : KJ} {cl : Nat → Addr} {W : WX} {P O : Addr → Prop} {σ : L2.St} {H : Hp} {Q : VK} {b : Bool} {x : Option Er} (h : okE K cl W P σ H Q (callRes b x)) (hb : b = false → ∀ a, P a → O a) :
    okE K cl (fun c da _ H => W c da σ H) O [] H Q x := by
  cases b with
  | false =>
    have h' : okE K cl W P σ H Q x := h
    have ho := hb rfl
    match x, h' with
    | some (.val (.sh d)), h' => exact fun v H' s q => h' v H' s (Rep.anti q ho)
    | some (.val (.bw d)), h' => exact fun v H' s ⟨p, e, o⟩ => h' v H' s ⟨p, e, o.anti ho⟩
    | some (.val (.nw d)), h' => exact fun v H' s ⟨p, e, n, o⟩ => h' v H' s ⟨p, e, n, o.anti fun a z => z.elim (fun z => .inl (ho a z)) .inr⟩
    | some (.err n fs), h' => exact fun da H' s q => h' da H' s (q.anti ho)
  | true =>
    unfold callRes at h
    simp only [if_pos] at h
    split at h
    · split at h
      · rename_i c
        exact fun v H' s q => h v H' s (Rep.free q c)
      · exact h.elim
    · split at h
      · rename_i c
        exact fun v H' s ⟨p, e, n, vs, e2, o⟩ => h v H' s ⟨p, e, n, vs, e2, o.free c⟩
      · exact h.elim
    · split at h
      · rename_i c
        exact fun v H' s ⟨p, e, n, vs, e2, o⟩ => h v H' s ⟨p, e, n, vs, e2, o.free c⟩
      · exact h.elim
    · split at h
      · rename_i c
        exact fun da H' s q => h da H' s ⟨RepF.free q.1 c, q.2⟩
      · exact h.elim
    · exact h.elim
section
variable {X : Cx} {cl : Nat → Addr} {Y : WX} {W : WJ} {e : Expr} {es : List Expr} {f : SE} {g : SA} {pos p : Pos} {x : Str} {k n : Nat} {fa : Addr} {fd : FuncData} {ps : List Str} {sem : List D → Option Er}
theorem q_call (F : FnOk X.prog X.w X.K X.mg X.base (L2.CX X.prog X.w) k fa fd ps (spOf X.K cl n sem)) (hn : ∀ ds, sem ds ≠ none → ds.length = n) (hr : Room k X.A) (tk : Takes X Y) (hg : Gl X x) (hm : X.mg x = some (.ref fa)) (hk : PySem.W.keepIn X.K (.ref fa) = true) (hb : Binds X.K fd ps [])
    (ha : QA X cl ⟨Y, J0⟩ (e :: es) g) (hdb : (x == ("__debug__" : Str)) = false := by decide) (he : starEach (e :: es) X.env = (false, eval e X.env) :: starEach es X.env := by rfl) (hpl : (backTo pos (starEach es X.env)).any (·.1) = false := by rfl) :
    QE X cl ⟨Y, J0⟩ (.Call (.Name x p) (e :: es) [] pos) (sCall sem g) := by
  refine PEimp (pe_callS F hr hg hm hk hb (fun σ => passAt tk σ) ha hdb he hpl) fun σ H Q ⟨w, env, ev, h⟩ => ?_
  refine ⟨w, env, ev, okA.mono (okA.bind h) fun vs H1 s1 ⟨rs, qs, _, _, h1⟩ => ?_⟩
  obtain ⟨O, hO, hrep, hno⟩ := qs.call (fun a ha => ev.there ha)
  rw [List.append_nil] at h1
  have h2 := h1.call (O := O) hno
  refine ⟨O, rs.map Rv.d, fun a z => (ev.same s1).there (hO a z), hrep, ?_, h2⟩
  refine hn _ fun z => ?_
  rw [z] at h2
  exact h2
theorem q_call0 (F : FnOk X.prog X.w X.K X.mg X.base (L2.CX X.prog X.w) k fa fd ps (spOf X.K cl 0 sem)) (hr : Room k X.A) (tk : ∀ E : XK, Passes (L2.CX X.prog X.w) X E) (hg : Gl X x) (hm : X.mg x = some (.ref fa)) (hk : PySem.W.keepIn X.K (.ref fa) = true) (hb : Binds X.K fd ps [])
    (hdb : (x == ("__debug__" : Str)) = false := by decide) (hs : ∀ n fs, sem [] ≠ some (.err n fs)) :
    QE X cl ⟨Y, J0⟩ (.Call (.Name x p) [] [] pos) (sCall sem aNil) := by
  refine PEimp (pe_call0 (dvs := []) (E := fun _ _ _ => False) F hr hg hm hk hb .nil (tk _) hdb) fun σ H Q ⟨w, env, ev, h⟩ => ?_
  refine ⟨OO w.O env σ, [], fun a z => ev.there z, .nil, rfl, ?_⟩
  have h' : okE ⟨X.K, J0⟩ cl Y (OO w.O env σ) σ H Q (callRes false (sem [])) := h
  have h2 := h'.call (O := OO w.O env σ) fun _ a z => z
  cases e : sem [] with
  | none => rw [e] at h2; exact h2
  | some r =>
    cases r with
    | val r => rw [e] at h2; exact h2
    | err n fs => exact (hs n fs e).elim

/-! ### built-in functions -/
inductive VwL (K : KJ) (H : Hp) (O : Addr → Prop) : List V → List D → Prop where
  | nil : VwL K H O [] []
  | cons {v : V} {vs : List V} {d : D} {ds : List D} : Vw K H O v d → VwL K H O vs ds → VwL K H O (v :: vs) (d :: ds)
theorem RvsR.vw {K : KJ} {P : Addr → Prop} {H H1 : Hp} : ∀ {vs : List V} {rs : List Rv}, RvsR K P H H1 vs rs → VwL K H1 P vs (rs.map Rv.d)
  | _, _, .nil => .nil
  | _, _, .cons h r => .cons h.vw r.vw
def CaD (K : PySem.W.Frag) (r : List V → Hp → VK → Prop) (s : List D → Option Rv) : Prop :=
  ∀ (J : V → Nat → Option Addr → Prop) (P : Addr → Prop) (H : Hp) (xs : List V) (ds : List D) (z : Rv) (Q : VK), VwL ⟨K, J⟩ H P xs ds → s ds = some z → (∀ a, P a → H a ≠ none) → (∀ v H', Same H H' → RvR ⟨K, J⟩ P H H' v z → Q v H') → r xs H Q
def sBlt (s : List D → Option Rv) (args : SA) : SE := fun env => bindA (args env) fun rs => (s (rs.map Rv.d)).map .val
theorem tE_blt {K : PySem.W.Frag} {r : List V → Hp → VK → Prop} {s : List D → Option Rv} {σ : L2.St} {H : Hp} {Q : VK} (hd : CaD K r s) (h : tE K cl W (sBlt s g) σ H Q) : tCB r (tA K cl W g) σ H Q := by
  obtain ⟨w, env, ev, h⟩ := h
  refine ⟨w, env, ev, okA.mono (okA.bind h) fun vs H1 s1 ⟨rs, qs, _, _, h1⟩ => ?_⟩
  cases e : s (rs.map Rv.d) with
  | none => rw [e] at h1; exact h1.elim
  | some z =>
    rw [e] at h1
    exact hd _ _ H1 vs _ z Q qs.vw e (fun a ha => (ev.same s1).there ha) h1
theorem q_blt {id : String} {r : List V → Hp → VK → Prop} {s : List D → Option Rv} (hc : CallR X (.builtin id) r) (hd : CaD X.K r s) (hg : Gl X x) (hm : X.mg x = none) (hv : bootBuiltins x = some (.builtin id)) (ha : QA X cl W (e :: es) g) (hn : x ≠ "__name__" := by decide) (hdb : (x == ("__debug__" : Str)) = false := by decide)
    (he : starEach (e :: es) X.env = (false, eval e X.env) :: starEach es X.env := by rfl) (hpl : (backTo pos (starEach es X.env)).any (·.1) = false := by rfl) : QE X cl W (.Call (.Name x p) (e :: es) [] pos) (sBlt s g) :=
  PEimp (pe_callB hc hg hm hv ha hn hdb he hpl) fun σ H Q h => tE_blt hd h
theorem q_bty {id : String} {r : List V → Hp → VK → Prop} {s : List D → Option Rv} (hc : CallR X (.type id) r) (hd : CaD X.K r s) (hg : Gl X x) (hm : X.mg x = none) (hv : bootBuiltins x = some (.type id)) (ha : QA X cl W (e :: es) g) (hn : x ≠ "__name__" := by decide) (hdb : (x == ("__debug__" : Str)) = false := by decide)
    (he : starEach (e :: es) X.env = (false, eval e X.env) :: starEach es X.env := by rfl) (hpl : (backTo pos (starEach es X.env)).any (·.1) = false := by rfl) : QE X cl W (.Call (.Name x p) (e :: es) [] pos) (sBlt s g) :=
  PEimp (pe_callTy hc hg hm hv ha hn hdb he hpl) fun σ H Q h => tE_blt hd h

theorem vwl1 {K : KJ} {H : Hp} {P : Addr → Prop} {xs : List V} {d : D} (h : VwL K H P xs [d]) : ∃ x, xs = [x] ∧ Vw K H P x d := by
  cases h with
  | cons h r => cases r; exact ⟨_, rfl, h⟩
theorem vwl2 {K : KJ} {H : Hp} {P : Addr → Prop} {xs : List V} {d e : D} (h : VwL K H P xs [d, e]) : ∃ x y, xs = [x, y] ∧ Vw K H P x d ∧ Vw K H P y e := by
  cases h with
  | cons h r =>
    cases r with
    | cons h' r => cases r; exact ⟨_, _, rfl, h, h'⟩
def dLen : List D → Option Rv
  | [.lst ds] => rvI ds.length
  | [.kl ds] => rvI ds.length
  | [.tup ds] => rvI ds.length
  | [.str x] => if x.length ≤ 100000 then rvI x.length else none
  | _ => none
theorem cd_len {K : PySem.W.Frag} : CaD K (fun xs H Q => ∃ x n, xs = [x] ∧ LenV K x H n ∧ Q (.int n) H) dLen := by
  intro J P H xs ds z Q hx hs _ h
  unfold dLen at hs
  split at hs
  · rename_i ds
    cases hs
    obtain ⟨x, rfl, h1⟩ := vwl1 hx
    obtain ⟨a, vs, rfl, ha, ra⟩ := h1.lst_
    refine ⟨_, vs.length, rfl, .inl ⟨vs, ha, rfl⟩, ?_⟩
    rw [ra.len]
    exact h _ H (Same.refl _) (.int _)
  · rename_i ds
    cases hs
    obtain ⟨x, rfl, h1⟩ := vwl1 hx
    obtain ⟨a, vs, rfl, ha, ra⟩ := h1.kl_
    refine ⟨_, vs.length, rfl, .inl ⟨vs, ha, rfl⟩, ?_⟩
    rw [ra.len]
    exact h _ H (Same.refl _) (.int _)
  · rename_i ds
    cases hs
    obtain ⟨x, rfl, h1⟩ := vwl1 hx
    obtain ⟨a, vs, rfl, ha, ra⟩ := h1.tup_
    refine ⟨_, vs.length, rfl, .inr ⟨vs, ha, rfl⟩, ?_⟩
    rw [ra.len]
    exact h _ H (Same.refl _) (.int _)
  · obtain ⟨c, rfl⟩ := ite_some hs
    obtain ⟨x, rfl, h1⟩ := vwl1 hx
    cases h1.str_
    exact ⟨_, _, rfl, ⟨line_le c, rfl⟩, h _ H (Same.refl _) (.int _)⟩
  · cases hs
def dAbs : List D → Option Rv
  | [.int i] => rvI (if i < 0 then -i else i)
  | _ => none
theorem cd_abs {K : PySem.W.Frag} : CaD K (fun xs H Q => ∃ i, xs = [.int i] ∧ Q (.int (if i < 0 then -i else i)) H) dAbs := by
  intro J P H xs ds z Q hx hs _ h
  unfold dAbs at hs
  split at hs
  · cases hs
    obtain ⟨x, rfl, h1⟩ := vwl1 hx
    cases h1.int_
    exact ⟨_, rfl, h _ H (Same.refl _) (.int _)⟩
  · cases hs
def dMax2 : List D → Option Rv
  | [.int i, .int j] => rvI (if j > i then j else i)
  | _ => none
def dMin2 : List D → Option Rv
  | [.int i, .int j] => rvI (if j < i then j else i)
  | _ => none
theorem cd_max2 {K : PySem.W.Frag} : CaD K (fun xs H Q => ∃ i j, xs = [.int i, .int j] ∧ Q (.int (if j > i then j else i)) H) dMax2 := by
  intro J P H xs ds z Q hx hs _ h
  unfold dMax2 at hs
  split at hs
  · cases hs
    obtain ⟨x, y, rfl, h1, h2⟩ := vwl2 hx
    cases h1.int_
    cases h2.int_
    exact ⟨_, _, rfl, h _ H (Same.refl _) (.int _)⟩
  · cases hs
theorem cd_min2 {K : PySem.W.Frag} : CaD K (fun xs H Q => ∃ i j, xs = [.int i, .int j] ∧ Q (.int (if j < i then j else i)) H) dMin2 := by
  intro J P H xs ds z Q hx hs _ h
  unfold dMin2 at hs
  split at hs
  · cases hs
    obtain ⟨x, y, rfl, h1, h2⟩ := vwl2 hx
    cases h1.int_
    cases h2.int_
    exact ⟨_, _, rfl, h _ H (Same.refl _) (.int _)⟩
  · cases hs
/-- divmod by a small positive divisor -/
def dDivmod : List D → Option Rv
  | [.int i, .int j] => if 0 < j ∧ j < 1073741824 then some (.sh (.tup [.int (i / j), .int (i % j)])) else none
  | _ => none
theorem cd_divmod {K : PySem.W.Frag} : CaD K (fun xs H Q => ∃ i j, xs = [.int i, .int j] ∧ CDiv i j ∧ ∀ p, H p = none → Q (.ref p) (upd H p (.tup [.int (i / j), .int (i % j)]))) dDivmod := by
  intro J P H xs ds z Q hx hs _ h
  unfold dDivmod at hs
  split at hs
  · obtain ⟨c, rfl⟩ := ite_some hs
    obtain ⟨x, y, rfl, h1, h2⟩ := vwl2 hx
    cases h1.int_
    cases h2.int_
    exact ⟨_, _, rfl, c, fun p hp => h _ _ (same_upd hp) (.tup (SqT.of upd_same) (.cons (.int _) (.cons (.int _) .nil)))⟩
  · cases hs
/-- int(..) of an int, a truth -/
def dInt : List D → Option Rv
  | [.int i] => rvI i
  | [.bl k] => rvI (if k then 1 else 0)
  | _ => none
theorem cd_int {K : PySem.W.Frag} : CaD K (fun xs H Q => (∃ i, xs = [.int i] ∧ Q (.int i) H) ∨ ∃ k, xs = [.bl k] ∧ Q (.int (if k then 1 else 0)) H) dInt := by
  intro J P H xs ds z Q hx hs _ h
  unfold dInt at hs
  split at hs
  · cases hs
    obtain ⟨x, rfl, h1⟩ := vwl1 hx
    cases h1.int_
    exact .inl ⟨_, rfl, h _ H (Same.refl _) (.int _)⟩
  · cases hs
    obtain ⟨x, rfl, h1⟩ := vwl1 hx
    cases h1.bl_
    exact .inr ⟨_, rfl, h _ H (Same.refl _) (.int _)⟩
  · cases hs
/-- list(..) of a list, a tuple -/
def dList : List D → Option Rv
  | [.lst ds] => some (.nw (.lst ds))
  | [.kl ds] => some (.nw (.lst ds))
  | [.tup ds] => some (.nw (.lst ds))
  | _ => none
theorem cd_list {K : PySem.W.Frag} : CaD K (fun xs H Q => ∃ p ys, xs = [.ref p] ∧ (SqL K H p ys ∨ SqT K H p ys) ∧ ∀ l, H l = none → Q (.ref l) (upd H l (.lst ys))) dList := by
  intro J P H xs ds z Q hx hs _ h
  unfold dList at hs
  split at hs
  · cases hs
    obtain ⟨x, rfl, h1⟩ := vwl1 hx
    obtain ⟨a, vs, rfl, ha, ra⟩ := h1.lst_
    exact ⟨a, vs, rfl, .inl ha, fun l hl => h _ _ (same_upd hl) (rv_nw ra (Same.refl _) hl)⟩
  · cases hs
    obtain ⟨x, rfl, h1⟩ := vwl1 hx
    obtain ⟨a, vs, rfl, ha, ra⟩ := h1.kl_
    exact ⟨a, vs, rfl, .inl ha, fun l hl => h _ _ (same_upd hl) (rv_nw ra (Same.refl _) hl)⟩
  · cases hs
    obtain ⟨x, rfl, h1⟩ := vwl1 hx
    obtain ⟨a, vs, rfl, ha, ra⟩ := h1.tup_
    exact ⟨a, vs, rfl, .inr ha, fun l hl => h _ _ (same_upd hl) (rv_nw ra (Same.refl _) hl)⟩
  · cases hs
/-- tuple(..) -/
def dTuple : List D → Option Rv
  | [.lst ds] => some (.sh (.tup ds))
  | [.kl ds] => some (.sh (.tup ds))
  | [.tup ds] => some (.sh (.tup ds))
  | _ => none
theorem cd_tuple {K : PySem.W.Frag} : CaD K (fun xs H Q => ∃ p ys, xs = [.ref p] ∧ ((SqL K H p ys ∧ ∀ l, H l = none → Q (.ref l) (upd H l (.tup ys))) ∨ (SqT K H p ys ∧ Q (.ref p) H))) dTuple := by
  intro J P H xs ds z Q hx hs _ h
  unfold dTuple at hs
  split at hs
  · cases hs
    obtain ⟨x, rfl, h1⟩ := vwl1 hx
    obtain ⟨a, vs, rfl, ha, ra⟩ := h1.lst_
    exact ⟨a, vs, rfl, .inl ⟨ha, fun l hl => h _ _ (same_upd hl) (.tup (SqT.of upd_same) (ra.same (same_upd hl)))⟩⟩
  · cases hs
    obtain ⟨x, rfl, h1⟩ := vwl1 hx
    obtain ⟨a, vs, rfl, ha, ra⟩ := h1.kl_
    exact ⟨a, vs, rfl, .inl ⟨ha, fun l hl => h _ _ (same_upd hl) (.tup (SqT.of upd_same) (ra.same (same_upd hl)))⟩⟩
  · cases hs
    obtain ⟨x, rfl, h1⟩ := vwl1 hx
    obtain ⟨a, vs, rfl, ha, ra⟩ := h1.tup_
    exact ⟨a, vs, rfl, .inr ⟨ha, h _ H (Same.refl _) (.tup ha ra)⟩⟩
  · cases hs
/-- isinstance(x, T), T a built-in class -/
def tyOf : D → Option String
  | .non => some "NoneType"
  | .bl _ => some "bool"
  | .int _ => some "int"
  | .str _ => some "str"
  | .tup _ => some "tuple"
  | .lst _ => some "list"
  | .kl _ => some "list"
  | .dct _ => some "dict"
  | .op _ => none
  | .exc _ _ => none
def dIsi : List D → Option Rv
  | [d, .op (.ty n)] => (match tyOf d with
    | some t => (kitB t n).map fun b => .sh (.bl b)
    | none => none)
  | _ => none
theorem Vw.tyX {K : KJ} {H : Hp} {P : Addr → Prop} {v : V} {d : D} {t : String} (h : Vw K H P v d) (e : tyOf d = some t) : TyX K.k H v (.type t) := by
  have lst : ∀ {a : Addr} {vs : List V}, SqL K.k H a vs → TyX K.k H (.ref a) (.type "list") := fun h => by
    rcases h with (h | ⟨o, h⟩) | ⟨o, its, n, h, c, _⟩
    · exact .base (.lst h)
    · exact .base (.frz h)
    · exact .kList h c
  have tup : ∀ {a : Addr} {vs : List V}, SqT K.k H a vs → TyX K.k H (.ref a) (.type "tuple") := fun h => by
    rcases h with (h | ⟨o, h⟩) | ⟨o, its, n, h, c, _⟩
    · exact .base (.tup h)
    · exact .fTuple h
    · exact .kTuple h c
  cases d with
  | non => cases e; cases h.non_; exact .base .non
  | bl b => cases e; cases h.bl_; exact .base (.bl b)
  | int i => cases e; cases h.int_; exact .base (.int i)
  | str x => cases e; cases h.str_; exact .base (.str x)
  | tup ds => cases e; obtain ⟨a, vs, rfl, ha, _⟩ := h.tup_; exact tup ha
  | lst ds => cases e; obtain ⟨a, vs, rfl, ha, _⟩ := h.lst_; exact lst ha
  | kl ds => cases e; obtain ⟨a, vs, rfl, ha, _⟩ := h.kl_; exact lst ha
  | dct ds => cases e; obtain ⟨a, vs, rfl, ha, _⟩ := h.dct_; exact .base (.dK ha)
  | op v => cases e
  | exc n fs => cases e
theorem cd_isi {K : PySem.W.Frag} : CaD K (rIsi K) dIsi := by
  intro J P H xs ds z Q hx hs _ h
  unfold dIsi at hs
  split at hs
  · rename_i d n
    split at hs
    · rename_i t et
      cases ek : kitB t n with
      | none => rw [ek] at hs; cases hs
      | some b =>
        rw [ek] at hs
        cases hs
        obtain ⟨x, y, rfl, h1, h2⟩ := vwl2 hx
        cases h2.op_
        exact ⟨x, .ty n, .type t, .type n, b, rfl, .ty n, h1.tyX et, kit_ty ek, h _ H (Same.refl _) (.bl b)⟩
    · cases hs
  · cases hs
/-- a built-in class as a value -/
theorem q_ty {n : String} (hg : Gl X x) (hm : X.mg x = none) (hv : bootBuiltins x = some (.type n)) (hn : x ≠ "__name__" := by decide) (hd : (x == ("__debug__" : Str)) = false := by decide) : QE X cl W (.Name x pos) (sC (.op (.ty n))) :=
  q_const (pe_bltn (v := .ty n) hg hm hv rfl hn hd) fun _ _ _ => .op _
/-- a module's constant -/
theorem q_glob {v : V} {d : D} {u : Value} (hg : Gl X x) (hm : X.mg x = some u) (r : RelV v u) (rep : ∀ J H P, Rep ⟨X.K, J⟩ H P v d) (hd : (x == ("__debug__" : Str)) = false := by decide) : QE X cl W (.Name x pos) (sC d) :=
  q_const (pe_glob hg hm r hd) rep
end
end DV

/-! DV5: statements, defs -/
namespace DV
open PySem PySem.Spec L2

def okS (K : KJ) (cl : Nat → Addr) (W : WX) (w : Wd) (D : Ends) : Option Out → Prop
  | none => False
  | some (.nx env) => ∀ σ H, EnvR K w env σ H → D.nx σ H
  | some (.bk env) => ∀ σ H, EnvR K w env σ H → D.bk σ H
  | some (.ct env) => ∀ σ H, EnvR K w env σ H → D.ct σ H
  | some (.rt r) => ∀ v H, Same w.H0 H → RvR K w.O w.H0 H v r → D.rt v H
  | some (.err n fs env) => ∀ da σ H, EnvR K w env σ H → ExcAt K H (OO w.O env σ) da fs → W (.ref (cl n)) da σ H
def tS (K : PySem.W.Frag) (cl : Nat → Addr) (W : WJ) (f : SS) : TS := fun D σ H => ∃ w env, EnvR ⟨K, W.J⟩ w env σ H ∧ okS ⟨K, W.J⟩ cl W.w w D (f env)
abbrev QS (X : Cx) (cl : Nat → Addr) (W : WJ) (st : Stmt) (f : SS) : Prop := PS X st (tS X.K cl W f)
abbrev QSs (X : Cx) (cl : Nat → Addr) (W : WJ) (st : List Stmt) (f : SS) : Prop := PSs X st (tS X.K cl W f)

section
variable {K : KJ} {cl : Nat → Addr} {W : WX} {w : Wd} {D D' : Ends} {x : Option Out} {env env' : En} {σ : L2.St} {H H' H1 : Hp}
def bindO (x : Option Out) (k : En → Option Out) : Option Out :=
  match x with
  | some (.nx env) => k env
  | y => y
@[simp] theorem bindO_nx {k : En → Option Out} : bindO (some (.nx env)) k = k env := rfl
@[simp] theorem bindO_rt {k : En → Option Out} {r : Rv} : bindO (some (.rt r)) k = some (.rt r) := rfl
@[simp] theorem bindO_bk {k : En → Option Out} : bindO (some (.bk env)) k = some (.bk env) := rfl
@[simp] theorem bindO_ct {k : En → Option Out} : bindO (some (.ct env)) k = some (.ct env) := rfl
@[simp] theorem bindO_err {k : En → Option Out} {n : Nat} {fs : List (Str × DV.D)} : bindO (some (.err n fs env)) k = some (.err n fs env) := rfl
@[simp] theorem bindO_none {k : En → Option Out} : bindO none k = none := rfl
def bindS (x : Option Er) (env : En) (k : Rv → Option Out) : Option Out :=
  match x with
  | some (.val r) => k r
  | some (.err n fs) => some (.err n fs env)
  | none => none
@[simp] theorem bindS_val {k : Rv → Option Out} {r : Rv} : bindS (some (.val r)) env k = k r := rfl
@[simp] theorem bindS_err {k : Rv → Option Out} {n : Nat} {fs : List (Str × DV.D)} : bindS (some (.err n fs)) env k = some (.err n fs env) := rfl
@[simp] theorem bindS_none {k : Rv → Option Out} : bindS none env k = none := rfl
/-- from the statement's wish to the expression's -/
theorem okS.expr {x : Option Er} {k : Rv → Option Out} (ev : EnvR K w env σ H) (h : okS K cl W w D (bindS x env k)) {Q : VK}
    (i : ∀ r v H', x = some (.val r) → EnvR K w env σ H' → Same H H' → RvR K (OO w.O env σ) H H' v r → okS K cl W w D (k r) → Q v H') : okE K cl W (OO w.O env σ) σ H Q x := by
  match x, h with
  | some (.val r), h => exact fun v H' s q => i r v H' rfl (ev.same s) s q h
  | some (.err n fs), h => exact fun da H' s q => h da σ H' (ev.same s) q

/-! ### how the slots change -/
theorem EnvR.set_sh {i : Nat} {v : V} {d : DV.D} (ev : EnvR K w env σ H) (r : Rep K H (OO w.O env σ) v d) : EnvR K w (env.set i (.sh d)) (σ.set i (some v)) H := by
  by_cases hi : i < env.length
  · have hi' : i < σ.length := by rw [ev.len]; exact hi
    have back : ∀ (j : Nat) (s : Sl), j ≠ i → (env.set i (.sh d))[j]? = some s → env[j]? = some s := fun j s n e => by rw [List.getElem?_set_ne (Ne.symm n)] at e; exact e
    have ownne : ∀ (j : Nat) (d' : DV.D), (env.set i (.sh d))[j]? = some (.ow d') → j ≠ i := fun j d' e z => by
      subst z; rw [List.getElem?_set_self hi] at e; cases e
    have own : ∀ a, OO w.O (env.set i (.sh d)) (σ.set i (some v)) a → OO w.O env σ a := fun a z => by
      rcases z with z | ⟨j, d', e1, e2⟩
      · exact .inl z
      · have n := ownne j d' e1
        rw [List.getElem?_set_ne (Ne.symm n)] at e2
        exact .inr ⟨j, d', back j _ n e1, e2⟩
    refine ⟨by simpa using ev.len, ev.dom, ev.ext, fun j d' e => ?_, fun j d' e => ?_, fun j e => ?_, fun j k p d' e' h1 h2 h3 h4 => ?_⟩
    · by_cases n : j = i
      · subst n
        rw [List.getElem?_set_self hi] at e
        cases e
        exact ⟨v, List.getElem?_set_self hi', r.anti own⟩
      · obtain ⟨v', q, r'⟩ := ev.sh j d' (back j _ n e)
        exact ⟨v', by rw [List.getElem?_set_ne (Ne.symm n)]; exact q, r'.anti own⟩
    · have n := ownne j d' e
      obtain ⟨p, q, q2, r'⟩ := ev.ow j d' (back j _ n e)
      exact ⟨p, by rw [List.getElem?_set_ne (Ne.symm n)]; exact q, q2, r'.anti own⟩
    · have n : j ≠ i := fun z => by subst z; rw [List.getElem?_set_self hi] at e; cases e
      rw [List.getElem?_set_ne (Ne.symm n)]
      exact ev.pn j (back j _ n e)
    · have n1 := ownne j d' h1
      have n2 := ownne k e' h2
      rw [List.getElem?_set_ne (Ne.symm n1)] at h3
      rw [List.getElem?_set_ne (Ne.symm n2)] at h4
      exact ev.dist j k p d' e' (back j _ n1 h1) (back k _ n2 h2) h3 h4
  · have e1 : env.set i (.sh d) = env := List.set_eq_of_length_le (by omega)
    have e2 : σ.set i (some v) = σ := List.set_eq_of_length_le (by rw [ev.len]; omega)
    rw [e1, e2]
    exact ev
theorem EnvR.set_ow {i : Nat} {p : Addr} {d : DV.D} (ev : EnvR K w env σ H1) (hp : H1 p = none) (s : Same H1 H) (r : OwnAt K H (fun a => OO w.O env σ a ∨ a = p) p d) :
    EnvR K w (env.set i (.ow d)) (σ.set i (some (.ref p))) H := by
  have ev' := ev.same s
  by_cases hi : i < env.length
  · have hi' : i < σ.length := by rw [ev.len]; exact hi
    have back : ∀ (j : Nat) (s : Sl), j ≠ i → (env.set i (.ow d))[j]? = some s → env[j]? = some s := fun j s n e => by rw [List.getElem?_set_ne (Ne.symm n)] at e; exact e
    have own : ∀ a, OO w.O (env.set i (.ow d)) (σ.set i (some (.ref p))) a → OO w.O env σ a ∨ a = p := fun a z => by
      rcases z with z | ⟨j, d', e1, e2⟩
      · exact .inl (.inl z)
      · by_cases n : j = i
        · subst n
          rw [List.getElem?_set_self hi'] at e2
          cases e2
          exact .inr rfl
        · rw [List.getElem?_set_ne (Ne.symm n)] at e2
          exact .inl (.inr ⟨j, d', back j _ n e1, e2⟩)
    have own' : ∀ a, OO w.O (env.set i (.ow d)) (σ.set i (some (.ref p))) a → OO w.O env σ a ∨ H1 a = none := fun a z => (own a z).elim .inl fun e => .inr (by rw [e]; exact hp)
    have h0 : w.H0 p = none ∧ ¬ w.O p := ⟨Same.free ev.ext hp, fun z => ev.dom p z hp⟩
    have ownp : ∀ (j : Nat) (d' : DV.D) (q : Addr), env[j]? = some (.ow d') → σ[j]? = some (some (.ref q)) → q ≠ p := fun j d' q h1 h2 z => by
      subst z
      obtain ⟨_, o, e, _⟩ := ev.own ⟨j, d', h1, h2⟩
      rw [hp] at e; cases e
    refine ⟨by simpa using ev.len, ev'.dom, ev'.ext, fun j d' e => ?_, fun j d' e => ?_, fun j e => ?_, fun j k q d' e' h1 h2 h3 h4 => ?_⟩
    · by_cases n : j = i
      · subst n
        rw [List.getElem?_set_self hi] at e
        cases e
      · obtain ⟨v', q, r'⟩ := ev.sh j d' (back j _ n e)
        exact ⟨v', by rw [List.getElem?_set_ne (Ne.symm n)]; exact q, r'.move (.of_same s) own'⟩
    · by_cases n : j = i
      · subst n
        rw [List.getElem?_set_self hi] at e
        cases e
        exact ⟨p, List.getElem?_set_self hi', h0, r.anti own⟩
      · obtain ⟨q, h1, h2, r'⟩ := ev.ow j d' (back j _ n e)
        exact ⟨q, by rw [List.getElem?_set_ne (Ne.symm n)]; exact h1, h2, r'.move (.of_same s) own' fun o e => s _ o e⟩
    · have n : j ≠ i := fun z => by subst z; rw [List.getElem?_set_self hi] at e; cases e
      rw [List.getElem?_set_ne (Ne.symm n)]
      exact ev.pn j (back j _ n e)
    · by_cases n1 : j = i
      · by_cases n2 : k = i
        · rw [n1, n2]
        · subst n1
          rw [List.getElem?_set_self hi'] at h3
          rw [List.getElem?_set_ne (Ne.symm n2)] at h4
          cases h3
          exact (ownp k e' _ (back k _ n2 h2) h4 rfl).elim
      · rw [List.getElem?_set_ne (Ne.symm n1)] at h3
        by_cases n2 : k = i
        · subst n2
          rw [List.getElem?_set_self hi'] at h4
          cases h4
          exact (ownp j d' _ (back j _ n1 h1) h3 rfl).elim
        · rw [List.getElem?_set_ne (Ne.symm n2)] at h4
          exact ev.dist j k q d' e' (back j _ n1 h1) (back k _ n2 h2) h3 h4
  · have e1 : env.set i (.ow d) = env := List.set_eq_of_length_le (by omega)
    have e2 : σ.set i (some (.ref p)) = σ := List.set_eq_of_length_le (by rw [ev.len]; omega)
    rw [e1, e2]
    exact ev'
theorem EnvR.stp {i : Nat} {p : Addr} {d : DV.D} (o : HO) (ev : EnvR K w env σ H) (hi : env[i]? = some (.ow d)) (hp : σ[i]? = some (some (.ref p))) : Stp (OO w.O env σ) H (upd H p o) := fun a u' e c => by
  obtain ⟨h0, u, hu, mu⟩ := ev.own ⟨i, d, hi, hp⟩
  by_cases n : a = p
  · subst n
    rw [hu] at e; cases e
    rcases c with c | c
    · exact (c (.inr ⟨i, d, hi, hp⟩)).elim
    · exact (c mu).elim
  · rw [upd_ne n]; exact e
/-- the own thing in slot i changes -/
theorem EnvR.put {i : Nat} {p : Addr} {d d' : DV.D} {o : HO} (ev : EnvR K w env σ H) (hi : env[i]? = some (.ow d)) (hp : σ[i]? = some (some (.ref p))) (r : OwnAt K (upd H p o) (OO w.O env σ) p d') :
    EnvR K w (env.set i (.ow d')) σ (upd H p o) := by
  have hl : i < env.length := (List.getElem?_eq_some_iff.mp hi).1
  obtain ⟨h0, u, hu, mu⟩ := ev.own ⟨i, d, hi, hp⟩
  have stp := ev.stp o hi hp
  have back : ∀ (j : Nat) (s : Sl), j ≠ i → (env.set i (.ow d'))[j]? = some s → env[j]? = some s := fun j s n e => by rw [List.getElem?_set_ne (Ne.symm n)] at e; exact e
  have backo : ∀ (j : Nat) (e : DV.D), (env.set i (.ow d'))[j]? = some (.ow e) → ∃ e', env[j]? = some (.ow e') := fun j e h => by
    by_cases n : j = i
    · subst n; exact ⟨d, hi⟩
    · exact ⟨e, back j _ n h⟩
  have own : ∀ a, OO w.O (env.set i (.ow d')) σ a → OO w.O env σ a := fun a z => by
    rcases z with z | ⟨j, e, e1, e2⟩
    · exact .inl z
    · obtain ⟨e', q⟩ := backo j e e1
      exact .inr ⟨j, e', q, e2⟩
  refine ⟨by simpa using ev.len, (fun a z => by
      by_cases n : a = p
      · rw [n, upd_same]; exact fun z => nomatch z
      · rw [upd_ne n]; exact ev.dom a z), fun a u' e => ?_, fun j e h => ?_, fun j e h => ?_, fun j e => ?_, fun j k q e e' h1 h2 h3 h4 => ?_⟩
  · have n : a ≠ p := fun z => by rw [z, h0.1] at e; cases e
    rw [upd_ne n]
    exact ev.ext a u' e
  · have n : j ≠ i := fun z => by subst z; rw [List.getElem?_set_self hl] at h; cases h
    obtain ⟨v, q, r'⟩ := ev.sh j e (back j _ n h)
    exact ⟨v, q, r'.move stp fun a z => .inl (own a z)⟩
  · by_cases n : j = i
    · subst n
      rw [List.getElem?_set_self hl] at h
      cases h
      exact ⟨p, hp, h0, r.anti own⟩
    · obtain ⟨q, h1, h2, r'⟩ := ev.ow j e (back j _ n h)
      refine ⟨q, h1, h2, r'.move stp (fun a z => .inl (own a z)) fun u' e' => ?_⟩
      have nq : q ≠ p := fun z => n (ev.dist j i p e d (back j _ n h) hi (by rw [← z]; exact h1) hp)
      rw [upd_ne nq]; exact e'
  · have n : j ≠ i := fun z => by subst z; rw [List.getElem?_set_self hl] at e; cases e
    exact ev.pn j (back j _ n e)
  · obtain ⟨_, q1⟩ := backo j e h1
    obtain ⟨_, q2⟩ := backo k e' h2
    exact ev.dist j k q _ _ q1 q2 h3 h4
/-- all own things are let stand -/
def fz1 : Sl → Sl
  | .ow d => .sh d
  | s => s
def fz (env : En) : En := env.map fz1
theorem EnvR.fz (ev : EnvR K w env σ H) : EnvR K w (fz env) σ H := by
  have noown : ∀ (j : Nat) (d : DV.D), (DV.fz env)[j]? ≠ some (.ow d) := fun j d e => by
    unfold DV.fz at e
    rw [List.getElem?_map] at e
    cases q : env[j]? with
    | none => rw [q] at e; cases e
    | some s => rw [q] at e; cases s <;> cases e
  have own : ∀ a, OO w.O (DV.fz env) σ a → OO w.O env σ a := fun a z => by
    rcases z with z | ⟨j, d', e1, _⟩
    · exact .inl z
    · exact (noown j d' e1).elim
  have own1 : ∀ a, OO w.O (DV.fz env) σ a → w.O a := fun a z => by
    rcases z with z | ⟨j, d', e1, _⟩
    · exact z
    · exact (noown j d' e1).elim
  refine ⟨by rw [ev.len]; simp [DV.fz], ev.dom, ev.ext, fun j d e => ?_, fun j d e => (noown j d e).elim, fun j e => ?_, fun j k p d e h1 => (noown j d h1).elim⟩
  · unfold DV.fz at e
    rw [List.getElem?_map] at e
    cases q : env[j]? with
    | none => rw [q] at e; cases e
    | some s =>
      rw [q] at e
      cases s with
      | sh d' => cases e; obtain ⟨v, a, b⟩ := ev.sh j d q; exact ⟨v, a, b.anti own⟩
      | ow d' =>
        cases e
        obtain ⟨p, a, b, c⟩ := ev.ow j d q
        refine ⟨.ref p, a, (c.anti own).rep fun z => ?_⟩
        exact b.2 (own1 p z)
      | no => cases e
      | pn => cases e
  · unfold DV.fz at e
    rw [List.getElem?_map] at e
    cases q : env[j]? with
    | none => rw [q] at e; cases e
    | some s => rw [q] at e; cases s <;> first | exact ev.pn j q | cases e
end

section
variable {X : Cx} {cl : Nat → Addr} {Y : WX} {W : WJ} {a b c e : Expr} {st : Stmt} {rest sts : List Stmt} {f g h : SS} {fe : SE} {pos : Pos} {i : Nat} {x : Str}
def sSeq (f g : SS) : SS := fun env => bindO (f env) g
def sNext : SS := fun env => some (.nx env)
def sBreak : SS := fun env => some (.bk env)
def sCont : SS := fun env => some (.ct env)
theorem qs_nil : QSs X cl W [] sNext := PSsimp pss_nil fun D σ H ⟨w, env, ev, h⟩ => h σ H ev
theorem qs_cons (h1 : QS X cl W st f) (h2 : QSs X cl W rest g) : QSs X cl W (st :: rest) (sSeq f g) := by
  refine PSsimp (pss_cons h1 h2) fun D σ H ⟨w, env, ev, h⟩ => ?_
  refine ⟨w, env, ev, ?_⟩
  unfold sSeq at h
  match f env, h with
  | some (.nx env'), h => exact fun σ' H' ev' => ⟨w, env', ev', h⟩
  | some (.rt r), h => exact h
  | some (.bk _), h => exact h
  | some (.ct _), h => exact h
  | some (.err _ _ _), h => exact h
theorem qs_one (h1 : QS X cl W st f) : QSs X cl W [st] f := pss_one h1
theorem q_pass : QS X cl W (.Pass pos) sNext := PSimp ps_pass fun D σ H ⟨w, env, ev, h⟩ => h σ H ev
theorem q_break : QS X cl W (.Break pos) sBreak := PSimp ps_break fun D σ H ⟨w, env, ev, h⟩ => h σ H ev
theorem q_continue : QS X cl W (.Continue pos) sCont := PSimp ps_continue fun D σ H ⟨w, env, ev, h⟩ => h σ H ev
theorem q_never : QS X cl W st (fun _ => none) := PSimp ps_never fun D σ H ⟨w, env, ev, h⟩ => h
def sIte (c : SE) (f g : SS) : SS := fun env => bindS (c env) env fun r =>
  match r with
  | .sh (.bl true) => f env
  | .sh (.bl false) => g env
  | _ => none
theorem qs_if {ss1 ss2 : List Stmt} (hc : QT X cl W c fe) (h1 : QSs X cl W ss1 f) (h2 : QSs X cl W ss2 g) : QS X cl W (.If c ss1 ss2 pos) (sIte fe f g) := by
  refine PSimp (ps_if hc h1 h2) fun D σ H ⟨w, env, ev, h⟩ => ⟨w, env, ev, ?_⟩
  refine okS.expr ev h fun r v H' _ ev' s q k => ?_
  obtain ⟨b, e1, e2, _⟩ := bl_of (p := fun _ => True) q (fun _ _ => trivial) (fun hn => by
    split at k
    · exact hn true rfl
    · exact hn false rfl
    · exact k)
  subst e1 e2
  refine ⟨b, rfl, ?_⟩
  cases b with
  | true => rw [if_pos rfl]; exact ⟨w, env, ev', k⟩
  | false => rw [if_neg Bool.false_ne_true]; exact ⟨w, env, ev', k⟩
/-- x = e -/
def outSet (i : Nat) (env : En) : Rv → Option Out
  | .sh d => some (.nx (env.set i (.sh d)))
  | .nw d => some (.nx (env.set i (.ow d)))
  | .bw _ => none
def sSet (i : Nat) (fe : SE) : SS := fun env => bindS (fe env) env (outSet i env)
@[simp] theorem outSet_sh {i : Nat} {env : En} {d : D} : outSet i env (.sh d) = some (.nx (env.set i (.sh d))) := rfl
@[simp] theorem outSet_nw {i : Nat} {env : En} {d : D} : outSet i env (.nw d) = some (.nx (env.set i (.ow d))) := rfl
theorem set_ok {K : KJ} {w : Wd} {env : En} {σ : L2.St} {H H' : Hp} {v : V} {r : Rv} {D : Ends} (ev : EnvR K w env σ H) (s : Same H H') (q : RvR K (OO w.O env σ) H H' v r)
    (k : okS K cl Y w D (outSet i env r)) : D.nx (σ.set i (some v)) H' := by
  match r, q, k with
  | .sh d, q, k => exact k _ _ ((ev.same s).set_sh q)
  | .nw d, ⟨p, e, n, o⟩, k =>
    subst e
    exact k _ _ (ev.set_ow n s o)
theorem q_set (he : QE X cl W e fe) (hN : X.N.Nodup) (hi : X.N[i]? = some x) (hx : Loc X.env.scope x) {pos' : Pos} (hs : swapsWith e (some (.Name x pos')) pos.line X.env = pure false := by rfl) (hf : X.fn x = true ∨ X.env.scope.names.lookup x = some .local := by first | exact .inl rfl | exact .inr rfl | assumption) :
    QS X cl W (.Assign [.Name x pos'] e pos) (sSet i fe) := by
  refine PSimp (ps_set hN hi hx he hs hf) fun D σ H ⟨w, env, ev, h⟩ => ?_
  exact ⟨w, env, ev, okS.expr ev h fun r v H' _ ev' s q k => set_ok ev s q k⟩
/-- a value that is dropped -/
def sDrop (fe : SE) : SS := fun env => bindS (fe env) env fun _ => some (.nx env)
theorem q_drop (he : QE X cl W e fe) (hs : swapsWith e none pos.line X.env = pure false := by rfl) : QS X cl W (.Expr e pos) (sDrop fe) := by
  refine PSimp (ps_expr he hs) fun D σ H ⟨w, env, ev, h⟩ => ?_
  exact ⟨w, env, ev, okS.expr ev h fun r v H' _ ev' s q k => k _ _ ev'⟩
/-- return -/
def sRet (fe : SE) : SS := fun env => bindS (fe (fz env)) (fz env) fun r =>
  match r with
  | .sh d => some (.rt (.sh d))
  | .nw d => some (.rt (.nw d))
  | .bw _ => none
theorem q_ret (he : QE X cl W e fe) : QS X cl W (.Return (some e) pos) (sRet fe) := by
  refine PSimp (ps_ret he) fun D σ H ⟨w, env, ev, h⟩ => ?_
  have ev := ev.fz
  refine ⟨w, fz env, ev, okS.expr ev h fun r v H' _ ev' s q k => ?_⟩
  match r, q, k with
  | .sh d, q, k => exact k _ _ ev'.ext (Rep.anti q fun a z => .inl z)
  | .nw d, ⟨p, e, n, o⟩, k => exact k _ _ ev'.ext ⟨p, e, Same.free ev.ext n, o.anti fun a z => z.elim (fun z => .inl (.inl z)) .inr⟩
/-- return x -/
def sRetV (i : Nat) : SS := fun env =>
  match env[i]? with
  | some (.sh d) => some (.rt (.sh d))
  | some (.ow d) => some (.rt (.nw d))
  | _ => none
theorem q_retV (i : Nat) (hN : X.N[i]? = some x := by rfl) (hv : Vis X.env.scope x := by first | exact Or.inl rfl | exact Or.inr (Or.inl rfl) | exact Or.inr (Or.inr rfl)) (hd : (x == ("__debug__" : Str)) = false := by decide)
    (hcd : (x == ("__classdict__" : Str)) = false := by decide) {p' : Pos} : QS X cl W (.Return (some (.Name x p')) pos) (sRetV i) := by
  refine PSimp (ps_ret (pe_var hN hv hd hcd)) fun D σ H ⟨w, env, ev, h⟩ => ?_
  unfold sRetV at h
  split at h
  · rename_i d hd
    obtain ⟨v, e1, r⟩ := ev.sh i d hd
    exact ⟨v, e1, h v H ev.ext (Rep.anti r fun a z => .inl z)⟩
  · rename_i d hd
    obtain ⟨p, e1, h0, r⟩ := ev.ow i d hd
    exact ⟨_, e1, h _ H ev.ext ⟨p, rfl, h0.1, r.anti fun a z => z.elim .inl fun e => .inr ⟨i, d, hd, by rw [e]; exact e1⟩⟩⟩
  · exact h.elim
def sRetN : SS := fun _ => some (.rt (.sh .non))
theorem q_retN : QS X cl W (.Return none pos) sRetN := PSimp ps_retN fun D σ H ⟨w, env, ev, h⟩ => h _ H ev.ext .non

/-! ### targets -/
abbrev SG := D → En → Option En
def tG (K : KJ) (f : SG) : TG := fun v σ H Q => ∃ w env d env', EnvR K w env σ H ∧ Rep K H (OO w.O env σ) v d ∧ f d env = some env' ∧ ∀ σ', EnvR K w env' σ' H → Q σ' H
abbrev QG (X : Cx) (W : WJ) (t : Expr) (f : SG) : Prop := PG X t (tG ⟨X.K, W.J⟩ f)
theorem PGimp {X : Cx} {t : Expr} {g g' : TG} (h : PG X t g) (i : ∀ v σ H Q, g' v σ H Q → g v σ H Q) : PG X t g' := ⟨fun pins s σ H v u Q I r q => h.run pins s σ H v u Q I r (i _ _ _ _ q)⟩
theorem PGsimp {X : Cx} {t : List Expr} {g g' : TGs} (h : PGs X t g) (i : ∀ v σ H Q, g' v σ H Q → g v σ H Q) : PGs X t g' := ⟨fun pins s σ H v u Q I r q => h.run pins s σ H v u Q I r (i _ _ _ _ q)⟩
def gSet (i : Nat) : SG := fun d env => some (env.set i (.sh d))
theorem qg_name {i : Nat} {x : Str} (hN : X.N.Nodup) (hi : X.N[i]? = some x) (hx : Loc X.env.scope x) (hf : X.fn x = true ∨ X.env.scope.names.lookup x = some .local := by first | exact .inl rfl | exact .inr rfl | assumption) : QG X W (.Name x pos) (gSet i) := by
  refine PGimp (pg_name hN hi hx hf) fun v σ H Q ⟨w, env, d, env', ev, r, e, q⟩ => ?_
  cases e
  exact q _ (ev.set_sh r)
abbrev SGs := List D → En → Option En
def tGs (K : KJ) (f : SGs) : TGs := fun vs σ H Q => ∃ w env ds env', EnvR K w env σ H ∧ RepL K H (OO w.O env σ) vs ds ∧ f ds env = some env' ∧ ∀ σ', EnvR K w env' σ' H → Q σ' H
abbrev QGs (X : Cx) (W : WJ) (t : List Expr) (f : SGs) : Prop := PGs X t (tGs ⟨X.K, W.J⟩ f)
def gsNil : SGs := fun ds env => match ds with | [] => some env | _ => none
/-- names alone -/
def gsCons (i : Nat) (g : SGs) : SGs := fun ds env => match ds with | d :: ds => g ds (env.set i (.sh d)) | [] => none
theorem qgs_nil : QGs X W [] gsNil := by
  refine PGsimp pgs_nil fun vs σ H Q ⟨w, env, ds, env', ev, r, e, q⟩ => ?_
  cases r with
  | nil => cases e; exact ⟨rfl, q _ ev⟩
  | cons _ _ => cases e
theorem set_env_own {w : Wd} {env : En} {σ : L2.St} {i : Nat} {d : D} {v : V} {a : Addr} (ev : env.length = σ.length) (z : OO w.O (env.set i (.sh d)) (σ.set i (some v)) a) : OO w.O env σ a := by
  rcases z with z | ⟨j, d', e1, e2⟩
  · exact .inl z
  · by_cases n : j = i
    · subst n
      by_cases hl : j < env.length
      · rw [List.getElem?_set_self hl] at e1; cases e1
      · rw [List.getElem?_eq_none (by simpa using hl)] at e1; cases e1
    · rw [List.getElem?_set_ne (Ne.symm n)] at e1 e2
      exact .inr ⟨j, d', e1, e2⟩
theorem qgs_cons {i : Nat} {x : Str} {es : List Expr} {g : SGs} (hN : X.N.Nodup) (hi : X.N[i]? = some x) (hx : Loc X.env.scope x) (h2 : QGs X W es g)
    (hs : (assignEach (.Name x pos :: es) X.env).map (·.2) = assign (.Name x pos) X.env :: (assignEach es X.env).map (·.2) := by rfl) (hf : X.fn x = true ∨ X.env.scope.names.lookup x = some .local := by first | exact .inl rfl | exact .inr rfl | assumption) : QGs X W (.Name x pos :: es) (gsCons i g) := by
  refine PGsimp (pgs_cons (pg_name hN hi hx hf) h2 hs) fun vs σ H Q ⟨w, env, ds, env', ev, r, e, q⟩ => ?_
  cases r with
  | nil => cases e
  | cons r rr => exact ⟨_, _, rfl, w, _, _, env', ev.set_sh r, rr.anti fun a z => set_env_own ev.len.symm z, e, q⟩
def gTp (n : Nat) (g : SGs) : SG := fun d env =>
  match d with
  | .tup ds => if ds.length = n then g ds env else none
  | _ => none
theorem qg_tup {es : List Expr} {k : Nat} {t : SGs} {n : Nat} (hc : X.calm = true) (h : QGs X W es t)
    (hn : (assignEach es X.env).length = n := by rfl) (hst : (assignEach es X.env).findIdx? (·.1) = none := by rfl) : QG X W (.Tuple es k pos) (gTp n t) := by
  refine PGimp (pg_tup hc h hn hst) fun v σ H Q ⟨w, env, d, env', ev, r, e, q⟩ => ?_
  unfold gTp at e
  split at e
  · split at e
    · rename_i hl
      cases r with
      | tup hs r => exact ⟨_, _, rfl, hs, r.len.trans hl, w, env, _, env', ev, r, e, q⟩
    · cases e
  · cases e
/-- target = e, no name alone -/
def sAsg (fe : SE) (g : SG) : SS := fun env => bindS (fe env) env fun r =>
  match r.frz with
  | some d => (match g d env with
    | some env' => some (.nx env')
    | none => none)
  | none => none
theorem q_asg {tg : Expr} {g : SG} (he : QE X cl W e fe) (hg : QG X W tg g) (hs : swapsWithSole [tg] e pos.line X.env = pure false := by rfl) (hw : swappedStores [tg] e X.env = pure none := by rfl)
    (h1 : (assignEach [tg] X.env).map (·.2) = [assign tg X.env] := by rfl) : QS X cl W (.Assign [tg] e pos) (sAsg fe g) := by
  refine PSimp (ps_asg he hg hs hw h1) fun D σ H ⟨w, env, ev, h⟩ => ⟨w, env, ev, okS.expr ev h fun r v H' _ ev' s q k => ?_⟩
  split at k
  · rename_i d hd
    split at k
    · rename_i env' e
      exact ⟨w, env, d, env', ev', q.rep (fun a z => ev.there z) hd, e, fun σ' ev2 => k _ _ ev2⟩
    · exact k.elim
  · exact k.elim
/-- a, b = e1, e2 -/
def sPar (i j : Nat) (g : SA) : SS := fun env =>
  match g env with
  | some (.vals [r1, r2]) => (match r1.frz, r2.frz with
    | some d1, some d2 => some (.nx ((env.set i (.sh d1)).set j (.sh d2)))
    | _, _ => none)
  | some (.err n fs) => some (.err n fs env)
  | _ => none
theorem q_par {i j : Nat} {x y : Str} {a b : Expr} {ga : SA} {px py pt : Pos} {kt k2 pt2} (hc : X.calm = true) (hN : X.N.Nodup) (hi : X.N[i]? = some x) (hj : X.N[j]? = some y) (hij : i ≠ j)
    (hx : X.env.scope.names.lookup x = some .local) (hy : X.env.scope.names.lookup y = some .local) (ha : QA X cl W [a, b] ga)
    (hw : swappedStores [.Tuple [.Name x px, .Name y py] kt pt] (.Tuple [a, b] k2 pt2) X.env = pure (some [x, y]))
    (hs : swapsWithSole [.Tuple [.Name x px, .Name y py] kt pt] (.Tuple [a, b] k2 pt2) pos.line X.env = pure false := by rfl) :
    QS X cl W (.Assign [.Tuple [.Name x px, .Name y py] kt pt] (.Tuple [a, b] k2 pt2) pos) (sPar i j ga) := by
  refine PSimp (ps_par hc hN hi hj hij hx hy ha hw hs) fun D σ H ⟨w, env, ev, h⟩ => ⟨w, env, ev, ?_⟩
  unfold sPar at h
  split at h
  · rename_i r1 r2 eg
    rw [eg]
    intro vs H' s q
    split at h
    · rename_i d1 d2 e1 e2
      cases q with
      | cons q1 q =>
        cases q with
        | cons q2 q =>
          cases q
          have dm : ∀ a, OO w.O env σ a → H a ≠ none := fun a z => ev.there z
          have ev1 := (ev.same s).set_sh (i := i) (q1.rep dm e1)
          exact ⟨_, _, rfl, h _ _ (ev1.set_sh (i := j) ((q2.rep dm e2).anti fun a z => set_env_own ev.len.symm z))⟩
    · exact h.elim
  · rename_i n fs eg
    rw [eg]
    exact fun da H' s q => h da σ H' (ev.same s) q
  · exact h.elim
end

/-! ### lists and dicts that change -/
def putD {κ : Type} [DecidableEq κ] (kvs : List (κ × D)) (k : κ) (v : D) : List (κ × D) :=
  if (kvs.any fun kv => decide (kv.1 = k)) = true then kvs.map (fun kv => if kv.1 = k then (kv.1, v) else kv) else kvs ++ [(k, v)]
def valD {κ : Type} [DecidableEq κ] (kvs : List (κ × D)) (k : κ) : Option D := (kvs.find? fun kv => decide (kv.1 = k)).map (·.2)
section
variable {K : KJ} {H : Hp} {O : Addr → Prop}
theorem RepD.any {vs : List (Key × V)} {ds : List (Key × D)} (r : RepD K H O vs ds) (k : Key) : (vs.any fun kv => decide (kv.1 = k)) = ds.any fun kv => decide (kv.1 = k) := by
  induction ds generalizing vs with
  | nil => cases r; rfl
  | cons p ds ih =>
    cases r with
    | cons h r => rw [List.any_cons, List.any_cons, ih r]
theorem RepD.len {vs : List (Key × V)} {ds : List (Key × D)} (r : RepD K H O vs ds) : vs.length = ds.length := by
  induction ds generalizing vs with
  | nil => cases r; rfl
  | cons p ds ih =>
    cases r with
    | cons h r => simp [ih r]
theorem RepD.val {vs : List (Key × V)} {ds : List (Key × D)} (r : RepD K H O vs ds) (k : Key) : (valD ds k = none → valV vs k = none) ∧ ∀ d, valD ds k = some d → ∃ v, valV vs k = some v ∧ Rep K H O v d := by
  induction ds generalizing vs with
  | nil => cases r; exact ⟨fun _ => rfl, fun d e => by cases e⟩
  | cons p ds ih =>
    cases r with
    | cons h r =>
      rename_i k0 v0 vs' d0
      unfold valD
      rw [List.find?_cons]
      by_cases e : k0 = k
      · simp only [decide_eq_true e, valV_pos (p := (k0, v0)) e]
        exact ⟨(fun z => nomatch z), fun d z => ⟨v0, rfl, by cases z; exact h⟩⟩
      · simp only [decide_eq_false e, valV_neg (p := (k0, v0)) e]
        exact ih r
theorem RepD.map {vs : List (Key × V)} {ds : List (Key × D)} {v : V} {d : D} (r : RepD K H O vs ds) (k : Key) (h : Rep K H O v d) : RepD K H O (vs.map (fun kv => if kv.1 = k then (kv.1, v) else kv)) (ds.map (fun kv => if kv.1 = k then (kv.1, d) else kv)) := by
  induction ds generalizing vs with
  | nil => cases r; exact .nil
  | cons p ds ih =>
    cases r with
    | cons h' r =>
      rename_i k0 v0 vs' d0
      rw [List.map_cons, List.map_cons]
      by_cases e : k0 = k
      · simp only [if_pos e]; exact .cons h (ih r)
      · simp only [if_neg e]; exact .cons h' (ih r)
theorem RepD.snoc {vs : List (Key × V)} {ds : List (Key × D)} {v : V} {d : D} (r : RepD K H O vs ds) (k : Key) (h : Rep K H O v d) : RepD K H O (vs ++ [(k, v)]) (ds ++ [(k, d)]) := by
  induction ds generalizing vs with
  | nil => cases r; exact .cons h .nil
  | cons p ds ih =>
    cases r with
    | cons h' r => exact .cons h' (ih r)
theorem RepD.put {vs : List (Key × V)} {ds : List (Key × D)} {v : V} {d : D} (r : RepD K H O vs ds) (k : Key) (h : Rep K H O v d) : RepD K H O (putK vs k v) (putD ds k d) := by
  unfold putK putD
  rw [r.any k]
  split
  · exact r.map k h
  · exact r.snoc k h
end
/-- a key of a dict -/
def D.key : D → Option Key
  | .int i => some (.inl i)
  | .str x => some (.inr x)
  | _ => none
theorem Vw.key {K : KJ} {H : Hp} {P : Addr → Prop} {v : V} {d : D} {k : Key} (h : Vw K H P v d) (e : d.key = some k) : v = kV k := by
  cases d with
  | int i => cases e; exact h.int_
  | str x => cases e; exact h.str_
  | _ => cases e
section
variable {X : Cx} {cl : Nat → Addr} {Y : WX} {W : WJ} {e k : Expr} {fe fk : SE} {pos apos cpos p' pos' : Pos} {i : Nat} {x : Str}
/-- x.append(e) -/
def appOut (i : Nat) (env : En) (ds : List D) (r : Rv) : Option Out :=
  match r.frz with
  | some d => if ds.length < 100000 then some (.nx (env.set i (.ow (.lst (ds ++ [d]))))) else none
  | none => none
def sApp (i : Nat) (fe : SE) : SS := fun env =>
  match env[i]? with
  | some (.ow (.lst ds)) => bindS (fe env) env (appOut i env ds)
  | _ => none
theorem q_app (he : QE X cl W e fe) (i : Nat) (hN : X.N[i]? = some x := by rfl) (hv : Vis X.env.scope x := by first | exact Or.inl rfl | exact Or.inr (Or.inl rfl) | exact Or.inr (Or.inr rfl))
    (hbase : attributeBase (.Name x p') "append" X.env (eval (.Name x p') X.env) = eval (.Name x p') X.env := by rfl)
    (hfew : ((backTo cpos (starEach [e] X.env)).all (fun x => !x.1) && (backToKw cpos (keywordEach [] X.env)).all (fun x => x.1.isSome)
      && decide ([e].length + ([] : List Keyword).length + (if ([] : List Keyword).isEmpty then 0 else 1) < 30)) = true := by rfl)
    (hline : (apos.endLine == cpos.line) = true := by rfl) (hs : starEach [e] X.env = (false, eval e X.env) :: starEach [] X.env := by rfl) (hplain : (backTo cpos (starEach [] X.env)).any (·.1) = false := by rfl)
    (hd : (x == ("__debug__" : Str)) = false := by decide) (hcd : (x == ("__classdict__" : Str)) = false := by decide)
    (hsw : swapsWith (.Call (.Attribute (.Name x p') "append" apos) [e] [] cpos) none pos.line X.env = pure false := by rfl) :
    QS X cl W (.Expr (.Call (.Attribute (.Name x p') "append" apos) [e] [] cpos) pos) (sApp i fe) := by
  refine PSimp (ps_expr (pe_bm PySem.F.plainAttrs_list PySem.F.slot_list_append PySem.F.type_list_append mt_append (pe_var hN hv hd hcd) (pa_cons he pa_nil hs) hbase hfew hline hs hplain) hsw) fun D σ H ⟨w, env, ev, h⟩ => ?_
  unfold sApp at h
  split at h
  · rename_i ds e1
    obtain ⟨p, q1, q2, vs, q3, q4⟩ := ev.ow i _ e1
    refine ⟨_, q1, .inl ⟨rfl, _, SqL.of q3⟩, w, env, ev, ?_⟩
    generalize fe env = y at h ⊢
    match y, h with
    | some (.err n fs), h => exact fun da H' s q => h da σ H' (ev.same s) q
    | some (.val r), h =>
      intro v H' s q
      have h : okS ⟨X.K, W.J⟩ cl W.w w D (appOut i env ds r) := h
      unfold appOut at h
      split at h
      · rename_i d e2
        split at h
        · rename_i c
          have hp : H' p = some (.lst vs) := s _ _ q3
          have rv := q.rep (fun a z => ev.there z) e2
          refine ⟨p, vs, _, rfl, rfl, hp, by rw [q4.len]; exact line_lt c, ?_⟩
          have ev' := ev.same s
          refine h _ _ (ev'.put (o := .lst (vs ++ [v])) e1 q1 ⟨vs ++ [v], upd_same, ?_⟩)
          exact ((q4.same s).append (.one rv)).move (ev'.stp _ e1 q1) fun a z => .inl z
        · exact h.elim
      · exact h.elim
  · exact h.elim
end
end DV

/-! DV6: defs, raise, loops -/
namespace DV
open PySem PySem.Spec L2

/-! ### a def by its body -/
abbrev wE (E : XK) : WX := fun cls d _ H => E cls d H
theorem rep_shs {K : KJ} {H : Hp} {O : Addr → Prop} {w0 : Wd} : ∀ {vs : List V} {ds : List D}, RepL K H O vs ds → ∀ (i : Nat) (d : D), (ds.map Sl.sh)[i]? = some (.sh d) → ∃ v, (vs.map some)[i]? = some (some v) ∧ Rep K H O v d := by
  intro vs ds r i d e
  rw [List.getElem?_map] at e
  cases q : ds[i]? with
  | none => rw [q] at e; cases e
  | some d' =>
    rw [q] at e
    cases e
    obtain ⟨v, h1, h2⟩ := r.get q
    exact ⟨v, by rw [List.getElem?_map, h1]; rfl, h2⟩
theorem env_start {K : KJ} {H : Hp} {O : Addr → Prop} {vs : List V} {ds : List D} {N : List Str} (hd : ∀ a, O a → H a ≠ none) (r : RepL K H O vs ds) :
    EnvR K ⟨O, H, []⟩ (ds.map .sh ++ List.replicate (N.length - ds.length) .no) (L2.start N vs) H := by
  have hl := r.len
  have len : (vs.map some).length = (ds.map Sl.sh).length := by simp [hl]
  have key : ∀ (i : Nat) (s : Sl), (ds.map Sl.sh ++ List.replicate (N.length - ds.length) .no)[i]? = some s → (∃ d, s = .sh d ∧ ∃ v, (L2.start N vs)[i]? = some (some v) ∧ Rep K H O v d) ∨ s = .no := fun i s e => by
    by_cases h : i < (ds.map Sl.sh).length
    · rw [List.getElem?_append_left h] at e
      left
      rw [List.getElem?_map] at e
      cases q : ds[i]? with
      | none => rw [q] at e; cases e
      | some d' =>
        rw [q] at e
        cases e
        obtain ⟨v, h1, h2⟩ := r.get q
        refine ⟨d', rfl, v, ?_, h2⟩
        unfold L2.start
        rw [List.getElem?_append_left (by rw [len]; exact h), List.getElem?_map, h1]
        rfl
    · right
      rw [List.getElem?_append_right (by omega)] at e
      have := List.mem_of_getElem? e
      exact (List.eq_of_mem_replicate this)
  have noow : ∀ (i : Nat) (d : D), (ds.map Sl.sh ++ List.replicate (N.length - ds.length) .no)[i]? ≠ some (.ow d) := fun i d e => by
    rcases key i _ e with ⟨d', z, _⟩ | z <;> cases z
  have own : ∀ a, OO O (ds.map Sl.sh ++ List.replicate (N.length - ds.length) .no) (L2.start N vs) a → O a := fun a z => by
    rcases z with z | ⟨i, d, e, _⟩
    · exact z
    · exact (noow i d e).elim
  refine ⟨?_, hd, Same.refl _, fun i d e => ?_, fun i d e => (noow i d e).elim, fun i e => ?_, fun i j p d e h1 => (noow i d h1).elim⟩
  · unfold L2.start
    simp [hl]
  · rcases key i _ e with ⟨d', z, v, h1, h2⟩ | z
    · cases z; exact ⟨v, h1, h2.anti own⟩
    · cases z
  · rcases key i _ e with ⟨d', z, _⟩ | z <;> cases z
theorem fnSem_len {n m : Nat} {body : SS} : ∀ ds, fnSem n m body ds ≠ none → ds.length = n := fun ds h => by
  unfold fnSem at h
  split at h
  · assumption
  · exact (h rfl).elim
section
variable {P : Program} {w : World} {K : PySem.W.Frag} {mg : Str → Option Value} {base : Heap} {cl : Nat → Addr}
theorem fn_ok {x qual : Str} {st : Stmt} {f : Addr} {fd : FuncData} {N ps : List Str} {k n m : Nat} {fB : SS} {sem : List D → Option Er} (hs : sem = fnSem n m fB) (hn : ps.length = n) (hm : N.length = m) (F : Fun K x qual st f fd) (S : FnScope N ps (defScope st))
    (hb : ∀ (cdv : Value) (A : Around) (outer : List Env) (s : Shared) (H : Hp) (E : XK), Room k (A.deeper (PyProof.Rows.envOfC qual (defScope st) s.heap.objs.size f cdv)) →
      QSs (cxOf (L2.CX P w) P w K mg base N qual (defScope st) f cdv A outer s H E) cl ⟨wE E, J0⟩ (defBody st) fB) :
    FnOk P w K mg base (L2.CX P w) (k + 1) f fd ps (spOf K cl n sem) := by
  subst hs hn hm
  refine F.okX S (fun vs H Q E ⟨O, ds, _, r, hl, _⟩ => r.len.trans hl) fun cdv A outer s H vs Q E hr ⟨O, ds, hd, r, hl, h⟩ => ?_
  refine ⟨_, hb cdv A outer s H E hr, ⟨O, H, []⟩, _, env_start (N := N) hd r, ?_⟩
  rw [hl]
  unfold fnSem at h
  rw [if_pos hl] at h
  split at h
  · rename_i d e
    rw [e]
    exact fun v H' s q => h v H' s q
  · rename_i d e
    rw [e]
    exact fun v H' s q => h v H' s q
  · rename_i env e
    rw [e]
    exact fun σ' H' ev => h .non H' ev.ext .non
  · rename_i n fs env e
    rw [e]
    exact fun da σ' H' ev x => h da H' ev.ext (x.anti fun a z => .inl z)
  · exact h.elim
end

/-! ### raise -/
section
variable {X : Cx} {cl : Nat → Addr} {Y : WX} {W : WJ} {e c : Expr} {st : Stmt} {body : List Stmt} {f g h : SS} {fe fc : SE} {pos : Pos} {i : Nat} {x : Str}
def sRaise (n : Nat) : SS := fun env => some (.err n [] env)
theorem q_raise {m : Str} {j : Nat} {p p2 p3 : Pos} {n : Nat} {C : Addr} {bmB : List Value} {B newId initId : String} (hc : X.calm = true) (tk : Takes X Y) (F : ExcBaseFacts B newId initId bmB) (q : PySem.W.excIn X.K C bmB newId = true) (gC : X.mg x = some (.ref C)) (kC : PySem.W.keepIn X.K (.ref C) = true) (r : Raises X (.ref C)) (hg : Gl X x)
    (hn : cl n = C) (hdb : (x == ("__debug__" : Str)) = false := by decide) : QS X cl ⟨Y, J0⟩ (.Raise (some (.Call (.Name x p) [.Constant (.str m) j p2] [] p3)) none pos) (sRaise n) := by
  refine PSimp (ps_raise hc tk (pmk_own F q gC kC r hg hdb)) fun D σ H ⟨w, env, ev, h⟩ => ?_
  have := h none σ H ev ⟨.nil, fun _ => rfl⟩
  rw [hn] at this
  exact this

/-! ### while -/
def sWhl (c : SE) (body : SS) : Nat → SS
  | 0 => fun _ => none
  | n + 1 => fun env => bindS (c env) env fun r =>
    match r with
    | .sh (.bl false) => some (.nx env)
    | .sh (.bl true) => (match body env with
      | some (.nx env') => sWhl c body n env'
      | some (.ct env') => sWhl c body n env'
      | some (.bk env') => some (.nx env')
      | y => y)
    | _ => none
theorem q_while {n : Nat} (hp : PassesOwn (model X.prog X.w) X.A X.env X.xe) (hc : QT X cl W c fc) (hb : QSs X cl W body f) : QS X cl W (.While c body [] pos) (sWhl fc f n) := by
  refine PSimp (ps_while hp hc hb) fun D σ H ⟨w, env, ev, h⟩ => ?_
  refine ⟨fun m σ H => ∃ env, EnvR ⟨X.K, W.J⟩ w env σ H ∧ okS ⟨X.K, W.J⟩ cl W.w w D (sWhl fc f m env), ⟨n, env, ev, h⟩, fun m σ H ⟨env, ev, h⟩ => ?_⟩
  cases m with
  | zero => exact h.elim
  | succ m =>
    refine ⟨w, env, ev, ?_⟩
    unfold sWhl at h
    refine okS.expr ev h fun r v H' _ ev' s q k => ?_
    obtain ⟨b, e1, e2, _⟩ := bl_of (p := fun _ => True) q (fun _ _ => trivial) (fun hn => by
      split at k
      · exact hn false rfl
      · exact hn true rfl
      · exact k)
    subst e1 e2
    refine ⟨b, rfl, ?_⟩
    cases b with
    | false => rw [if_neg Bool.false_ne_true]; exact k _ _ ev'
    | true =>
      rw [if_pos rfl]
      refine ⟨fun σ' H' => ∃ env, EnvR ⟨X.K, W.J⟩ w env σ' H' ∧ okS ⟨X.K, W.J⟩ cl W.w w D (sWhl fc f m env), fun σ' H' z => ⟨m, Nat.lt_succ_self m, z⟩, w, env, ev', ?_⟩
      simp only at k
      match f env, k with
      | some (.nx env'), k => exact fun σ2 H2 ev2 => ⟨env', ev2, k⟩
      | some (.ct env'), k => exact fun σ2 H2 ev2 => ⟨env', ev2, k⟩
      | some (.bk env'), k => exact k
      | some (.rt r), k => exact k
      | some (.err _ _ _), k => exact k
theorem sWhl_mono {c : SE} {body : SS} : ∀ (n : Nat) {env : En} {o : Out}, sWhl c body n env = some o → ∀ m, n ≤ m → sWhl c body m env = some o
  | 0, _, _, h, _, _ => by cases h
  | n + 1, env, o, h, m, hm => by
    obtain ⟨m, rfl⟩ : ∃ m', m = m' + 1 := ⟨m - 1, by omega⟩
    unfold sWhl at h ⊢
    cases hc : c env with
    | none => rw [hc] at h; cases h
    | some y =>
      cases y with
      | err n fs => rw [hc] at h; exact h
      | val r =>
        rw [hc] at h
        simp only [bindS_val] at h ⊢
        split at h
        · exact h
        · cases hb : body env with
          | none => rw [hb] at h; cases h
          | some o' =>
            rw [hb] at h
            cases o' with
            | nx env' => exact sWhl_mono n h m (by omega)
            | ct env' => exact sWhl_mono n h m (by omega)
            | bk env' => exact h
            | rt r => exact h
            | err _ _ _ => exact h
        · cases h

/-! ### what is walked -/
/-- J gives the things ds, one by one, as long as S stands -/
def Wk (K : KJ) (O : Addr → Prop) (S : Hp) (J : It) (ds : List D) : Prop :=
  ∀ (H : Hp) (i : Nat), Same S H → (∀ d, ds[i]? = some d → J.go i H ∧ ∀ x H', J.yld i H x H' → Same H H' ∧ ∀ P : Addr → Prop, (∀ a, P a → O a ∨ S a = none) → Rep K H' P x d) ∧ (ds[i]? = none → J.stop i H)
/-- the heap without what is owned -/
noncomputable def minus (H : Hp) (B : Addr → Prop) : Hp := by
  classical exact fun a => if B a then none else H a
theorem minus_same {H : Hp} {B : Addr → Prop} : Same (minus H B) H := fun a o e => by
  unfold minus at e
  split at e
  · cases e
  · exact e
theorem minus_at {H : Hp} {B : Addr → Prop} {a : Addr} (h : ¬ B a) : minus H B a = H a := by
  unfold minus; rw [if_neg h]
theorem minus_in {H : Hp} {B : Addr → Prop} {a : Addr} (h : B a) : minus H B a = none := by
  unfold minus; rw [if_pos h]
inductive Ir where
  | val (ds : List D) | err (n : Nat) (fs : List (Str × D))
abbrev SI := En → Option Ir
def okI (K : KJ) (cl : Nat → Addr) (Y : WX) (w : Wd) (env : En) (σ : L2.St) (H : Hp) (R : It → Hp → Prop) : Option Ir → Prop
  | none => False
  | some (.val ds) => ∀ J H', Same H H' → Wk K w.O (minus H' (Own env σ)) J ds → R J H'
  | some (.err n fs) => ∀ da H', Same H H' → ExcAt K H' (OO w.O env σ) da fs → Y (.ref (cl n)) da σ H'
def tI (K : PySem.W.Frag) (cl : Nat → Addr) (W : WJ) (f : SI) : TI := fun σ H R => ∃ w env, EnvR ⟨K, W.J⟩ w env σ H ∧ okI ⟨K, W.J⟩ cl W.w w env σ H R (f env)
abbrev QI (X : Cx) (cl : Nat → Addr) (W : WJ) (tg it : Expr) (f : SI) : Prop := PI X tg it (tI X.K cl W f)
theorem PIimp {X : Cx} {tg it : Expr} {t t' : TI} (h : PI X tg it t) (i : ∀ σ H R, t' σ H R → t σ H R) : PI X tg it t' := ⟨fun pins s σ H R I q => h.run pins s σ H R I (i _ _ _ q)⟩
/-- what a list, a tuple gives -/
def iOf (x : Option Er) : Option Ir :=
  match x with
  | some (.val (.sh (.lst ds))) => some (.val ds)
  | some (.val (.nw (.lst ds))) => some (.val ds)
  | some (.val (.sh (.tup ds))) => some (.val ds)
  | some (.err n fs) => some (.err n fs)
  | _ => none
def sIt (fe : SE) : SI := fun env => iOf (fe env)
end
section
variable {K : KJ} {w : Wd} {env : En} {σ : L2.St} {H : Hp}
theorem rep_minus {v : V} {d : D} (ev : EnvR K w env σ H) (r : Rep K H (OO w.O env σ) v d) : Rep K (minus H (Own env σ)) w.O v d := by
  refine r.move (fun a o e c => ?_) fun a z => .inl (.inl z)
  have n : ¬ Own env σ a := fun z => by
    obtain ⟨_, u, q, mu⟩ := ev.own z
    rw [e] at q; cases q
    rcases c with c | c
    · exact c (.inr z)
    · exact c mu
  rw [minus_at n]; exact e
theorem wk_of {J : It} {ds : List D} {vs : List V} {S : Hp} {O : Addr → Prop} (r : RepL K S O vs ds)
    (go : ∀ (H : Hp) (i : Nat) (v : V), Same S H → vs[i]? = some v → J.go i H ∧ ∀ x H', J.yld i H x H' → H' = H ∧ x = v) (stop : ∀ (H : Hp) (i : Nat), Same S H → vs.length ≤ i → J.stop i H) : Wk K O S J ds := by
  intro H i s
  refine ⟨fun d e => ?_, fun e => ?_⟩
  · obtain ⟨v, e1, rv⟩ := r.get e
    obtain ⟨g, y⟩ := go H i v s e1
    refine ⟨g, fun x H' hy => ?_⟩
    obtain ⟨rfl, rfl⟩ := y x H' hy
    exact ⟨Same.refl _, fun P hP => rv.move (.of_same s) hP⟩
  · refine stop H i s ?_
    rw [r.len]
    exact List.getElem?_eq_none_iff.mp e
theorem SqL.inj' {K : PySem.W.Frag} {H : Hp} {a : Addr} {xs : List V} (h : SqL K H a xs) : ∃ ys, SqL K H a ys := ⟨xs, h⟩
end
section
variable {X : Cx} {cl : Nat → Addr} {Y : WX} {W : WJ} {e c tg : Expr} {st : Stmt} {body : List Stmt} {f g h : SS} {fe fc : SE} {pos : Pos} {i : Nat} {x : Str}
end
end DV

/-! DV7: for, comprehensions -/
namespace DV
open PySem PySem.Spec L2

section
variable {K : KJ} {cl : Nat → Addr} {Y : WX} {w w1 : Wd} {env env' : En} {σ : L2.St} {H H' H1 : Hp}
/-- a world that keeps more -/
structure Up (w w1 : Wd) : Prop where
  o : w1.O = w.O
  s : w1.σ0 = w.σ0
  h : Same w.H0 w1.H0
theorem EnvR.up (u : Up w w1) (ev : EnvR K w1 env σ H) : EnvR K w env σ H := by
  obtain ⟨o, s, h⟩ := u
  have e : OO w1.O env σ = OO w.O env σ := by rw [o]
  refine ⟨ev.len, by rw [← o]; exact ev.dom, h.trans ev.ext, fun i d q => ?_, fun i d q => ?_, fun i q => by rw [← s]; exact ev.pn i q, ev.dist⟩
  · rw [← e]; exact ev.sh i d q
  · obtain ⟨p, a, b, c⟩ := ev.ow i d q
    rw [e] at c
    exact ⟨p, a, ⟨Same.free h b.1, by rw [← o]; exact b.2⟩, c⟩
theorem okS.up {D : Ends} {x : Option Out} (u : Up w w1) (h : okS K cl Y w D x) : okS K cl Y w1 D x := by
  match x, h with
  | some (.nx env), h => exact fun σ H ev => h σ H (ev.up u)
  | some (.bk env), h => exact fun σ H ev => h σ H (ev.up u)
  | some (.ct env), h => exact fun σ H ev => h σ H (ev.up u)
  | some (.rt r), h => exact fun v H s q => h v H (u.h.trans s) (by
      rw [u.o] at q
      exact q.back u.h)
  | some (.err n fs env), h => exact fun da σ H ev q => h da σ H (ev.up u) (by rw [u.o] at q; exact q)
/-- the world in which all that isn't owned stays -/
theorem EnvR.keep (ev : EnvR K w env σ H) : EnvR K ⟨w.O, minus H (Own env σ), w.σ0⟩ env σ H ∧ Up w ⟨w.O, minus H (Own env σ), w.σ0⟩ := by
  refine ⟨⟨ev.len, ev.dom, minus_same, ev.sh, fun i d q => ?_, ev.pn, ev.dist⟩, rfl, rfl, fun a o e => ?_⟩
  · obtain ⟨p, a, b, c⟩ := ev.ow i d q
    exact ⟨p, a, ⟨minus_in ⟨i, d, q, a⟩, b.2⟩, c⟩
  · have n : ¬ Own env σ a := fun z => by rw [(ev.own z).1.1] at e; cases e
    show minus H (Own env σ) a = some o
    rw [minus_at n]
    exact ev.ext a o e

def forL (tg : SG) (body : SS) : List D → En → Option Out
  | [], env => some (.nx env)
  | d :: ds, env =>
    match tg d env with
    | none => none
    | some env1 => (match body env1 with
      | some (.nx e) => forL tg body ds e
      | some (.ct e) => forL tg body ds e
      | some (.bk e) => some (.nx e)
      | y => y)
end
section
variable {X : Cx} {cl : Nat → Addr} {W : WJ} {tg it : Expr} {body : List Stmt} {f : SS} {g : SG} {fi : SI} {pos : Pos}
theorem for_core {K : PySem.W.Frag} {w : Wd} {J : It} {S : Hp} {ds : List D} {D' : Ends} {σ : L2.St} {H1 : Hp} {env : En} (wk : Wk ⟨K, W.J⟩ w.O S J ds) (hS : Same S w.H0) (ev : EnvR ⟨K, W.J⟩ w env σ H1) (h : okS ⟨K, W.J⟩ cl W.w w D' (forL g f ds env))
    (hown : ∀ a, w.H0 a = none → S a = none) :
    ∃ W' : Nat → Nat → L2.St → Hp → Prop, (∃ m, W' 0 m σ H1) ∧ ∀ i m σ H, W' i m σ H → (J.stop i H ∧ D'.nx σ H) ∨ (J.go i H ∧ ∃ N : L2.St → Hp → Prop, (∀ σ' H', N σ' H' → ∃ m', m' < m ∧ W' (i + 1) m' σ' H') ∧
      ∀ x H', J.yld i H x H' → tG ⟨K, W.J⟩ g x σ H' fun σ2 H2 => tS K cl W f { D' with nx := N, ct := N, bk := D'.nx } σ2 H2) := by
  refine ⟨fun i m σ H => ∃ env, EnvR ⟨K, W.J⟩ w env σ H ∧ okS ⟨K, W.J⟩ cl W.w w D' (forL g f (ds.drop i) env) ∧ m = ds.length - i, ⟨ds.length, env, ev, h, by omega⟩, fun i m σ H ⟨env, ev, h, hm⟩ => ?_⟩
  have sS : Same S H := hS.trans ev.ext
  obtain ⟨go, stop⟩ := wk H i sS
  cases e : ds[i]? with
  | none =>
    have hl := List.getElem?_eq_none_iff.mp e
    rw [List.drop_eq_nil_of_le hl] at h
    exact .inl ⟨stop e, h _ _ ev⟩
  | some d =>
    obtain ⟨hi, ed⟩ := List.getElem?_eq_some_iff.mp e
    have edrop : ds.drop i = d :: ds.drop (i + 1) := by rw [List.drop_eq_getElem_cons hi, ed]
    rw [edrop] at h
    obtain ⟨g1, y⟩ := go d e
    refine .inr ⟨g1, fun σ' H' => ∃ env, EnvR ⟨K, W.J⟩ w env σ' H' ∧ okS ⟨K, W.J⟩ cl W.w w D' (forL g f (ds.drop (i + 1)) env), fun σ' H' ⟨env', ev', h'⟩ => ⟨ds.length - (i + 1), by omega, env', ev', h', rfl⟩, fun x H' hy => ?_⟩
    obtain ⟨s', rep⟩ := y x H' hy
    unfold forL at h
    split at h
    · exact h.elim
    · rename_i env1 e1
      refine ⟨w, env, d, env1, ev.same s', rep _ fun a z => ?_, e1, fun σ2 ev2 => ⟨w, env1, ev2, ?_⟩⟩
      · rcases z with z | z
        · exact .inl z
        · exact .inr (hown a (ev.own z).1.1)
      · match f env1, h with
        | some (.nx e), h => exact fun σ3 H3 ev3 => ⟨e, ev3, h⟩
        | some (.ct e), h => exact fun σ3 H3 ev3 => ⟨e, ev3, h⟩
        | some (.bk e), h => exact h
        | some (.rt r), h => exact h
        | some (.err _ _ _), h => exact h
def sFor (fi : SI) (g : SG) (f : SS) : SS := fun env =>
  match fi env with
  | some (.val ds) => forL g f ds env
  | some (.err n fs) => some (.err n fs env)
  | none => none
theorem q_for (hp : PassesOwn (model X.prog X.w) X.A X.env X.xe) (hc : X.calm = true) (hi : QI X cl W tg it fi) (hg : QG X W tg g) (hb : QSs X cl W body f) (hs : ∀ x, foldedSetIterable it X.env x = pure x := by intro _; rfl) :
    QS X cl W (.For tg it body [] pos) (sFor fi g f) := by
  refine PSimp (ps_for hp hc hi hg hb hs) fun D σ H ⟨w, env, ev, h⟩ => ⟨w, env, ev, ?_⟩
  unfold sFor at h
  match fi env, h with
  | some (.err n fs), h => exact fun da H' s q => h da σ H' (ev.same s) q
  | some (.val ds), h =>
    intro J H' s wk
    obtain ⟨evk, u⟩ := (ev.same s).keep
    exact for_core (w := ⟨w.O, minus H' (Own env σ), w.σ0⟩) wk (Same.refl _) evk (h.up u) fun a z => z
/-- x (own) let stand ahead of a statement -/
def fzAt (i : Nat) (env : En) : En :=
  match env[i]? with
  | some (.ow d) => env.set i (.sh d)
  | _ => env
theorem EnvR.fzAt {K : KJ} {w : Wd} {env : En} {σ : L2.St} {H : Hp} (i : Nat) (ev : EnvR K w env σ H) : EnvR K w (fzAt i env) σ H := by
  unfold DV.fzAt
  split
  · rename_i d e
    have hl : i < env.length := (List.getElem?_eq_some_iff.mp e).1
    obtain ⟨p, a, b, c⟩ := ev.ow i d e
    have back : ∀ (j : Nat) (s : Sl), j ≠ i → (env.set i (.sh d))[j]? = some s → env[j]? = some s := fun j s n e => by rw [List.getElem?_set_ne (Ne.symm n)] at e; exact e
    have ownne : ∀ (j : Nat) (d' : D), (env.set i (.sh d))[j]? = some (.ow d') → j ≠ i := fun j d' e z => by
      subst z; rw [List.getElem?_set_self hl] at e; cases e
    have own : ∀ a, OO w.O (env.set i (.sh d)) σ a → OO w.O env σ a := fun a z => by
      rcases z with z | ⟨j, d', e1, e2⟩
      · exact .inl z
      · exact .inr ⟨j, d', back j _ (ownne j d' e1) e1, e2⟩
    refine ⟨by simpa using ev.len, ev.dom, ev.ext, fun j d' q => ?_, fun j d' q => ?_, fun j q => ?_, fun j k q d' e' h1 h2 h3 h4 => ?_⟩
    · by_cases n : j = i
      · subst n
        rw [List.getElem?_set_self hl] at q
        cases q
        refine ⟨.ref p, a, (c.anti own).rep fun z => ?_⟩
        rcases z with z | ⟨k, d2, e1, e2⟩
        · exact b.2 z
        · have nk := ownne k d2 e1
          exact nk (ev.dist k j p d2 d (back k _ nk e1) e e2 a)
      · obtain ⟨v, q1, q2⟩ := ev.sh j d' (back j _ n q)
        exact ⟨v, q1, q2.anti own⟩
    · have n := ownne j d' q
      obtain ⟨p', q1, q2, q3⟩ := ev.ow j d' (back j _ n q)
      exact ⟨p', q1, q2, q3.anti own⟩
    · have n : j ≠ i := fun z => by subst z; rw [List.getElem?_set_self hl] at q; cases q
      exact ev.pn j (back j _ n q)
    · exact ev.dist j k q d' e' (back j _ (ownne j d' h1) h1) (back k _ (ownne k e' h2) h2) h3 h4
  · exact ev
def sFz (i : Nat) (f : SS) : SS := fun env => f (fzAt i env)
theorem q_fz {st : Stmt} (i : Nat) (h : QS X cl W st f) : QS X cl W st (sFz i f) := PSimp h fun D σ H ⟨w, env, ev, q⟩ => ⟨w, fzAt i env, ev.fzAt i, q⟩

/-! ### over an own list, which the body doesn't touch -/
def pnSub : En → En → Bool
  | .pn :: e, s :: e1 => (match s with | .pn => true | _ => false) && pnSub e e1
  | _ :: e, _ :: e1 => pnSub e e1
  | [], [] => true
  | _, _ => false
theorem pnSub_get : ∀ {e e1 : En} (i : Nat), pnSub e e1 = true → e[i]? = some .pn → e1[i]? = some .pn
  | [], [], i, _, h => by simp at h
  | s :: e, s1 :: e1, 0, h, h2 => by
    simp at h2
    subst h2
    cases s1 <;> simp [pnSub] at h ⊢
  | s :: e, s1 :: e1, i + 1, h, h2 => by
    have h3 : pnSub e e1 = true := by
      cases s <;> cases s1 <;> simp [pnSub] at h <;> exact h
    simp at h2 ⊢
    exact pnSub_get i h3 h2
  | [], _ :: _, _, h, _ => by simp [pnSub] at h
  | s :: _, [], _, h, _ => by cases s <;> simp [pnSub] at h
/-- the list is told again behind the loop -/
def unpin (i : Nat) (ds : List D) (env1 : En) (o : Option Out) : Option Out :=
  match o with
  | some (.nx e) => (match e[i]? with
    | some .pn => if pnSub e env1 then some (.nx (e.set i (.ow (.lst ds)))) else none
    | _ => none)
  | some (.rt r) => some (.rt r)
  | _ => none
def sForV (i : Nat) (g : SG) (f : SS) : SS := fun env =>
  match env[i]? with
  | some (.ow (.lst ds)) => unpin i ds (env.set i .pn) (forL g f ds (env.set i .pn))
  | some (.sh (.lst ds)) => forL g f ds env
  | some (.sh (.kl ds)) => forL g f ds env
  | _ => none
theorem EnvR.pin {K : KJ} {w : Wd} {env : En} {σ : L2.St} {H : Hp} {i : Nat} {p : Addr} {d : D} (ev : EnvR K w env σ H) (e : env[i]? = some (.ow d)) (ep : σ[i]? = some (some (.ref p))) :
    EnvR K ⟨fun a => w.O a ∨ a = p, minus H (Own (env.set i .pn) σ), σ⟩ (env.set i .pn) σ H := by
  have hl : i < env.length := (List.getElem?_eq_some_iff.mp e).1
  have back : ∀ (j : Nat) (s : Sl), j ≠ i → (env.set i .pn)[j]? = some s → env[j]? = some s := fun j s n e => by rw [List.getElem?_set_ne (Ne.symm n)] at e; exact e
  have ownne : ∀ (j : Nat) (s : Sl), s ≠ .pn → (env.set i .pn)[j]? = some s → j ≠ i := fun j d' n e z => by
    subst z; rw [List.getElem?_set_self hl] at e; cases e; exact n rfl
  have own : ∀ a, OO (fun a => w.O a ∨ a = p) (env.set i .pn) σ a → OO w.O env σ a := fun a z => by
    rcases z with (z | z) | ⟨j, d', e1, e2⟩
    · exact .inl z
    · exact .inr ⟨i, d, e, by rw [z]; exact ep⟩
    · exact .inr ⟨j, d', back j _ (ownne j (.ow d') (fun z => nomatch z) e1) e1, e2⟩
  refine ⟨by simpa using ev.len, fun a z => ?_, minus_same, fun j d' q => ?_, fun j d' q => ?_, fun j q => rfl, fun j k q d' e' h1 h2 h3 h4 => ?_⟩
  · rcases z with z | z
    · exact ev.dom a z
    · rw [z]; exact ev.there (.inr ⟨i, d, e, ep⟩)
  · have n := ownne j (.sh d') (fun z => nomatch z) q
    obtain ⟨v, q1, q2⟩ := ev.sh j d' (back j _ n q)
    exact ⟨v, q1, q2.anti own⟩
  · have n := ownne j (.ow d') (fun z => nomatch z) q
    obtain ⟨p', q1, q2, q3⟩ := ev.ow j d' (back j _ n q)
    refine ⟨p', q1, ⟨minus_in ⟨j, d', q, q1⟩, fun z => ?_⟩, q3.anti own⟩
    rcases z with z | z
    · exact q2.2 z
    · exact n (ev.dist j i p d' d (back j _ n q) e (by rw [← z]; exact q1) ep)
  · exact ev.dist j k q d' e' (back j _ (ownne j (.ow d') (fun z => nomatch z) h1) h1) (back k _ (ownne k (.ow e') (fun z => nomatch z) h2) h2) h3 h4
theorem EnvR.unpin {K : KJ} {w : Wd} {env e2 : En} {σ σ2 : L2.St} {H H2 : Hp} {i : Nat} {p : Addr} {ds : List D} (ev : EnvR K w env σ H) (e : env[i]? = some (.ow (.lst ds))) (ep : σ[i]? = some (some (.ref p)))
    (ev2 : EnvR K ⟨fun a => w.O a ∨ a = p, minus H (Own (env.set i .pn) σ), σ⟩ e2 σ2 H2) (hp : e2[i]? = some .pn) (hsub : pnSub e2 (env.set i .pn) = true) : EnvR K w (e2.set i (.ow (.lst ds))) σ2 H2 := by
  have hl : i < e2.length := (List.getElem?_eq_some_iff.mp hp).1
  have hl1 : i < env.length := (List.getElem?_eq_some_iff.mp e).1
  obtain ⟨p', q1, q2, vs, q3, q4⟩ := ev.ow i _ e
  have epp : p' = p := by rw [ep] at q1; cases q1; rfl
  subst epp
  have hS : ∀ a o, w.H0 a = some o → minus H (Own (env.set i .pn) σ) a = some o := fun a o q => by
    have n : ¬ Own (env.set i .pn) σ a := fun ⟨j, d', e1, e2⟩ => by
      by_cases n : j = i
      · subst n; rw [List.getElem?_set_self hl1] at e1; cases e1
      · rw [List.getElem?_set_ne (Ne.symm n)] at e1
        rw [(ev.own ⟨j, d', e1, e2⟩).1.1] at q; cases q
    rw [minus_at n]; exact ev.ext a o q
  have npin : ¬ Own (env.set i .pn) σ p' := fun ⟨j, d', e1, e2⟩ => by
    by_cases n : j = i
    · subst n; rw [List.getElem?_set_self hl1] at e1; cases e1
    · rw [List.getElem?_set_ne (Ne.symm n)] at e1
      exact n (ev.dist j i p' d' _ e1 e e2 ep)
  have hpS : minus H (Own (env.set i .pn) σ) p' = some (.lst vs) := by rw [minus_at npin]; exact q3
  have hp2 : H2 p' = some (.lst vs) := ev2.ext p' _ hpS
  have ep2 : σ2[i]? = some (some (.ref p')) := (ev2.pn i hp).trans ep
  have back : ∀ (j : Nat) (s : Sl), j ≠ i → (e2.set i (.ow (.lst ds)))[j]? = some s → e2[j]? = some s := fun j s n e => by rw [List.getElem?_set_ne (Ne.symm n)] at e; exact e
  have own : ∀ a, OO w.O (e2.set i (.ow (.lst ds))) σ2 a → OO (fun a => w.O a ∨ a = p') e2 σ2 a := fun a z => by
    rcases z with z | ⟨j, d', h1, h2⟩
    · exact .inl (.inl z)
    · by_cases n : j = i
      · subst n; rw [ep2] at h2; cases h2; exact .inl (.inr rfl)
      · exact .inr ⟨j, d', back j _ n h1, h2⟩
  have notp : ∀ (j : Nat) (d' : D) (q : Addr), e2[j]? = some (.ow d') → σ2[j]? = some (some (.ref q)) → q ≠ p' := fun j d' q h1 h2 z => by
    have := (ev2.own ⟨j, d', h1, h2⟩).1.2
    exact this (.inr z)
  refine ⟨by simpa using ev2.len, fun a z => ev2.dom a (.inl z), fun a o q => ev2.ext a o (hS a o q), fun j d' q => ?_, fun j d' q => ?_, fun j q => ?_, fun j k q d' e' h1 h2 h3 h4 => ?_⟩
  · have n : j ≠ i := fun z => by subst z; rw [List.getElem?_set_self hl] at q; cases q
    obtain ⟨v, r1, r2⟩ := ev2.sh j d' (back j _ n q)
    exact ⟨v, r1, r2.anti own⟩
  · by_cases n : j = i
    · subst n
      rw [List.getElem?_set_self hl] at q
      cases q
      refine ⟨p', ep2, q2, vs, hp2, ?_⟩
      -- the items, from where the loop began
      have r0 : RepL K (minus H (Own (env.set j .pn) σ)) (OO w.O env σ) vs ds := q4.move (fun a o e c => by
          have n : ¬ Own (env.set j .pn) σ a := fun ⟨k, d', e1, e2⟩ => by
            by_cases n : k = j
            · subst n; rw [List.getElem?_set_self hl1] at e1; cases e1
            · rw [List.getElem?_set_ne (Ne.symm n)] at e1
              have ow : Own env σ a := ⟨k, d', e1, e2⟩
              obtain ⟨_, u, hu, mu⟩ := ev.own ow
              rw [e] at hu; cases hu
              rcases c with c | c
              · exact c (.inr ow)
              · exact c mu
          rw [minus_at n]; exact e) fun a z => .inl z
      refine r0.move (.of_same ev2.ext) fun a z => ?_
      rcases own a z with (z | z) | z
      · exact .inl (.inl z)
      · exact .inl (.inr ⟨j, _, e, by rw [z]; exact ep⟩)
      · exact .inr (ev2.own z).1.1
    · obtain ⟨p2, r1, r2, r3⟩ := ev2.ow j d' (back j _ n q)
      refine ⟨p2, r1, ⟨?_, fun z => r2.2 (.inl z)⟩, r3.anti own⟩
      cases hq : w.H0 p2 with
      | none => rfl
      | some o => exact absurd (r2.1.symm.trans (hS p2 o hq)) (fun z => nomatch z)
  · have n : j ≠ i := fun z => by subst z; rw [List.getElem?_set_self hl] at q; cases q
    have q' := back j _ n q
    have q0 := pnSub_get j hsub q'
    rw [List.getElem?_set_ne (Ne.symm n)] at q0
    exact (ev2.pn j q').trans (ev.pn j q0)
  · by_cases n1 : j = i
    · by_cases n2 : k = i
      · rw [n1, n2]
      · subst n1
        rw [ep2] at h3; cases h3
        exact (notp k e' _ (back k _ n2 h2) h4 rfl).elim
    · by_cases n2 : k = i
      · subst n2
        rw [ep2] at h4; cases h4
        exact (notp j d' _ (back j _ n1 h1) h3 rfl).elim
      · exact ev2.dist j k q d' e' (back j _ n1 h1) (back k _ n2 h2) h3 h4
theorem wk_list {K : KJ} {S : Hp} {O : Addr → Prop} {a : Addr} {vs : List V} {ds : List D} (hs : ∀ H, Same S H → SqL K.k H a vs) (r : RepL K S O vs ds) (inj : ∀ H xs, Same S H → SqL K.k H a xs → True) : Wk K O S (Itl K.k a) ds := by
  refine wk_of r (fun H i v s e => ⟨⟨vs, v, hs H s, e⟩, fun x H' hy => ?_⟩) fun H i s hl => ⟨vs, hs H s, hl⟩
  obtain ⟨rfl, h⟩ := hy
  have := h vs (hs _ s)
  rw [e] at this
  exact ⟨rfl, (Option.some.inj this).symm⟩
theorem wk_tup {K : KJ} {S : Hp} {O : Addr → Prop} {a : Addr} {vs : List V} {ds : List D} (hs : ∀ H, Same S H → SqT K.k H a vs) (r : RepL K S O vs ds) : Wk K O S (Itt K.k a) ds := by
  refine wk_of r (fun H i v s e => ⟨⟨vs, v, hs H s, e⟩, fun x H' hy => ?_⟩) fun H i s hl => ⟨vs, hs H s, hl⟩
  obtain ⟨rfl, h⟩ := hy
  have := h vs (hs _ s)
  rw [e] at this
  exact ⟨rfl, (Option.some.inj this).symm⟩
theorem LsR.mono {K : PySem.W.Frag} {S H : Hp} {O : Addr → Prop} {a : Addr} {vs : List V} (h : LsR K S O a vs) (s : Same S H) : SqL K H a vs := by
  rcases h with ⟨_, h | ⟨o, h⟩⟩ | h
  · exact .inl (.inl (s _ _ h))
  · exact .inl (.inr ⟨o, s _ _ h⟩)
  · exact .inr h
theorem SqT.mono {K : PySem.W.Frag} {S H : Hp} {a : Addr} {vs : List V} (h : SqT K S a vs) (s : Same S H) : SqT K H a vs := SqT.stp (.of_same (O := fun _ => False) s) h
theorem wk_rep {K : KJ} {S : Hp} {O : Addr → Prop} {v : V} {ds : List D} (r : Rep K S O v (.lst ds)) : ∃ a, v = .ref a ∧ (∀ H, Same S H → ∃ xs, SqL K.k H a xs) ∧ Wk K O S (Itl K.k a) ds := by
  cases r with
  | lst n h r => exact ⟨_, rfl, fun H s => ⟨_, LsR.mono (O := O) (.inl ⟨n, h⟩) s⟩, wk_list (fun H s => LsR.mono (O := O) (.inl ⟨n, h⟩) s) r fun _ _ _ _ => trivial⟩
theorem wk_repK {K : KJ} {S : Hp} {O : Addr → Prop} {v : V} {ds : List D} (r : Rep K S O v (.kl ds)) : ∃ a, v = .ref a ∧ (∀ H, Same S H → ∃ xs, SqL K.k H a xs) ∧ Wk K O S (Itl K.k a) ds := by
  cases r with
  | kl h r => exact ⟨_, rfl, fun H s => ⟨_, h.mono s⟩, wk_list (fun H s => h.mono s) r fun _ _ _ _ => trivial⟩
theorem wk_repT {K : KJ} {S : Hp} {O : Addr → Prop} {v : V} {ds : List D} (r : Rep K S O v (.tup ds)) : ∃ a, v = .ref a ∧ (∀ H, Same S H → ∃ xs, SqT K.k H a xs) ∧ Wk K O S (Itt K.k a) ds := by
  cases r with
  | tup h r => exact ⟨_, rfl, fun H s => ⟨_, SqT.mono h s⟩, wk_tup (fun H s => SqT.mono h s) r⟩
theorem q_forV {x : Str} {px : Pos} (i : Nat) (hp : PassesOwn (model X.prog X.w) X.A X.env X.xe) (hc : X.calm = true) (hN : X.N[i]? = some x) (hv : Vis X.env.scope x) (hg : QG X W tg g) (hb : QSs X cl W body f) (hs : ∀ y, foldedSetIterable (.Name x px) X.env y = pure y := by intro _; rfl)
    (hd : (x == ("__debug__" : Str)) = false := by decide) (hcd : (x == ("__classdict__" : Str)) = false := by decide) :
    QS X cl W (.For tg (.Name x px) body [] pos) (sForV i g f) := by
  refine PSimp (ps_for hp hc (pi_list (pe_var hN hv hd hcd)) hg hb hs) fun D σ H ⟨w, env, ev, h⟩ => ?_
  unfold sForV at h
  split at h
  · rename_i ds e
    obtain ⟨p, q1, q2, vs, q3, q4⟩ := ev.ow i _ e
    refine ⟨_, q1, p, rfl, ⟨vs, SqL.of q3⟩, ?_⟩
    have evp := ev.pin e q1
    have hl1 : i < env.length := (List.getElem?_eq_some_iff.mp e).1
    have npin : ¬ Own (env.set i .pn) σ p := fun ⟨j, d', e1, e2⟩ => by
      by_cases n : j = i
      · subst n; rw [List.getElem?_set_self hl1] at e1; cases e1
      · rw [List.getElem?_set_ne (Ne.symm n)] at e1
        exact n (ev.dist j i p d' _ e1 e e2 q1)
    have hpS : minus H (Own (env.set i .pn) σ) p = some (.lst vs) := by rw [minus_at npin]; exact q3
    have r0 : RepL ⟨X.K, W.J⟩ (minus H (Own (env.set i .pn) σ)) (fun a => w.O a ∨ a = p) vs ds := q4.move (fun a o e' c => by
      have n : ¬ Own (env.set i .pn) σ a := fun ⟨k, d', e1, e2⟩ => by
        by_cases n : k = i
        · subst n; rw [List.getElem?_set_self hl1] at e1; cases e1
        · rw [List.getElem?_set_ne (Ne.symm n)] at e1
          have ow : Own env σ a := ⟨k, d', e1, e2⟩
          obtain ⟨_, u, hu, mu⟩ := ev.own ow
          rw [e'] at hu; cases hu
          rcases c with c | c
          · exact c (.inr ow)
          · exact c mu
      rw [minus_at n]; exact e') fun a z => .inl (z.elim .inl fun z => .inr ⟨i, _, e, by rw [z]; exact q1⟩)
    refine for_core (w := ⟨fun a => w.O a ∨ a = p, minus H (Own (env.set i .pn) σ), σ⟩) (K := X.K) (W := W) (cl := cl) (wk_list (K := ⟨X.K, W.J⟩) (fun H' s => SqL.of (s _ _ hpS)) r0 fun _ _ _ _ => trivial) (Same.refl _) evp ?_ fun a z => z
    generalize forL g f ds (env.set i .pn) = o at h ⊢
    have hS : Same w.H0 (minus H (Own (env.set i .pn) σ)) := fun a o q => by
      have n : ¬ Own (env.set i .pn) σ a := fun ⟨j, d', e1, e2⟩ => by
        by_cases n : j = i
        · subst n; rw [List.getElem?_set_self hl1] at e1; cases e1
        · rw [List.getElem?_set_ne (Ne.symm n)] at e1
          rw [(ev.own ⟨j, d', e1, e2⟩).1.1] at q; cases q
      rw [minus_at n]; exact ev.ext a o q
    match o, h with
    | some (.nx e2), h =>
      intro σ2 H2 ev2
      unfold DV.unpin at h
      simp only at h
      split at h
      · rename_i hp2
        split at h
        · rename_i hsub
          exact h _ _ (ev.unpin e q1 ev2 hp2 hsub)
        · exact h.elim
      · exact h.elim
    | some (.rt r), h =>
      intro v H' s q
      refine h v H' (hS.trans s) ?_
      have q' := q.back hS
      match r, q' with
      | .sh d, q' => exact Rep.anti q' fun a z => .inl z
      | .bw d, ⟨p', e1, o1⟩ => exact ⟨p', e1, o1.anti fun a z => .inl z⟩
      | .nw d, ⟨p', e1, n, o1⟩ => exact ⟨p', e1, n, o1.anti fun a z => z.elim (fun z => .inl (.inl z)) .inr⟩
    | some (.bk _), h => exact h.elim
    | some (.ct _), h => exact h.elim
    | some (.err _ _ _), h => exact h.elim
    | none, h => exact h.elim
  · rename_i ds e
    obtain ⟨v, q1, q2⟩ := ev.sh i _ e
    obtain ⟨evk, u⟩ := ev.keep
    obtain ⟨a, rfl, hsq, wk⟩ := wk_rep (rep_minus ev q2)
    exact ⟨_, q1, a, rfl, hsq H minus_same, for_core (K := X.K) (W := W) (cl := cl) (w := ⟨w.O, minus H (Own env σ), w.σ0⟩) wk (Same.refl _) evk (h.up u) fun a z => z⟩
  · rename_i ds e
    obtain ⟨v, q1, q2⟩ := ev.sh i _ e
    obtain ⟨evk, u⟩ := ev.keep
    obtain ⟨a, rfl, hsq, wk⟩ := wk_repK (rep_minus ev q2)
    exact ⟨_, q1, a, rfl, hsq H minus_same, for_core (K := X.K) (W := W) (cl := cl) (w := ⟨w.O, minus H (Own env σ), w.σ0⟩) wk (Same.refl _) evk (h.up u) fun a z => z⟩
  · exact h.elim

/-! ### iterables -/
def iOfL (x : Option Er) : Option Ir :=
  match x with
  | some (.val (.sh (.lst ds))) => some (.val ds)
  | some (.val (.sh (.kl ds))) => some (.val ds)
  | some (.val (.nw (.lst ds))) => some (.val ds)
  | some (.err n fs) => some (.err n fs)
  | _ => none
def iOfT (x : Option Er) : Option Ir :=
  match x with
  | some (.val (.sh (.tup ds))) => some (.val ds)
  | some (.err n fs) => some (.err n fs)
  | _ => none
def sItL (fe : SE) : SI := fun env => iOfL (fe env)
def sItT (fe : SE) : SI := fun env => iOfT (fe env)
theorem qi_list {e : Expr} {fe : SE} (he : QE X cl W e fe) : QI X cl W tg e (sItL fe) := by
  refine PIimp (pi_list he) fun σ H R ⟨w, env, ev, h⟩ => ⟨w, env, ev, ?_⟩
  unfold sItL at h
  generalize fe env = y at h ⊢
  unfold iOfL at h
  split at h
  · rename_i ds
    intro v H' s q
    obtain ⟨a, rfl, hsq, wk⟩ := wk_rep (rep_minus (ev.same s) q)
    exact ⟨a, rfl, hsq H' minus_same, h _ _ s wk⟩
  · rename_i ds
    intro v H' s q
    obtain ⟨a, rfl, hsq, wk⟩ := wk_repK (rep_minus (ev.same s) q)
    exact ⟨a, rfl, hsq H' minus_same, h _ _ s wk⟩
  · rename_i ds
    intro v H' s ⟨p, e1, n, o⟩
    subst e1
    have q : Rep ⟨X.K, W.J⟩ H' (OO w.O env σ) (.ref p) (.lst ds) := (o.anti fun a z => .inl z).rep fun z => ev.there z n
    obtain ⟨a, e2, hsq, wk⟩ := wk_rep (rep_minus (ev.same s) q)
    exact ⟨a, e2, hsq H' minus_same, h _ _ s wk⟩
  · exact h
  · exact h.elim
theorem qi_tup {e : Expr} {fe : SE} (he : QE X cl W e fe) : QI X cl W tg e (sItT fe) := by
  refine PIimp (pi_tup he) fun σ H R ⟨w, env, ev, h⟩ => ⟨w, env, ev, ?_⟩
  unfold sItT at h
  generalize fe env = y at h ⊢
  unfold iOfT at h
  split at h
  · rename_i ds
    intro v H' s q
    obtain ⟨a, rfl, hsq, wk⟩ := wk_repT (rep_minus (ev.same s) q)
    exact ⟨a, rfl, hsq H' minus_same, h _ _ s wk⟩
  · exact h
  · exact h.elim
def rngD (lo : Int) (n : Nat) : List D := (List.range n).map fun (k : Nat) => D.int (lo + k)
theorem rngD_get {lo : Int} {n i : Nat} : (rngD lo n)[i]? = if i < n then some (.int (lo + i)) else none := by
  unfold rngD
  rw [List.getElem?_map]
  by_cases h : i < n
  · rw [List.getElem?_range h, if_pos h]; rfl
  · rw [List.getElem?_eq_none (by simpa using h), if_neg h]; rfl
theorem wk_range {K : KJ} {S : Hp} {O : Addr → Prop} {lo : Int} {n : Nat} : Wk K O S (Itr lo n) (rngD lo n) := by
  intro H i s
  rw [rngD_get]
  refine ⟨fun d e => ?_, fun e => ?_⟩
  · split at e
    · rename_i h
      cases e
      exact ⟨h, fun x H' ⟨e1, e2⟩ => by subst e1 e2; exact ⟨Same.refl _, fun P _ => .int _⟩⟩
    · cases e
  · split at e
    · cases e
    · rename_i h
      show n ≤ i
      omega
def sRng1 (fa : SA) : SI := fun env =>
  match fa env with
  | some (.vals [r]) => (match r.d with
    | .int j => if -4611686018427387904 ≤ j ∧ j < 4611686018427387904 then some (.val (rngD 0 j.toNat)) else none
    | _ => none)
  | some (.err n fs) => some (.err n fs)
  | _ => none
def sRng2 (fa : SA) : SI := fun env =>
  match fa env with
  | some (.vals [r, r2]) => (match r.d, r2.d with
    | .int i, .int j => if (-4611686018427387904 ≤ i ∧ i < 4611686018427387904) ∧ -4611686018427387904 ≤ j ∧ j < 4611686018427387904 then some (.val (rngD i (j - i).toNat)) else none
    | _, _ => none)
  | some (.err n fs) => some (.err n fs)
  | _ => none
theorem two62 : (2 : Int) ^ 62 = 4611686018427387904 := by decide
theorem qi_range1 {a : Expr} {fa : SA} {p : Pos} (hg : Gl X "range") (hm : X.mg "range" = none) (ha : QA X cl W [a] fa) (hs : starEach [a] X.env = [(false, eval a X.env)] := by rfl) : QI X cl W tg (.Call (.Name "range" p) [a] [] pos) (sRng1 fa) := by
  refine PIimp (pi_range1 hg hm ha hs) fun σ H R ⟨w, env, ev, h⟩ => ⟨w, env, ev, ?_⟩
  unfold sRng1 at h
  match fa env, h with
  | some (.err n fs), h => exact h
  | none, h => exact h.elim
  | some (.vals []), h => exact h.elim
  | some (.vals (_ :: _ :: _)), h => exact h.elim
  | some (.vals [r]), h =>
    intro vs H' s q
    simp only at h
    split at h
    · rename_i j ej
      split at h
      · rename_i c
        cases q with
        | cons q q0 =>
          cases q0
          have := q.vw
          rw [ej] at this
          cases this.int_
          exact ⟨j, rfl, by have := c.1; rw [two62]; exact this, by rw [two62]; exact c.2, h _ _ s wk_range⟩
      · exact h.elim
    · exact h.elim
theorem qi_range2 {a b : Expr} {fa : SA} {p : Pos} (hg : Gl X "range") (hm : X.mg "range" = none) (ha : QA X cl W [a, b] fa) (hs : starEach [a, b] X.env = [(false, eval a X.env), (false, eval b X.env)] := by rfl) (hs2 : starEach [b] X.env = [(false, eval b X.env)] := by rfl) : QI X cl W tg (.Call (.Name "range" p) [a, b] [] pos) (sRng2 fa) := by
  refine PIimp (pi_range2 hg hm ha hs hs2) fun σ H R ⟨w, env, ev, h⟩ => ⟨w, env, ev, ?_⟩
  unfold sRng2 at h
  match fa env, h with
  | some (.err n fs), h => exact h
  | none, h => exact h.elim
  | some (.vals []), h => exact h.elim
  | some (.vals [_]), h => exact h.elim
  | some (.vals (_ :: _ :: _ :: _)), h => exact h.elim
  | some (.vals [r, r2]), h =>
    intro vs H' s q
    simp only at h
    split at h
    · rename_i i j ei ej
      split at h
      · rename_i c
        cases q with
        | cons q q0 =>
          cases q0 with
          | cons q1 q0 =>
            cases q0
            have := q.vw
            rw [ei] at this
            cases this.int_
            have := q1.vw
            rw [ej] at this
            cases this.int_
            exact ⟨i, j, rfl, by rw [two62]; exact ⟨c.1.1, c.1.2, c.2.1, c.2.2⟩, h _ _ s wk_range⟩
      · exact h.elim
    · exact h.elim
end
end DV

/-! DV8: comprehensions, stores by place and key -/
namespace DV
open PySem PySem.Spec L2

section
variable {K : KJ} {cl : Nat → Addr} {w : Wd} {env : En} {σ : L2.St} {H H' H1 : Hp}
/-- a new address that may not be touched -/
theorem EnvR.addO {p : Addr} (ev : EnvR K w env σ H1) (hp : H1 p = none) (s : Same H1 H) (h : H p ≠ none) : EnvR K ⟨fun a => w.O a ∨ a = p, w.H0, w.σ0⟩ env σ H := by
  have own : ∀ a, OO (fun a => w.O a ∨ a = p) env σ a → OO w.O env σ a ∨ H1 a = none := fun a z => by
    rcases z with (z | z) | z
    · exact .inl (.inl z)
    · exact .inr (by rw [z]; exact hp)
    · exact .inl (.inr z)
  refine ⟨ev.len, fun a z => ?_, ev.ext.trans s, fun i d q => ?_, fun i d q => ?_, ev.pn, ev.dist⟩
  · rcases z with z | z
    · exact (ev.same s).dom a z
    · rw [z]; exact h
  · obtain ⟨v, a, b⟩ := ev.sh i d q
    exact ⟨v, a, b.move (.of_same s) own⟩
  · obtain ⟨p', a, b, c⟩ := ev.ow i d q
    refine ⟨p', a, ⟨b.1, fun z => ?_⟩, c.move (.of_same s) own fun o e => s _ o e⟩
    rcases z with z | z
    · exact b.2 z
    · obtain ⟨o, e, _⟩ := c.mt
      rw [z, hp] at e; cases e
/-- slots forgotten -/
def wipeE (env : En) : List Nat → En
  | [] => env
  | v :: vs => (wipeE env vs).set v .no
def notOw : Option Sl → Bool
  | some (.ow _) => false
  | some .pn => false
  | _ => true
theorem EnvR.no {v : Nat} (ev : EnvR K w env σ H) (hn : notOw env[v]? = true) : EnvR K w (env.set v .no) (σ.set v none) H := by
  have back : ∀ (j : Nat) (s : Sl), s ≠ .no → (env.set v .no)[j]? = some s → j ≠ v ∧ env[j]? = some s := fun j s n e => by
    by_cases z : j = v
    · subst z
      by_cases hl : j < env.length
      · rw [List.getElem?_set_self hl] at e; cases e; exact (n rfl).elim
      · rw [List.getElem?_eq_none (by simpa using hl)] at e; cases e
    · rw [List.getElem?_set_ne (Ne.symm z)] at e; exact ⟨z, e⟩
  have own : ∀ a, OO w.O (env.set v .no) (σ.set v none) a → OO w.O env σ a := fun a z => by
    rcases z with z | ⟨j, d, e1, e2⟩
    · exact .inl z
    · obtain ⟨n, q⟩ := back j (.ow d) (fun z => nomatch z) e1
      rw [List.getElem?_set_ne (Ne.symm n)] at e2
      exact .inr ⟨j, d, q, e2⟩
  refine ⟨by simpa using ev.len, ev.dom, ev.ext, fun j d q => ?_, fun j d q => ?_, fun j q => ?_, fun j k p d e h1 h2 h3 h4 => ?_⟩
  · obtain ⟨n, q⟩ := back j (.sh d) (fun z => nomatch z) q
    obtain ⟨x, a, b⟩ := ev.sh j d q
    exact ⟨x, by rw [List.getElem?_set_ne (Ne.symm n)]; exact a, b.anti own⟩
  · obtain ⟨n, q⟩ := back j (.ow d) (fun z => nomatch z) q
    obtain ⟨x, a, b, c⟩ := ev.ow j d q
    exact ⟨x, by rw [List.getElem?_set_ne (Ne.symm n)]; exact a, b, c.anti own⟩
  · obtain ⟨n, q⟩ := back j .pn (fun z => nomatch z) q
    rw [List.getElem?_set_ne (Ne.symm n)]; exact ev.pn j q
  · obtain ⟨n1, h1⟩ := back j (.ow d) (fun z => nomatch z) h1
    obtain ⟨n2, h2⟩ := back k (.ow e) (fun z => nomatch z) h2
    rw [List.getElem?_set_ne (Ne.symm n1)] at h3
    rw [List.getElem?_set_ne (Ne.symm n2)] at h4
    exact ev.dist j k p d e h1 h2 h3 h4
theorem own_no {v : Nat} (hn : notOw env[v]? = true) {a : Addr} (z : Own env σ a) : Own (env.set v .no) (σ.set v none) a := by
  obtain ⟨j, d, e1, e2⟩ := z
  have n : j ≠ v := fun z => by subst z; rw [e1] at hn; cases hn
  exact ⟨j, d, by rw [List.getElem?_set_ne (Ne.symm n)]; exact e1, by rw [List.getElem?_set_ne (Ne.symm n)]; exact e2⟩
theorem wipeE_get {i : Nat} : ∀ {vs : List Nat}, i ∉ vs → (wipeE env vs)[i]? = env[i]?
  | [], _ => rfl
  | v :: vs, h => by
    unfold wipeE
    rw [List.getElem?_set_ne (fun z => h (by rw [z]; exact List.mem_cons_self)), wipeE_get fun z => h (List.mem_cons_of_mem _ z)]
theorem notOw_wipe : ∀ (vs : List Nat) (i : Nat), notOw env[i]? = true → notOw (wipeE env vs)[i]? = true
  | [], _, h => h
  | v :: vs, i, h => by
    unfold wipeE
    by_cases n : i = v
    · subst n
      by_cases hl : i < (wipeE env vs).length
      · rw [List.getElem?_set_self hl]; rfl
      · rw [List.getElem?_eq_none (by simpa using hl)]; rfl
    · rw [List.getElem?_set_ne (Ne.symm n)]; exact notOw_wipe vs i h
theorem EnvR.wipe : ∀ {vs : List Nat}, EnvR K w env σ H → (vs.all fun i => notOw env[i]?) = true → EnvR K w (wipeE env vs) (L2.wipe σ vs) H ∧ ∀ a, Own env σ a → Own (wipeE env vs) (L2.wipe σ vs) a
  | [], ev, _ => ⟨ev, fun _ z => z⟩
  | v :: vs, ev, h => by
    rw [List.all_cons, Bool.and_eq_true] at h
    obtain ⟨h1, h2⟩ := EnvR.wipe (vs := vs) ev h.2
    have n := notOw_wipe vs v h.1
    exact ⟨h1.no n, fun a z => own_no n (h2 a z)⟩
theorem own_sh {v : Nat} {d : D} {x : V} (hn : notOw env[v]? = true) {a : Addr} (z : Own env σ a) : Own (env.set v (.sh d)) (σ.set v (some x)) a := by
  obtain ⟨j, d, e1, e2⟩ := z
  have n : j ≠ v := fun z => by subst z; rw [e1] at hn; cases hn
  exact ⟨j, d, by rw [List.getElem?_set_ne (Ne.symm n)]; exact e1, by rw [List.getElem?_set_ne (Ne.symm n)]; exact e2⟩
theorem notOw_set {i j : Nat} {d : D} (h : notOw env[j]? = true) : notOw (env.set i (.sh d))[j]? = true := by
  by_cases n : j = i
  · subst n
    by_cases hl : j < env.length
    · rw [List.getElem?_set_self hl]; rfl
    · rw [List.getElem?_eq_none (by simpa using hl)]; rfl
  · rw [List.getElem?_set_ne (Ne.symm n)]; exact h
theorem wipe_set {i : Nat} {v : V} : ∀ {vs : List Nat}, i ∈ vs → L2.wipe (σ.set i (some v)) vs = L2.wipe σ vs
  | x :: vs, h => by
    unfold L2.wipe
    by_cases n : i ∈ vs
    · rw [wipe_set n]
    · have e : x = i := by
        rcases List.mem_cons.mp h with e | e
        · exact e.symm
        · exact (n e).elim
      subst e
      have : ∀ ws : List Nat, x ∉ ws → L2.wipe (σ.set x (some v)) ws = (L2.wipe σ ws).set x (some v) := by
        intro ws
        induction ws with
        | nil => intro _; rfl
        | cons y ws ih =>
          intro h
          unfold L2.wipe
          rw [ih fun z => h (List.mem_cons_of_mem _ z), List.set_comm _ _ (fun z => h (by rw [← z]; exact List.mem_cons_self))]
      rw [this vs n, List.set_set]
theorem wipe_wipe {vs ws : List Nat} (h : ∀ i ∈ vs, i ∈ ws) : L2.wipe (L2.wipe σ vs) ws = L2.wipe σ ws := by
  induction vs with
  | nil => rfl
  | cons v vs ih =>
    show L2.wipe ((L2.wipe σ vs).set v none) ws = _
    have key : ∀ (τ : L2.St) (us : List Nat), v ∈ us → L2.wipe (τ.set v none) us = L2.wipe τ us := by
      intro τ us
      induction us with
      | nil => intro h; cases h
      | cons u us ih2 =>
        intro hm
        unfold L2.wipe
        by_cases n : v ∈ us
        · rw [ih2 n]
        · have e : u = v := by
            rcases List.mem_cons.mp hm with e | e
            · exact e.symm
            · exact (n e).elim
          subst e
          have : ∀ ws : List Nat, u ∉ ws → L2.wipe (τ.set u none) ws = (L2.wipe τ ws).set u none := by
            intro ws
            induction ws with
            | nil => intro _; rfl
            | cons y ws ih =>
              intro h
              unfold L2.wipe
              rw [ih fun z => h (List.mem_cons_of_mem _ z), List.set_comm _ _ (fun z => h (by rw [← z]; exact List.mem_cons_self))]
          rw [this us n, List.set_set]
    rw [key _ ws (h v List.mem_cons_self), ih fun i hi => h i (List.mem_cons_of_mem _ hi)]
end

/-- a comprehension's target: x, or (x, y, ..), of the block's own names -/
def lcTg : List Nat → List D → En → Option En
  | [], [], env => some env
  | i :: is, d :: ds, env => lcTg is ds (env.set i (.sh d))
  | _, _, _ => none
inductive LcT where
  | one (i : Nat) | tup (is : List Nat)
def LcT.go : LcT → D → En → Option En
  | .one i, d, env => some (env.set i (.sh d))
  | .tup is, .tup ds, env => lcTg is ds env
  | .tup _, _, _ => none
def LcT.ixs : LcT → List Nat
  | .one i => [i]
  | .tup is => is
def tLcTs : List Nat → TGs
  | [] => gNil
  | i :: is => gCons (gName i) (tLcTs is)
def LcT.tg (K : PySem.W.Frag) : LcT → TG
  | .one i => gName i
  | .tup is => gTup K is.length (tLcTs is)
def lcL (t : LcT) (ft fe : SE) (env : En) : List D → Option (List D)
  | [] => some []
  | d :: ds =>
    match t.go d env with
    | none => none
    | some env1 => (match ft env1 with
      | some (.val (.sh (.bl true))) => (match fe env1 with
        | some (.val r) => (match r.frz, lcL t ft fe env ds with
          | some x, some xs => some (x :: xs)
          | _, _ => none)
        | _ => none)
      | some (.val (.sh (.bl false))) => lcL t ft fe env ds
      | _ => none)
def sLc (fi : SI) (own : List Nat) (t : LcT) (ft fe : SE) : SE := fun env =>
  match fi env with
  | some (.val ds) => if ds.length ≤ 100000 ∧ (own.all fun i => notOw env[i]?) = true then
      (match lcL t ft fe (wipeE env own) ds with
      | some xs => vN (.lst xs)
      | none => none) else none
  | some (.err n fs) => some (.err n fs)
  | none => none
abbrev wN (W : WJ) : WJ := ⟨fun _ _ _ _ => False, W.J⟩
abbrev sYes : SE := fun _ => vS (.bl true)
section
variable {K : KJ} {w : Wd}
theorem lcTs_ok {own : List Nat} : ∀ {is : List Nat} {vs : List V} {ds : List D} {env env1 : En} {σ : L2.St} {H : Hp} {Q : L2.St → Hp → Prop}, EnvR K w env σ H → RepL K H (OO w.O env σ) vs ds → lcTg is ds env = some env1 → (∀ i ∈ is, i ∈ own) → (∀ i ∈ own, notOw env[i]? = true) →
    (∀ σ2, L2.wipe σ2 own = L2.wipe σ own → EnvR K w env1 σ2 H → (∀ a, Own env σ a → Own env1 σ2 a) → Q σ2 H) → tLcTs is vs σ H Q
  | [], _, _, env, env1, σ, H, Q, ev, .nil, e, _, _, q => by
    cases e
    exact ⟨rfl, q σ rfl ev fun _ z => z⟩
  | [], _, _, env, env1, σ, H, Q, ev, .cons _ _, e, _, _, q => by cases e
  | i :: is, _, _, env, env1, σ, H, Q, ev, .nil, e, _, _, q => by cases e
  | i :: is, _, _, env, env1, σ, H, Q, ev, .cons r rr, e, hi, hn, q => by
    have hio := hi i List.mem_cons_self
    refine ⟨_, _, rfl, lcTs_ok (own := own) (ev.set_sh r) (rr.anti fun a z => set_env_own ev.len.symm z) e (fun j hj => hi j (List.mem_cons_of_mem _ hj)) (fun j hj => notOw_set (hn j hj)) fun σ2 e2 ev2 ow => q σ2 ?_ ev2 fun a z => ow a (own_sh (hn i hio) z)⟩
    rw [e2]
    exact wipe_set hio
theorem lct_ok {own : List Nat} {t : LcT} {v : V} {d : D} {env env1 : En} {σ : L2.St} {H : Hp} {Q : L2.St → Hp → Prop} (ev : EnvR K w env σ H) (r : Rep K H (OO w.O env σ) v d) (e : t.go d env = some env1) (hi : ∀ i ∈ t.ixs, i ∈ own) (hn : ∀ i ∈ own, notOw env[i]? = true)
    (q : ∀ σ2, L2.wipe σ2 own = L2.wipe σ own → EnvR K w env1 σ2 H → (∀ a, Own env σ a → Own env1 σ2 a) → Q σ2 H) : t.tg K.k v σ H Q := by
  cases t with
  | one i =>
    cases e
    have hio := hi i (List.mem_singleton.mpr rfl)
    exact q _ (wipe_set hio) (ev.set_sh r) fun a z => own_sh (hn i hio) z
  | tup is =>
    cases r with
    | tup hs r =>
      have hl : ∀ {is : List Nat} {ds : List D} {env env1 : En}, lcTg is ds env = some env1 → ds.length = is.length := by
        intro is
        induction is with
        | nil => intro ds env env1 e; cases ds with
          | nil => rfl
          | cons _ _ => cases e
        | cons i is ih => intro ds env env1 e; cases ds with
          | nil => cases e
          | cons d ds => simp [ih (show lcTg is ds (env.set i (.sh d)) = some env1 from e)]
      exact ⟨_, _, rfl, hs, r.len.trans (hl e), lcTs_ok (own := own) ev r e hi hn q⟩
    | _ => cases e
end
section
variable {X : Cx} {cl : Nat → Addr} {W : WJ} {tg it elt : Expr} {ifs : List Expr} {fi : SI} {ft fe : SE} {t : LcT} {scope : Scope} {own : List (Str × Nat)} {pos : Pos}
theorem lc_main {σ : L2.St} {H : Hp} {Q : VK} (hix : ∀ i ∈ t.ixs, i ∈ own.map (·.2)) {tt : TT} (htt : ∀ σ H Q, tT X.K cl (wN W) ft σ H Q → tt σ H Q) (h : tE X.K cl W (sLc fi (own.map (·.2)) t ft fe) σ H Q) :
    tLc (tI X.K cl W fi) (t.tg X.K) tt (tE X.K cl (wN W) fe) (own.map (·.2)) σ H Q := by
  obtain ⟨w, env, ev, h⟩ := h
  refine ⟨w, env, ev, ?_⟩
  unfold sLc at h
  match fi env, h with
  | some (.err n fs), h => exact h
  | some (.val ds), h =>
    intro J H1 s1 wk Dd hD
    simp only at h
    split at h
    · rename_i hc
      obtain ⟨hlen, hno⟩ := hc
      split at h
      · rename_i tot etot
        have ev1 := ev.same s1
        obtain ⟨evk, u⟩ := ev1.keep
        have hnoB : ∀ i ∈ own.map (·.2), notOw (wipeE env (own.map (·.2)))[i]? = true := fun i hi => notOw_wipe _ i (List.all_eq_true.mp hno i hi)
        refine ⟨fun i m Hi => Same H1 Hi ∧ ∃ acc xs ys, Hi Dd = some (.lst acc) ∧ RepL ⟨X.K, W.J⟩ Hi (fun a => OO w.O env σ a ∨ a = Dd) acc xs ∧ lcL t ft fe (wipeE env (own.map (·.2))) (ds.drop i) = some ys ∧ xs ++ ys = tot ∧ m = ds.length - i ∧ xs.length ≤ i, ⟨ds.length, same_upd hD, [], [], tot, upd_same, .nil, etot, rfl, by omega, Nat.le_refl _⟩, ?_⟩
        intro i m Hi ⟨sH, acc, xs, ys, hacc, racc, eys, exy, hm, hxi⟩
        obtain ⟨go, stop⟩ := wk Hi i (Same.trans minus_same sH)
        cases e : ds[i]? with
        | none =>
          have hl := List.getElem?_eq_none_iff.mp e
          rw [List.drop_eq_nil_of_le hl] at eys
          cases eys
          rw [List.append_nil] at exy
          subst exy
          exact .inl ⟨stop e, h _ Hi (s1.trans sH) ⟨Dd, rfl, s1.free hD, acc, hacc, racc⟩⟩
        | some d =>
          obtain ⟨hi, ed⟩ := List.getElem?_eq_some_iff.mp e
          have edrop : ds.drop i = d :: ds.drop (i + 1) := by rw [List.drop_eq_getElem_cons hi, ed]
          rw [edrop] at eys
          obtain ⟨g1, y⟩ := go d e
          refine .inr ⟨g1, fun H' => Same H1 H' ∧ ∃ acc xs ys, H' Dd = some (.lst acc) ∧ RepL ⟨X.K, W.J⟩ H' (fun a => OO w.O env σ a ∨ a = Dd) acc xs ∧ lcL t ft fe (wipeE env (own.map (·.2))) (ds.drop (i + 1)) = some ys ∧ xs ++ ys = tot ∧ xs.length ≤ i + 1, fun H' ⟨a, acc, xs, ys, b, c, d, e, f⟩ => ⟨ds.length - (i + 1), by omega, a, acc, xs, ys, b, c, d, e, rfl, f⟩, fun x H' hy => ?_⟩
          obtain ⟨s', rep⟩ := y x H' hy
          have sH' := sH.trans s'
          have hacc' := s' _ _ hacc
          -- the block's slots
          have evB := (ev1.addO hD sH' (by rw [hacc']; exact fun z => nomatch z))
          obtain ⟨evW, ownW⟩ := EnvR.wipe (vs := own.map (·.2)) evB hno
          unfold lcL at eys
          split at eys
          · cases eys
          · rename_i env1 e1
            have hrep : Rep ⟨X.K, W.J⟩ H' (OO (fun a => w.O a ∨ a = Dd) (wipeE env (own.map (·.2))) (L2.wipe σ (own.map (·.2)))) x d := by
              refine rep _ fun a z => ?_
              rcases z with (z | z) | z
              · exact .inl z
              · right
                rw [z]
                cases q : minus H1 (Own env σ) Dd with
                | none => rfl
                | some o => have := minus_same _ _ q; rw [hD] at this; cases this
              · right
                cases q : minus H1 (Own env σ) a with
                | none => rfl
                | some o =>
                  have q1 := minus_same _ _ q
                  -- what the block owns was owned ahead
                  have oldown : ∀ (vs : List Nat) (a : Addr), Own (wipeE env vs) (L2.wipe σ vs) a → Own env σ a := by
                    intro vs
                    induction vs with
                    | nil => intro a z; exact z
                    | cons v vs ih =>
                      intro a ⟨j, d', h1, h2⟩
                      have n : j ≠ v := fun z => by
                        subst z
                        unfold wipeE at h1
                        by_cases hl : j < (wipeE env vs).length
                        · rw [List.getElem?_set_self hl] at h1; cases h1
                        · rw [List.getElem?_eq_none (by simpa using hl)] at h1; cases h1
                      unfold wipeE at h1
                      unfold L2.wipe at h2
                      rw [List.getElem?_set_ne (Ne.symm n)] at h1 h2
                      exact ih a ⟨j, d', h1, h2⟩
                  rw [minus_in (oldown _ a z)] at q
                  cases q
            refine lct_ok (own := own.map (·.2)) evW hrep e1 hix hnoB fun σ2 ew ev2 ow2 => ?_
            have ew' : L2.wipe σ2 (own.map (·.2)) = L2.wipe σ (own.map (·.2)) := by rw [ew]; exact wipe_wipe fun i hi => hi
            have ownall : ∀ a, OO w.O env σ a → OO (fun a => w.O a ∨ a = Dd) env1 σ2 a := fun a z => by
              rcases z with z | z
              · exact .inl (.inl z)
              · exact .inr (ow2 a (ownW a z))
            refine ⟨ew', htt _ _ _ ⟨_, env1, ev2, ?_⟩⟩
            split at eys
            · rename_i eft
              rw [eft]
              intro b H3 s3 q3
              cases q3
              refine ⟨true, rfl, L2.iteT ?_⟩
              refine ⟨_, env1, ev2.same s3, ?_⟩
              split at eys
              · rename_i r efe
                rw [efe]
                intro v H4 s4 q4
                split at eys
                · rename_i xd xsd ex1 ex2
                  cases eys
                  have sH4 := (sH'.trans s3).trans s4
                  have hacc4 := s4 _ _ (s3 _ _ hacc')
                  have rv : Rep ⟨X.K, W.J⟩ H4 (fun a => OO w.O env σ a ∨ a = Dd) v xd := (q4.rep (fun a z => (ev2.same s3).there z) ex1).anti fun a z => by
                    rcases z with z | z
                    · exact ownall a z
                    · exact .inl (.inr z)
                  have racc4 := ((racc.same s').same s3).same s4
                  have stp : Stp (fun a => OO w.O env σ a ∨ a = Dd) H4 (upd H4 Dd (.lst (acc ++ [v]))) := fun a o e c => by
                    by_cases n : a = Dd
                    · subst n
                      rw [hacc4] at e; cases e
                      rcases c with c | c
                      · exact (c (.inr rfl)).elim
                      · exact (c trivial).elim
                    · rw [upd_ne n]; exact e
                  refine ⟨acc, hacc4, ?_, ?_, acc ++ [v], xs ++ [xd], xsd, upd_same, (racc4.append (.one rv)).move stp fun a z => .inl z, ex2, by rw [List.append_assoc]; exact exy, by simpa using hxi⟩
                  · rw [racc.len]; exact line_lt (by omega)
                  · intro a o e
                    rw [upd_ne (ne_of_none e hD)]
                    exact sH4 a o e
                · cases eys
              · cases eys
            · rename_i eft
              rw [eft]
              intro b H3 s3 q3
              cases q3
              refine ⟨false, rfl, L2.iteF ?_⟩
              exact ⟨sH'.trans s3, acc, xs, ys, s3 _ _ hacc', (racc.same s').same s3, eys, exy, by omega⟩
            · cases eys
      · exact h.elim
    · exact h.elim
theorem q_lc (hc : X.calm = true) (hN : X.N.Nodup) (hi : QI X cl W tg it fi) (ok : BlkOk X.N X.env.scope scope own) (hix : ∀ i ∈ t.ixs, i ∈ own.map (·.2))
    (hg : ∀ (s : Shared) (H : Hp) (C : Addr) (cl' : List (Str × Addr)) (fp : List Addr), PG (X.blk s H scope (compEnvC scope cl' C X.env) fp) tg (t.tg X.K))
    (he : ∀ (s : Shared) (H : Hp) (C : Addr) (cl' : List (Str × Addr)) (fp : List Addr), QE (X.blk s H scope (compEnvC scope cl' C X.env) fp) cl (wN W) elt fe) (hs : ∀ x, foldedSetIterable it X.env x = pure x := by intro _; rfl) :
    QE X cl W (.ListComp elt [⟨tg, it, [], 0⟩] scope pos) (sLc fi (own.map (·.2)) t sYes fe) :=
  PEimp (pe_lc hc hN hi ok hg (fun _ _ _ _ _ => pts_nil) he hs) fun σ H Q h => lc_main hix (fun σ H Q ⟨w, env, ev, q⟩ => by
    obtain ⟨b, e, q⟩ := q (.bl true) H (Same.refl _) (.bl true)
    cases e
    exact q) h
theorem q_lcIf {c : Expr} (hc : X.calm = true) (hN : X.N.Nodup) (hi : QI X cl W tg it fi) (ok : BlkOk X.N X.env.scope scope own) (hix : ∀ i ∈ t.ixs, i ∈ own.map (·.2))
    (hg : ∀ (s : Shared) (H : Hp) (C : Addr) (cl' : List (Str × Addr)) (fp : List Addr), PG (X.blk s H scope (compEnvC scope cl' C X.env) fp) tg (t.tg X.K))
    (ht : ∀ (s : Shared) (H : Hp) (C : Addr) (cl' : List (Str × Addr)) (fp : List Addr), QT (X.blk s H scope (compEnvC scope cl' C X.env) fp) cl (wN W) c ft)
    (he : ∀ (s : Shared) (H : Hp) (C : Addr) (cl' : List (Str × Addr)) (fp : List Addr), QE (X.blk s H scope (compEnvC scope cl' C X.env) fp) cl (wN W) elt fe) (hs : ∀ x, foldedSetIterable it X.env x = pure x := by intro _; rfl) :
    QE X cl W (.ListComp elt [⟨tg, it, [c], 0⟩] scope pos) (sLc fi (own.map (·.2)) t ft fe) :=
  PEimp (pe_lc hc hN hi ok hg (fun s H C cl' fp => pts_one (ht s H C cl' fp)) he hs) fun σ H Q h => lc_main hix (fun _ _ _ q => q) h
/-- y = [..] -/
theorem q_setLc {i : Nat} {y : Str} {py spos : Pos} (hc : X.calm = true) (hN : X.N.Nodup) (hy : X.N[i]? = some y) (hyl : X.env.scope.names.lookup y = some .local)
    (hsw : swapsWith (.ListComp elt [⟨tg, it, [], 0⟩] scope pos) (some (.Name y py)) spos.line X.env = pure true) (hi : QI X cl W tg it fi) (ok : BlkOk X.N X.env.scope scope own) (hix : ∀ i ∈ t.ixs, i ∈ own.map (·.2))
    (hg : ∀ (s : Shared) (H : Hp) (C : Addr) (cl' : List (Str × Addr)) (fp : List Addr), PG (X.blk s H scope (compEnvC scope cl' C X.env) fp) tg (t.tg X.K))
    (he : ∀ (s : Shared) (H : Hp) (C : Addr) (cl' : List (Str × Addr)) (fp : List Addr), QE (X.blk s H scope (compEnvC scope cl' C X.env) fp) cl (wN W) elt fe) (hs : ∀ x, foldedSetIterable it X.env x = pure x := by intro _; rfl) :
    QS X cl W (.Assign [.Name y py] (.ListComp elt [⟨tg, it, [], 0⟩] scope pos) spos) (sSet i (sLc fi (own.map (·.2)) t sYes fe)) := by
  refine PSimp (ps_setLc (te := tE X.K cl (wN W) fe) hc hN hy hyl hsw hi ok hg (fun _ _ _ _ _ => pts_nil) he hs) fun D σ H ⟨w, env, ev, h⟩ => ?_
  refine lc_main (ft := sYes) (W := W) (fi := fi) (fe := fe) (t := t) (cl := cl) hix (fun σ H Q ⟨w, env, ev, q⟩ => by
    obtain ⟨b, e, q⟩ := q (.bl true) H (Same.refl _) (.bl true)
    cases e
    exact q) ⟨w, env, ev, ?_⟩
  exact okS.expr ev h fun r v H' _ ev' s q k => set_ok ev s q k
theorem q_setLcIf {c : Expr} {i : Nat} {y : Str} {py spos : Pos} (hc : X.calm = true) (hN : X.N.Nodup) (hy : X.N[i]? = some y) (hyl : X.env.scope.names.lookup y = some .local)
    (hsw : swapsWith (.ListComp elt [⟨tg, it, [c], 0⟩] scope pos) (some (.Name y py)) spos.line X.env = pure true) (hi : QI X cl W tg it fi) (ok : BlkOk X.N X.env.scope scope own) (hix : ∀ i ∈ t.ixs, i ∈ own.map (·.2))
    (hg : ∀ (s : Shared) (H : Hp) (C : Addr) (cl' : List (Str × Addr)) (fp : List Addr), PG (X.blk s H scope (compEnvC scope cl' C X.env) fp) tg (t.tg X.K))
    (ht : ∀ (s : Shared) (H : Hp) (C : Addr) (cl' : List (Str × Addr)) (fp : List Addr), QT (X.blk s H scope (compEnvC scope cl' C X.env) fp) cl (wN W) c ft)
    (he : ∀ (s : Shared) (H : Hp) (C : Addr) (cl' : List (Str × Addr)) (fp : List Addr), QE (X.blk s H scope (compEnvC scope cl' C X.env) fp) cl (wN W) elt fe) (hs : ∀ x, foldedSetIterable it X.env x = pure x := by intro _; rfl) :
    QS X cl W (.Assign [.Name y py] (.ListComp elt [⟨tg, it, [c], 0⟩] scope pos) spos) (sSet i (sLc fi (own.map (·.2)) t ft fe)) := by
  refine PSimp (ps_setLc (tt := tT X.K cl (wN W) ft) (te := tE X.K cl (wN W) fe) hc hN hy hyl hsw hi ok hg (fun s H C cl2 fp => pts_one (ht s H C cl2 fp)) he hs) fun D σ H ⟨w, env, ev, h⟩ => ?_
  refine lc_main (ft := ft) (W := W) (fi := fi) (fe := fe) (t := t) (cl := cl) hix (fun _ _ _ q => q) ⟨w, env, ev, ?_⟩
  exact okS.expr ev h fun r v H' _ ev' s q k => set_ok ev s q k
end
end DV

/-! DV9: is, the law's end, constants, stores -/
namespace DV
open PySem PySem.Spec L2

/-! ### is -/
def isD : D → D → Option Bool
  | .non, .non => some true
  | .bl a, .bl b => some (a == b)
  | .bl _, .non => some false
  | .int _, .non => some false
  | .str _, .non => some false
  | .tup _, .non => some false
  | .lst _, .non => some false
  | .kl _, .non => some false
  | .dct _, .non => some false
  | _, _ => none
def dIs (a b : D) : Option Rv := (isD a b).map fun k => .sh (.bl k)
def dIsNot (a b : D) : Option Rv := (isD a b).map fun k => .sh (.bl (!k))
section
variable {K : PySem.W.Frag}
theorem Vw.ne_non {K : KJ} {H : Hp} {P : Addr → Prop} {v : V} {d : D} (h : Vw K H P v d) (hd : isD d .non = some false) : v ≠ .non := by
  cases d with
  | bl b => cases h.bl_; exact fun z => nomatch z
  | int b => cases h.int_; exact fun z => nomatch z
  | str b => cases h.str_; exact fun z => nomatch z
  | tup ds => obtain ⟨a, vs, rfl, _⟩ := h.tup_; exact fun z => nomatch z
  | lst ds => obtain ⟨a, vs, rfl, _⟩ := h.lst_; exact fun z => nomatch z
  | kl ds => obtain ⟨a, vs, rfl, _⟩ := h.kl_; exact fun z => nomatch z
  | dct ds => obtain ⟨a, vs, rfl, _⟩ := h.dct_; exact fun z => nomatch z
  | non => cases hd
  | op _ => cases hd
  | exc _ _ => cases hd
theorem is_cases {K : KJ} {H : Hp} {P : Addr → Prop} {x y : V} {d e : D} {k : Bool} (hx : Vw K H P x d) (hy : Vw K H P y e) (h : isD d e = some k) : (y = .non ∧ k = decide (x = .non)) ∨ ∃ a b : Bool, x = .bl a ∧ y = .bl b ∧ k = decide (a = b) := by
  cases e with
  | non =>
    left
    refine ⟨hy.non_, ?_⟩
    cases k with
    | true =>
      cases d with
      | non => cases hx.non_; rfl
      | _ => cases h
    | false => exact (decide_eq_false (hx.ne_non h)).symm
  | bl b =>
    right
    cases d with
    | bl a =>
      cases h
      exact ⟨a, b, hx.bl_, hy.bl_, by cases a <;> cases b <;> rfl⟩
    | _ => cases h
  | _ => cases d <;> cases h
theorem od_is : OpD K (fun x y H Q => (y = .non ∧ Q (.bl (decide (x = .non))) H) ∨ rIsB x y H Q) dIs := by
  intro J P H x y d e z Q hx hy hs _ h
  unfold dIs at hs
  cases q : isD d e with
  | none => rw [q] at hs; cases hs
  | some k =>
    rw [q] at hs
    cases hs
    rcases is_cases hx hy q with ⟨e1, e2⟩ | ⟨a, b, e1, e2, e3⟩
    · exact .inl ⟨e1, by rw [← e2]; exact h _ H (Same.refl _) (.bl _)⟩
    · exact .inr ⟨a, b, e1, e2, by rw [← e3]; exact h _ H (Same.refl _) (.bl _)⟩
theorem od_isNot : OpD K (fun x y H Q => (y = .non ∧ Q (.bl (!decide (x = .non))) H) ∨ rNotB x y H Q) dIsNot := by
  intro J P H x y d e z Q hx hy hs _ h
  unfold dIsNot at hs
  cases q : isD d e with
  | none => rw [q] at hs; cases hs
  | some k =>
    rw [q] at hs
    cases hs
    rcases is_cases hx hy q with ⟨e1, e2⟩ | ⟨a, b, e1, e2, e3⟩
    · exact .inl ⟨e1, by rw [← e2]; exact h _ H (Same.refl _) (.bl _)⟩
    · exact .inr ⟨a, b, e1, e2, by rw [← e3]; exact h _ H (Same.refl _) (.bl _)⟩
end
section
variable {X : Cx} {cl : Nat → Addr} {W : WJ} {a b : Expr} {f g : SE} {pos : Pos}
abbrev sIs := sBin dIs
abbrev sIsNot := sBin dIsNot
theorem q_is (ha : QE X cl W a f) (hb : QE X cl W b g) : QE X cl W (.Compare a [.Is] [b] pos) (sIs f g) := q_cmp (op_isN.or op_isBl) od_is ha hb (nomark _)
theorem q_isNot (ha : QE X cl W a f) (hb : QE X cl W b g) : QE X cl W (.Compare a [.IsNot] [b] pos) (sIsNot f g) := q_cmp (op_notN.or op_notBl) od_isNot ha hb (nomark _)
theorem qt_is (ha : QE X cl W a f) (hb : QE X cl W b g) : QT X cl W (.Compare a [.Is] [b] pos) (sIs f g) := qt_cmp (op_isN.or op_isBl) od_is ha hb (nomark _)
theorem qt_isNot (ha : QE X cl W a f) (hb : QE X cl W b g) : QT X cl W (.Compare a [.IsNot] [b] pos) (sIsNot f g) := qt_cmp (op_notN.or op_notBl) od_isNot ha hb (nomark _)
end

/-! ### the law -/
/-- the script as data -/
def scr (ns : List Int) : D := .kl (ns.map .int)
theorem repL_ints {K : KJ} {H : Hp} {O : Addr → Prop} : ∀ ns : List Int, RepL K H O (ns.map V.int) (ns.map D.int)
  | [] => .nil
  | n :: ns => .cons (.int n) (repL_ints ns)
theorem rep_scr {K : KJ} {H : Hp} {a : Addr} {ns : List Int} (h : SqL K.k H a (ns.map V.int)) : RepL K H (fun _ => False) [.ref a] [scr ns] := by
  refine .cons (.kl ?_ (repL_ints ns)) .nil
  rcases h with h | h
  · exact .inl ⟨fun z => z, h⟩
  · exact .inr h
theorem cx_end {P : Program} {w : World} {H : Hp} {s : Shared} {e : Value} {s' : Shared} (h : L2.CX P w [] H s (fun _ _ _ => False) e s') : False := by
  obtain ⟨_, _, _, _, _, _, _, _, _, _, _, _, z⟩ := h
  exact z
/-- the promise of the law's def, from the law's function -/
theorem law_sp {K : PySem.W.Frag} {cl : Nat → Addr} {sem : List D → Option Er} {H : Hp} {a : Addr} {ns : List Int} (h : sem [scr ns] = vS (.bl true)) (hS : SqL K H a (ns.map V.int)) :
    spOf K cl 1 sem [.ref a] H (fun v _ => v = .bl true) fun _ _ _ => False := by
  refine ⟨fun _ => False, [scr ns], fun _ z => z.elim, rep_scr (K := ⟨K, J0⟩) hS, rfl, ?_⟩
  rw [h]
  intro v H' s q
  cases q
  rfl
/-- the law row's walk -/
theorem dv_walk {l : PySem.W.OpenLaw} {k : Nat} {x : Str} {q : Program} {loose : List Str} {XP : (Str → Option Value) → Heap → Prop} {YP : World → Heap → Prop} {d : DefRec} {K : Params → PySem.W.Frag} {sem : List D → Option Er} (hn : l.most = some 63) (hdf : d.params.defaults = [])
    (hr : Room k callerA) (hY : ∀ (w : World) (h : Heap), YP w h → (K w.params).In h)
    (F : ∀ (w : World) (mg : Str → Option Value) (fa : Addr) (h : Heap), (K w.params).In h → h.Ns mainGlobals mg → mg d.name = some (.ref fa) →
      ∃ fd : FuncData, (∀ (s : Shared) (u : Value), BindsTo s fd ⟨[u], []⟩ [(x, u)]) ∧ ∀ base : Heap, (K w.params).In base → base.Ns mainGlobals mg → ∃ cl : Nat → Addr, FnOk l.prog w (K w.params) mg base (L2.CX l.prog w) k fa fd [x] (spOf (K w.params) cl 1 sem))
    (hlaw : ∀ ns : List Int, ns.length ≤ 63 → sem [scr ns] = vS (.bl true)) :
    PySem.W.WalkO q loose XP YP l.row.toRowW d [] (fun f vs => PySem.call f vs) :=
  L2.walk_of (n := 63) (k := k) (x := x) (CX := fun w => L2.CX l.prog w) (sp := fun w vs H Q E => vs.length = 1 ∧ ∃ cl : Nat → Addr, ∀ cl : Nat → Addr, spOf (K w.params) cl 1 sem vs H Q E) hn (by decide) hdf hr hY
    (fun w mg fa h hK hmg hfa => let ⟨fd, b, f⟩ := F w mg fa h hK hmg hfa; ⟨fd, b, fun base hKb hb => let ⟨cl, f⟩ := f base hKb hb; f.imp fun vs H Q E ⟨_, _, q⟩ => q cl⟩)
    (fun w H a ns hl _ hS => ⟨rfl, fun _ => 0, fun cl => law_sp (hlaw ns hl) hS⟩) fun w H s e s' z => cx_end z
/-- constants of the module: a tuple of ints -/
theorem rep_tupI {K : KJ} {a : Addr} {o : Obj} {its : Array Value} {n : Nat} {ds : List D} {vs : List V} (h : K.k.lookup a = some o) (hc : o.cls = .type "tuple") (hd : o.data = .seq its n) (hz : its.size ≤ sizeLine) (hv : Vals vs its.toList) (r : ∀ H P, RepL K H P vs ds) (H : Hp) (P : Addr → Prop) : Rep K H P (.ref a) (.tup ds) :=
  .tup (.inr ⟨o, its, n, h, hc, hd, hz, hv⟩) (r H P)

/-! ### stores -/
section
variable {X : Cx} {cl : Nat → Addr} {W : WJ} {e k : Expr} {fe fk : SE} {pos p' pos' : Pos} {i : Nat} {x : Str}
/-- a list's place -/
def placeD (ds : List D) (d : D) : Option Nat :=
  match d with
  | .int i => ixN ds.length i
  | _ => none
def stOut (i : Nat) (env : En) (ds : List D) (d : D) (rk : Rv) : Option Out :=
  match placeD ds rk.d with
  | some j => some (.nx (env.set i (.ow (.lst (ds.set j d)))))
  | none => none
/-- x[k] = e, x a list of its own -/
def sStL (i : Nat) (fk fe : SE) : SS := fun env => bindS (fe env) env fun r =>
  match r.frz, env[i]? with
  | some d, some (.ow (.lst ds)) => bindS (fk env) env (stOut i env ds d)
  | _, _ => none
def stOutD (i : Nat) (env : En) (kvs : List (Key × D)) (d : D) (rk : Rv) : Option Out :=
  match rk.d.key with
  | some key => if kvs.length < 100000 then some (.nx (env.set i (.ow (.dct (putD kvs key d))))) else none
  | none => none
/-- x[k] = e, x a dict of its own -/
def sStD (i : Nat) (fk fe : SE) : SS := fun env => bindS (fe env) env fun r =>
  match r.frz, env[i]? with
  | some d, some (.ow (.dct kvs)) => bindS (fk env) env (stOutD i env kvs d)
  | _, _ => none
theorem q_stD (hu : X.A.units + 1 < cLine) (he : QE X cl W e fe) (hk : QE X cl W k fk) (i : Nat) (hN : X.N[i]? = some x := by rfl) (hv : Vis X.env.scope x := by first | exact Or.inl rfl | exact Or.inr (Or.inl rfl) | exact Or.inr (Or.inr rfl))
    (hd : (x == ("__debug__" : Str)) = false := by decide) (hcd : (x == ("__classdict__" : Str)) = false := by decide)
    (hs : swapsWith e (some (.Subscript (.Name x p') k pos')) pos.line X.env = pure false := by rfl) : QS X cl W (.Assign [.Subscript (.Name x p') k pos'] e pos) (sStD i fk fe) := by
  refine PSimp (ps_dput hu (pe_var hN hv hd hcd) hk he hs) fun D σ H ⟨w, env, ev, h⟩ => ⟨w, env, ev, ?_⟩
  refine okS.expr ev h fun r v H1 _ ev1 s1 q1 h1 => ?_
  split at h1
  · rename_i d kvs er e1
    have rv := q1.rep (fun a z => ev.there z) er
    obtain ⟨p, a, b, vs, c, rd⟩ := ev1.ow i _ e1
    refine ⟨_, a, w, env, ev1, ?_⟩
    refine okS.expr ev1 h1 fun rk vk H2 _ ev2 s2 q2 h2 => ?_
    unfold stOutD at h2
    split at h2
    · rename_i key ek
      split at h2
      · rename_i hlen
        have hp2 := s2 _ _ c
        have ek' := q2.vw.key ek
        subst ek'
        refine ⟨p, _, rfl, DPut.k hp2 (by rw [rd.len]; exact line_lt hlen), h2 _ _ (ev2.put e1 a ⟨_, upd_same, ?_⟩)⟩
        have rd2 : RepD ⟨X.K, W.J⟩ H2 (OO w.O env σ) vs kvs := rd.move (.of_same s2) fun _ z => .inl z
        exact (rd2.put key (rv.same s2)).move (ev2.stp _ e1 a) fun _ z => .inl z
      · exact h2.elim
    · exact h2.elim
  · exact h1.elim
theorem q_stL (he : QE X cl W e fe) (hk : QE X cl W k fk) (i : Nat) (hN : X.N[i]? = some x := by rfl) (hv : Vis X.env.scope x := by first | exact Or.inl rfl | exact Or.inr (Or.inl rfl) | exact Or.inr (Or.inr rfl))
    (hd : (x == ("__debug__" : Str)) = false := by decide) (hcd : (x == ("__classdict__" : Str)) = false := by decide)
    (ha : ∀ v, assign (.Subscript (.Name x p') k pos') X.env v = (do
      let ov ← holding [v] (eval (.Name x p') X.env)
      let iv ← holding [v, ov] (eval k X.env)
      standAt pos'
      holding [v, ov, iv] (setItem ov iv v)
      release [v, ov, iv] []) := by intro _; rfl)
    (hs : swapsWithSole [.Subscript (.Name x p') k pos'] e pos.line X.env = pure false := by rfl) (hw : swappedStores [.Subscript (.Name x p') k pos'] e X.env = pure none := by rfl)
    (h1 : (assignEach [.Subscript (.Name x p') k pos'] X.env).map (·.2) = [assign (.Subscript (.Name x p') k pos') X.env] := by rfl) : QS X cl W (.Assign [.Subscript (.Name x p') k pos'] e pos) (sStL i fk fe) := by
  refine PSimp (ps_asg he (pg_sub (pe_var hN hv hd hcd) hk set_list ha) hs hw h1) fun D σ H ⟨w, env, ev, h⟩ => ⟨w, env, ev, ?_⟩
  refine okS.expr ev h fun r v H1 _ ev1 s1 q1 h1 => ?_
  split at h1
  · rename_i d ds er e1
    have rv := q1.rep (fun a z => ev.there z) er
    obtain ⟨p, a, b, vs, c, rd⟩ := ev1.ow i _ e1
    refine ⟨_, a, w, env, ev1, ?_⟩
    refine okS.expr ev1 h1 fun rk vk H2 _ ev2 s2 q2 h2 => ?_
    unfold stOut at h2
    split at h2
    · rename_i j ej
      have hp2 := s2 _ _ c
      unfold placeD at ej
      split at ej
      · rename_i n en
        have vwk := q2.vw
        rw [en] at vwk
        cases vwk.int_
        refine ⟨p, vs, n, j, rfl, rfl, hp2, by rw [rd.len]; exact ej, h2 _ _ (ev2.put e1 a ⟨_, upd_same, ?_⟩)⟩
        exact ((rd.same s2).set j (rv.same s2)).move (ev2.stp _ e1 a) fun _ z => .inl z
      · cases ej
    · exact h2.elim
  · exact h1.elim

/-! ### dicts read -/
def sDNew : SE := fun _ => vN (.dct [])
theorem q_dnew : QE X cl W (.Dict [] [] pos) sDNew := by
  refine PEimp pe_dnewK fun σ H Q ⟨w, env, ev, h⟩ p hp => ?_
  exact h _ _ (same_upd hp) ⟨p, rfl, hp, [], upd_same, .nil⟩
end
end DV

/-! DV10: slices, in, dicts read -/
theorem L2.Room.units65 {k : Nat} {A : PySem.Around} (r : L2.Room k A) : A.units + 65 < PySem.cLine := by have := r.un; omega
theorem L2.Room.units1 {k : Nat} {A : PySem.Around} (r : L2.Room k A) : A.units + 1 < PySem.cLine := by have := r.un; omega
namespace DV
open PySem PySem.Spec L2

/-! ### slices -/
abbrev SO := En → Option (Option Int)
def tO (K : PySem.W.Frag) (W : WJ) (f : SO) : TO := fun σ H Q => ∃ w env, EnvR ⟨K, W.J⟩ w env σ H ∧ ∃ o, f env = some o ∧ ∀ H', Same H H' → Q o H'
abbrev QO (X : Cx) (W : WJ) (e : Option Expr) (f : SO) : Prop := PO X e (tO X.K W f)
theorem POimp {X : Cx} {e : Option Expr} {t t' : TO} (h : PO X e t) (i : ∀ σ H Q, t' σ H Q → t σ H Q) : PO X e t' := ⟨fun pins s σ H Q I q => h.run pins s σ H Q I (i _ _ _ q)⟩
def oNone : SO := fun _ => some none
def intO : Option Er → Option (Option Int)
  | some (.val (.sh (.int i))) => some (some i)
  | _ => none
def oSome (f : SE) : SO := fun env => intO (f env)
def cutD {α : Type} (xs : List α) (lo hi : Option Int) : List α := (xs.drop (HT.sIx xs.length 0 lo)).take (HT.sIx xs.length xs.length hi - HT.sIx xs.length 0 lo)
def slO (s : D → Option Int → Option Int → Option Rv) (x : Rv) (l h : Option (Option Int)) : Option Er :=
  match l, h with
  | some lo, some hi => (s x.d lo hi).map .val
  | _, _ => none
def sSlL' (s : D → Option Int → Option Int → Option Rv) (f : SE) (fl fh : SO) : SE := fun env => bindE (f env) fun x => slO s x (fl env) (fh env)
def dSlL : D → Option Int → Option Int → Option Rv
  | .lst ds, lo, hi => some (.nw (.lst (cutD ds lo hi)))
  | .kl ds, lo, hi => some (.nw (.lst (cutD ds lo hi)))
  | _, _, _ => none
abbrev sSlL := sSlL' dSlL
theorem RepL.cut {K : KJ} {H : Hp} {P : Addr → Prop} {vs : List V} {ds : List D} (r : RepL K H P vs ds) (lo hi : Option Int) : RepL K H P (cutV vs lo hi) (cutD ds lo hi) := by
  unfold cutV cutD
  rw [r.len]
  exact (r.drop _).take _
def SlD (K : PySem.W.Frag) (r : V → Option Int → Option Int → Hp → VK → Prop) (s : D → Option Int → Option Int → Option Rv) : Prop :=
  ∀ (J : V → Nat → Option Addr → Prop) (P : Addr → Prop) (H : Hp) (x : V) (d : D) (lo hi : Option Int) (z : Rv) (Q : VK), Vw ⟨K, J⟩ H P x d → s d lo hi = some z → (∀ v H', Same H H' → RvR ⟨K, J⟩ P H H' v z → Q v H') → r x lo hi H Q
theorem sd_list {K : PySem.W.Frag} : SlD K (rSlL K) dSlL := by
  intro J P H x d lo hi z Q hx hs h
  unfold dSlL at hs
  split at hs
  · cases hs
    obtain ⟨a, vs, rfl, ha, ra⟩ := hx.lst_
    exact ⟨a, vs, rfl, ha, fun p hp => h _ _ (same_upd hp) (rv_nw (ra.cut _ _) (Same.refl _) hp)⟩
  · cases hs
    obtain ⟨a, vs, rfl, ha, ra⟩ := hx.kl_
    exact ⟨a, vs, rfl, ha, fun p hp => h _ _ (same_upd hp) (rv_nw (ra.cut _ _) (Same.refl _) hp)⟩
  · cases hs
/-- texts -/
def dSlS : D → Option Int → Option Int → Option Rv
  | .str x, lo, hi => if x.length ≤ 100000 then some (.sh (.str (cutS x lo hi))) else none
  | _, _, _ => none
abbrev sSlS := sSlL' dSlS
theorem sd_str {K : PySem.W.Frag} : SlD K rSlS dSlS := by
  intro J P H x d lo hi z Q hx hs h
  unfold dSlS at hs
  split at hs
  · obtain ⟨c, rfl⟩ := ite_some hs
    cases hx.str_
    exact ⟨_, rfl, line_le c, h _ H (Same.refl _) (.str _)⟩
  · cases hs
section
variable {X : Cx} {cl : Nat → Addr} {Y : WX} {W : WJ} {a b c e k : Expr} {f g fe fk fd : SE} {pos p2 : Pos} {x : Str} {lo hi : Option Expr} {fl fh : SO}
theorem qo_none : QO X W none oNone := POimp po_none fun σ H Q ⟨w, env, ev, o, e, q⟩ => by
  cases e
  exact q H (Same.refl _)
theorem qo_some (h : QE X cl W e f) : QO X W (some e) (oSome f) := POimp (po_some h) fun σ H Q ⟨w, env, ev, o, eo, q⟩ => by
  refine ⟨w, env, ev, ?_⟩
  unfold oSome at eo
  generalize f env = y at eo ⊢
  unfold intO at eo
  split at eo
  · rename_i i
    cases eo
    intro v H' s r
    cases r
    exact ⟨i, rfl, q H' s⟩
  · cases eo
theorem q_sl {r : V → Option Int → Option Int → Hp → VK → Prop} {s : D → Option Int → Option Int → Option Rv} (hr : SlR X r) (hd : SlD X.K r s) (he : QE X cl W e f) (hl : QO X W lo fl) (hu : QO X W hi fh) : QE X cl W (.Subscript e (.Slice lo hi none p2) pos) (sSlL' s f fl fh) := by
  refine PEimp (pe_slice hr he hl hu) fun σ H Q ⟨w, env, ev, h⟩ => ⟨w, env, ev, ?_⟩
  refine okE.mono (okE.bind h) fun v H1 s1 ⟨rx, qx, _, _, h1⟩ => ?_
  unfold slO at h1
  split at h1
  · rename_i l u el eu
    refine ⟨w, env, ev.same s1, l, el, fun H2 s2 => ⟨w, env, (ev.same s1).same s2, u, eu, fun H3 s3 => ?_⟩⟩
    cases es : s rx.d l u with
    | none => rw [es] at h1; exact h1.elim
    | some z =>
      rw [es] at h1
      exact hd _ _ H3 v _ _ _ z Q ((qx.vw.same s2).same s3) es ((h1.same s2).same s3)
  · exact h1.elim
theorem q_slL (he : QE X cl W e f) (hl : QO X W lo fl) (hu : QO X W hi fh) : QE X cl W (.Subscript e (.Slice lo hi none p2) pos) (sSlL f fl fh) := q_sl sl_list sd_list he hl hu
theorem q_slS (he : QE X cl W e f) (hl : QO X W lo fl) (hu : QO X W hi fh) : QE X cl W (.Subscript e (.Slice lo hi none p2) pos) (sSlS f fl fh) := q_sl sl_str sd_str he hl hu

/-! ### in -/
theorem q_in (hu : X.A.units + 65 < cLine) (ha : QE X cl W a f) (hb : QE X cl W b g) (hm : behindInMarks .In b = false := by rfl) : QE X cl W (.Compare a [.In] [b] pos) (sIn f g) := q_cmp (op_inD hu) od_in ha hb hm
theorem q_notIn (hu : X.A.units + 65 < cLine) (ha : QE X cl W a f) (hb : QE X cl W b g) (hm : behindInMarks .NotIn b = false := by rfl) : QE X cl W (.Compare a [.NotIn] [b] pos) (sNotIn f g) := q_cmp (op_notInD hu) od_notIn ha hb hm
theorem qt_in (hu : X.A.units + 65 < cLine) (ha : QE X cl W a f) (hb : QE X cl W b g) (hm : behindInMarks .In b = false := by rfl) : QT X cl W (.Compare a [.In] [b] pos) (sIn f g) := qt_cmp (op_inD hu) od_in ha hb hm
theorem qt_notIn (hu : X.A.units + 65 < cLine) (ha : QE X cl W a f) (hb : QE X cl W b g) (hm : behindInMarks .NotIn b = false := by rfl) : QT X cl W (.Compare a [.NotIn] [b] pos) (sNotIn f g) := qt_cmp (op_notInD hu) od_notIn ha hb hm
end
end DV

/-! DVG: more operators -/
namespace DV
open PySem PySem.Spec L2
/-- plain atoms -/
def D.one : D → Bool
  | .non => true
  | .bl _ => true
  | .int _ => true
  | .str _ => true
  | _ => false
def D.oneV : D → V
  | .bl b => .bl b
  | .int i => .int i
  | .str x => .str x
  | _ => .non
theorem one_flat {d : D} (h : d.one = true) : flatV d.oneV = true := by cases d <;> first | rfl | cases h
theorem one_eqV {d e : D} (h : d.one = true) (k : e.one = true) : eqV d.oneV e.oneV = eqD d e := by
  cases d <;> first | (cases h; done) | skip
  all_goals (cases e <;> first | (cases k; done) | rfl)
theorem Vw.one {K : KJ} {H : Hp} {O : Addr → Prop} {v : V} {d : D} (h : Vw K H O v d) (k : d.one = true) : v = d.oneV := by
  cases d <;> first | (cases k; done) | skip
  · exact h.non_
  · exact h.bl_
  · exact h.int_
  · exact h.str_
theorem Rep.one {K : KJ} {H : Hp} {O : Addr → Prop} {v : V} {d : D} (h : Rep K H O v d) (k : d.one = true) : v = d.oneV := by
  cases d <;> first | (cases k; done) | skip
  all_goals (cases h; rfl)
theorem RepL.oneV {K : KJ} {H : Hp} {O : Addr → Prop} : ∀ {vs : List V} {ds : List D}, RepL K H O vs ds → ds.all D.one = true → vs = ds.map D.oneV
  | [], [], _, _ => rfl
  | v :: vs, d :: ds, .cons a b, k => by
    rw [List.all_cons, Bool.and_eq_true] at k
    rw [List.map_cons, ← Rep.one a k.1, ← RepL.oneV b k.2]
theorem inV_one (a : D) (ha : a.one = true) : ∀ ds : List D, ds.all D.one = true → inV a.oneV (ds.map D.oneV) = ds.any fun z => eqD z a
  | [], _ => rfl
  | d :: ds, k => by
    rw [List.all_cons, Bool.and_eq_true] at k
    have := inV_one a ha ds k.2
    unfold inV at this ⊢
    rw [List.map_cons, List.any_cons, List.any_cons, this, one_eqV k.1 ha]
theorem all_one_flat : ∀ ds : List D, ds.all D.one = true → (ds.map D.oneV).all flatV = true
  | [], _ => rfl
  | d :: ds, k => by
    rw [List.all_cons, Bool.and_eq_true] at k
    rw [List.map_cons, List.all_cons, one_flat k.1, all_one_flat ds k.2]; rfl
/-- in, of atoms -/
def dInT' (n : Bool) (a b : D) : Option Rv :=
  match b with
  | .tup ds => if a.one && ds.all D.one then some (.sh (.bl (if n then !ds.any fun z => eqD z a else ds.any fun z => eqD z a))) else none
  | .lst ds => if a.one && ds.all D.one then some (.sh (.bl (if n then !ds.any fun z => eqD z a else ds.any fun z => eqD z a))) else none
  | .kl ds => if a.one && ds.all D.one then some (.sh (.bl (if n then !ds.any fun z => eqD z a else ds.any fun z => eqD z a))) else none
  | _ => none
theorem od_inT {K : PySem.W.Frag} {n : Bool} : OpD K (rIn K n) (dInT' n) := by
  intro J P H x y d e z Q hx hy hs _ h
  have main : ∀ (a : Addr) (vs : List V) (ds : List D), y = .ref a → (SqL K H a vs ∨ SqT K H a vs) → RepL ⟨K, J⟩ H P vs ds → (if d.one && ds.all D.one then some (Rv.sh (.bl (if n then !ds.any fun z => eqD z d else ds.any fun z => eqD z d))) else none) = some z → rIn K n x y H Q := by
    intro a vs ds hy hq hr hs
    obtain ⟨c, rfl⟩ := ite_some hs
    rw [Bool.and_eq_true] at c
    have e1 := hx.one c.1
    have e2 := hr.oneV c.2
    subst e1 e2
    refine ⟨a, _, hy, hq, one_flat c.1, all_one_flat _ c.2, ?_⟩
    rw [inV_one _ c.1 _ c.2]
    exact h _ H (Same.refl _) (.bl _)
  unfold dInT' at hs
  split at hs
  · obtain ⟨a, vs, rfl, ha, ra⟩ := hy.tup_
    exact main a vs _ rfl (.inr ha) ra hs
  · obtain ⟨a, vs, rfl, ha, ra⟩ := hy.lst_
    exact main a vs _ rfl (.inl ha) ra hs
  · obtain ⟨a, vs, rfl, ha, ra⟩ := hy.kl_
    exact main a vs _ rfl (.inl ha) ra hs
  · cases hs
abbrev dInT := dInT' false
abbrev dNotInT := dInT' true
abbrev sInT := sBin dInT
abbrev sNotInT := sBin dNotInT
section
variable {X : Cx} {cl : Nat → Addr} {W : WJ} {a b : Expr} {f g : SE} {pos : Pos}
theorem q_inT (ha : QE X cl W a f) (hb : QE X cl W b g) (hm : behindInMarks .In b = false := by rfl) : QE X cl W (.Compare a [.In] [b] pos) (sInT f g) := q_cmp op_in_seq od_inT ha hb hm
theorem q_notInT (ha : QE X cl W a f) (hb : QE X cl W b g) (hm : behindInMarks .NotIn b = false := by rfl) : QE X cl W (.Compare a [.NotIn] [b] pos) (sNotInT f g) := q_cmp op_notIn_seq od_inT ha hb hm
theorem qt_inT (ha : QE X cl W a f) (hb : QE X cl W b g) (hm : behindInMarks .In b = false := by rfl) : QT X cl W (.Compare a [.In] [b] pos) (sInT f g) := qt_cmp op_in_seq od_inT ha hb hm
theorem qt_notInT (ha : QE X cl W a f) (hb : QE X cl W b g) (hm : behindInMarks .NotIn b = false := by rfl) : QT X cl W (.Compare a [.NotIn] [b] pos) (sNotInT f g) := qt_cmp op_notIn_seq od_inT ha hb hm
end
end DV

/-! DVE: evaluation of the printed functions by simp -/
namespace DV
open PySem PySem.Spec L2
section
variable {env : En} {f g h : SE} {F G : SS} {i j n m : Nat} {b : Bool} {d : D} {a : SA}
def outE : Out → Option Er
  | .rt (.sh d) => vS d
  | .rt (.nw d) => vN d
  | .nx _ => vS .non
  | .err n fs _ => some (.err n fs)
  | _ => none
theorem fnSem_run {body : SS} {ds : List D} {o : Out} (hl : ds.length = n) (h : body (ds.map .sh ++ List.replicate (m - n) .no) = some o) : fnSem n m body ds = outE o := by
  unfold fnSem
  rw [if_pos hl, h]
  cases o with
  | rt r => cases r <;> rfl
  | _ => rfl
@[simp] theorem outE_sh : outE (.rt (.sh d)) = vS d := rfl
@[simp] theorem outE_nw : outE (.rt (.nw d)) = vN d := rfl
@[simp] theorem outE_nx : outE (.nx env) = vS .non := rfl
theorem sSeq_ap : sSeq F G env = bindO (F env) G := rfl
theorem sNext_ap : sNext env = some (.nx env) := rfl
theorem sBreak_ap : sBreak env = some (.bk env) := rfl
theorem sCont_ap : sCont env = some (.ct env) := rfl
def iteO (F G : SS) (env : En) : Rv → Option Out
  | .sh (.bl true) => F env
  | .sh (.bl false) => G env
  | _ => none
theorem sIte_ap : sIte f F G env = bindS (f env) env (iteO F G env) := rfl
theorem iteO_b : iteO F G env (.sh (.bl b)) = if b = true then F env else G env := by cases b <;> rfl
def andE (g : SE) (env : En) : Rv → Option Er
  | .sh (.bl true) => g env
  | .sh (.bl false) => vS (.bl false)
  | _ => none
def orE (g : SE) (env : En) : Rv → Option Er
  | .sh (.bl false) => g env
  | .sh (.bl true) => vS (.bl true)
  | _ => none
theorem sAnd_ap : sAnd f g env = bindE (f env) (andE g env) := rfl
theorem sOr_ap : sOr f g env = bindE (f env) (orE g env) := rfl
theorem andE_b : andE g env (.sh (.bl b)) = if b = true then g env else vS (.bl false) := by cases b <;> rfl
theorem orE_b : orE g env (.sh (.bl b)) = if b = true then vS (.bl true) else g env := by cases b <;> rfl
def notE : Rv → Option Er
  | .sh (.bl b) => vS (.bl (!b))
  | _ => none
theorem sNot_ap : sNot f env = bindE (f env) notE := rfl
theorem notE_b : notE (.sh (.bl b)) = vS (.bl (!b)) := rfl
def ifE (g h : SE) (env : En) : Rv → Option Er
  | .sh (.bl true) => g env
  | .sh (.bl false) => h env
  | _ => none
theorem sIf_ap : sIf f g h env = bindE (f env) (ifE g h env) := rfl
theorem ifE_b : ifE g h env (.sh (.bl b)) = if b = true then g env else h env := by cases b <;> rfl
theorem sSet_ap : sSet i f env = bindS (f env) env (outSet i env) := rfl
theorem sDrop_ap : sDrop f env = bindS (f env) env fun _ => some (.nx env) := rfl
def retO : Rv → Option Out
  | .sh d => some (.rt (.sh d))
  | .nw d => some (.rt (.nw d))
  | .bw _ => none
theorem sRet_ap : sRet f env = bindS (f (fz env)) (fz env) retO := rfl
theorem retO_sh : retO (.sh d) = some (.rt (.sh d)) := rfl
theorem retO_nw : retO (.nw d) = some (.rt (.nw d)) := rfl
theorem sRetN_ap : sRetN env = some (.rt (.sh .non)) := rfl
def retV : Option Sl → Option Out
  | some (.sh d) => some (.rt (.sh d))
  | some (.ow d) => some (.rt (.nw d))
  | _ => none
theorem sRetV_ap : sRetV i env = retV env[i]? := rfl
theorem retV_sh : retV (some (.sh d)) = some (.rt (.sh d)) := rfl
theorem retV_ow : retV (some (.ow d)) = some (.rt (.nw d)) := rfl
def varE : Option Sl → Option Er
  | some (.sh d) => vS d
  | some (.ow d) => vB d
  | _ => none
theorem sVar_ap : sVar i env = varE env[i]? := rfl
theorem varE_sh : varE (some (.sh d)) = vS d := rfl
theorem varE_ow : varE (some (.ow d)) = vB d := rfl
theorem sC_ap : sC d env = vS d := rfl
theorem sBin_ap {s : D → D → Option Rv} : sBin s f g env = bindE (f env) fun x => bindE (g env) fun y => (s x.d y.d).map .val := rfl
theorem sUn_ap {s : D → Option Rv} : sUn s f env = bindE (f env) fun x => (s x.d).map .val := rfl
theorem aNil_ap : aNil env = some (.vals []) := rfl
def consA (x : Option Er) (y : Option Ar) : Option Ar :=
  match x with
  | some (.val r) => (match y with
    | some (.vals rs) => some (.vals (r :: rs))
    | y => y)
  | some (.err n fs) => some (.err n fs)
  | none => none
theorem aCons_ap : aCons f a env = consA (f env) (a env) := rfl
theorem consA_v {r : Rv} {rs : List Rv} : consA (some (.val r)) (some (.vals rs)) = some (.vals (r :: rs)) := rfl
theorem consA_e {n : Nat} {fs : List (Str × D)} {y : Option Ar} : consA (some (.err n fs)) y = some (.err n fs) := rfl
theorem bindA_v {rs : List Rv} {k : List Rv → Option Er} : bindA (some (.vals rs)) k = k rs := rfl
theorem bindA_e {n : Nat} {fs : List (Str × D)} {k : List Rv → Option Er} : bindA (some (.err n fs)) k = some (.err n fs) := rfl
def tupE (x : Option (List D)) : Option Er :=
  match x with
  | some ds => if ds.length ≤ 100000 then vS (.tup ds) else none
  | none => none
def lstE (x : Option (List D)) : Option Er :=
  match x with
  | some ds => if ds.length ≤ 100000 then vN (.lst ds) else none
  | none => none
theorem sTup_ap : sTup a env = bindA (a env) fun rs => tupE (frzs rs) := rfl
theorem sLst_ap : sLst a env = bindA (a env) fun rs => lstE (frzs rs) := rfl
theorem tupE_v {ds : List D} : tupE (some ds) = if ds.length ≤ 100000 then vS (.tup ds) else none := rfl
theorem lstE_v {ds : List D} : lstE (some ds) = if ds.length ≤ 100000 then vN (.lst ds) else none := rfl
def frz2 (x : Option D) (y : Option (List D)) : Option (List D) :=
  match x, y with
  | some d, some ds => some (d :: ds)
  | _, _ => none
theorem frzs_nil : frzs [] = some [] := rfl
theorem frzs_cons {r : Rv} {rs : List Rv} : frzs (r :: rs) = frz2 r.frz (frzs rs) := rfl
theorem frz2_v {ds : List D} : frz2 (some d) (some ds) = some (d :: ds) := rfl
theorem sCall_ap {sem : List D → Option Er} {dvs : List D} : sCallD sem dvs a env = bindA (a env) fun rs => callRes (rs.any Rv.isBw) (sem (rs.map Rv.d ++ dvs)) := rfl
theorem callRes_f {x : Option Er} : callRes false x = x := rfl
theorem callRes_t {x : Option Er} : callRes true x = (match x with
    | some (.val (.sh d)) => if d.flat then vS d else none
    | some (.val (.nw (.lst ds))) => if flatL ds then vN (.lst ds) else none
    | some (.val (.nw (.dct ds))) => if ds.all fun p => p.2.flat then vN (.dct ds) else none
    | some (.err n fs) => if fs.all fun p => p.2.flat then some (.err n fs) else none
    | _ => none) := rfl
theorem sBlt_ap {s : List D → Option Rv} : sBlt s a env = bindA (a env) fun rs => (s (rs.map Rv.d)).map .val := rfl
theorem isBw_sh : (Rv.sh d).isBw = false := rfl
theorem isBw_nw : (Rv.nw d).isBw = false := rfl
theorem isBw_bw : (Rv.bw d).isBw = true := rfl
theorem fz_nil : fz [] = [] := rfl
theorem fz_cons {s : Sl} : fz (s :: env) = fz1 s :: fz env := rfl
theorem fz1_sh : fz1 (.sh d) = .sh d := rfl
theorem fz1_ow : fz1 (.ow d) = .sh d := rfl
theorem fz1_no : fz1 .no = .no := rfl
theorem fz1_pn : fz1 .pn = .pn := rfl
theorem gSet_ap : gSet i d env = some (env.set i (.sh d)) := rfl
def parO (i j : Nat) (env : En) : Option Ar → Option Out
  | some (.vals [r1, r2]) => (match r1.frz, r2.frz with
    | some d1, some d2 => some (.nx ((env.set i (.sh d1)).set j (.sh d2)))
    | _, _ => none)
  | some (.err n fs) => some (.err n fs env)
  | _ => none
theorem sPar_ap : sPar i j a env = parO i j env (a env) := rfl
theorem parO_v {d e : D} : parO i j env (some (.vals [.sh d, .sh e])) = some (.nx ((env.set i (.sh d)).set j (.sh e))) := rfl
theorem dIsi_ty {n : String} {t : String} (h : tyOf d = some t) : dIsi [d, .op (.ty n)] = (kitB t n).map fun b => .sh (.bl b) := by
  show (match tyOf d with | some t => (kitB t n).map fun b => Rv.sh (.bl b) | none => none) = _
  rw [h]
theorem atI_cons_zero {α : Type} {x : α} {xs : List α} : atI (x :: xs) 0 = some x := atI_nat (j := 0) rfl
theorem atI_cons_one {α : Type} {x y : α} {xs : List α} : atI (x :: y :: xs) 1 = some y := atI_nat (j := 1) rfl
theorem atI_cons_two {α : Type} {x y z : α} {xs : List α} : atI (x :: y :: z :: xs) 2 = some z := atI_nat (j := 2) rfl
theorem atI_cons_three {α : Type} {x y z u : α} {xs : List α} : atI (x :: y :: z :: u :: xs) 3 = some u := atI_nat (j := 3) rfl
theorem kb_ii : kitB "int" "int" = some true := by decide +kernel
theorem kb_ib : kitB "int" "bool" = some false := by decide +kernel
theorem kb_bi : kitB "bool" "int" = some true := by decide +kernel
theorem kb_bb : kitB "bool" "bool" = some true := by decide +kernel
theorem kb_tt : kitB "tuple" "tuple" = some true := by decide +kernel
theorem kb_ti : kitB "tuple" "int" = some false := by decide +kernel
theorem kb_tb : kitB "tuple" "bool" = some false := by decide +kernel
theorem kb_ss : kitB "str" "str" = some true := by decide +kernel
theorem kb_si : kitB "str" "int" = some false := by decide +kernel
theorem kb_ni : kitB "NoneType" "int" = some false := by decide +kernel
theorem kb_ns : kitB "NoneType" "str" = some false := by decide +kernel
theorem kb_li : kitB "list" "int" = some false := by decide +kernel
theorem kb_ll : kitB "list" "list" = some true := by decide +kernel
theorem kb_tl : kitB "tuple" "list" = some false := by decide +kernel
theorem kb_lt : kitB "list" "tuple" = some false := by decide +kernel
theorem kb_it : kitB "int" "tuple" = some false := by decide +kernel
theorem kb_nt : kitB "NoneType" "tuple" = some false := by decide +kernel
theorem kb_st : kitB "str" "tuple" = some false := by decide +kernel
theorem kb_bt : kitB "bool" "tuple" = some false := by decide +kernel
theorem ok_int {n : Nat} {i : Int} : (D.int i).ok n = true := by cases n <;> rfl
theorem ok_bl {n : Nat} {i : Bool} : (D.bl i).ok n = true := by cases n <;> rfl
theorem ok_non {n : Nat} : D.non.ok n = true := by cases n <;> rfl
theorem ok_tup {n : Nat} {xs : List D} : (D.tup xs).ok (n + 1) = xs.all (D.ok n) := rfl
theorem ok_lst {n : Nat} {xs : List D} : (D.lst xs).ok (n + 1) = xs.all (D.ok n) := rfl
theorem eqD_int {i j : Int} : eqD (.int i) (.int j) = decide (i = j) := by
  unfold eqD
  rw [D.py, D.py]
  show (i == j) = _
  by_cases h : i = j <;> simp [h]
theorem eqD_bl {i j : Bool} : eqD (.bl i) (.bl j) = (i == j) := rfl
theorem eqD_str {i j : Str} : eqD (.str i) (.str j) = (i == j) := rfl
theorem eqD_non : eqD .non .non = true := rfl
def eqL : List D → List D → Bool
  | [], [] => true
  | x :: xs, y :: ys => eqD x y && eqL xs ys
  | _, _ => false
theorem eqAll_pyL : ∀ xs ys : List D, PyData.eqvAll (pyL xs) (pyL ys) = eqL xs ys
  | [], [] => rfl
  | [], _ :: _ => rfl
  | _ :: _, [] => rfl
  | x :: xs, y :: ys => by
    show (PyData.eqv x.py y.py && PyData.eqvAll (pyL xs) (pyL ys)) = _
    rw [eqAll_pyL xs ys]; rfl
theorem eqD_tup {xs ys : List D} : eqD (.tup xs) (.tup ys) = eqL xs ys := by
  unfold eqD
  rw [D.py, D.py, ← eqAll_pyL]
  rfl
theorem eqD_lst {xs ys : List D} : eqD (.lst xs) (.lst ys) = eqL xs ys := by
  unfold eqD
  rw [D.py, D.py, ← eqAll_pyL]
  rfl
theorem eqL_cons {x y : D} {xs ys : List D} : eqL (x :: xs) (y :: ys) = (eqD x y && eqL xs ys) := rfl
theorem eqL_nil : eqL [] [] = true := rfl
theorem eqL_nc {x : D} {xs : List D} : eqL [] (x :: xs) = false := rfl
theorem eqL_cn {x : D} {xs : List D} : eqL (x :: xs) [] = false := rfl
theorem eqL_map {α : Type} [DecidableEq α] (f : α → D) (hf : ∀ a b, eqD (f a) (f b) = decide (a = b)) : ∀ xs ys : List α, eqL (xs.map f) (ys.map f) = decide (xs = ys)
  | [], [] => rfl
  | [], _ :: _ => rfl
  | _ :: _, [] => rfl
  | x :: xs, y :: ys => by
    rw [List.map_cons, List.map_cons, eqL_cons, hf, eqL_map f hf xs ys]
    by_cases h : x = y <;> by_cases h2 : xs = ys <;> simp [h, h2]
theorem sWhl_succ {c : SE} {body : SS} : sWhl c body (n + 1) env = bindS (c env) env fun r =>
    match r with
    | .sh (.bl false) => some (.nx env)
    | .sh (.bl true) => (match body env with
      | some (.nx env') => sWhl c body n env'
      | some (.ct env') => sWhl c body n env'
      | some (.bk env') => some (.nx env')
      | y => y)
    | _ => none := rfl
/-- a turn of a while -/
theorem sWhl_turn {c : SE} {body : SS} {env' : En} (hc : c env = vS (.bl true)) (hb : body env = some (.nx env')) : sWhl c body (n + 1) env = sWhl c body n env' := by
  rw [sWhl_succ, hc]; simp only [bindS_val, hb]
theorem sWhl_done {c : SE} {body : SS} (hc : c env = vS (.bl false)) : sWhl c body (n + 1) env = some (.nx env) := by
  rw [sWhl_succ, hc]; rfl
theorem forL_nil {tg : SG} {body : SS} : forL tg body [] env = some (.nx env) := rfl
theorem forL_next {tg : SG} {body : SS} {d : D} {ds : List D} {env1 env2 : En} (h1 : tg d env = some env1) (h2 : body env1 = some (.nx env2)) : forL tg body (d :: ds) env = forL tg body ds env2 := by
  show (match tg d env with | none => none | some env1 => _) = _
  rw [h1]; simp only [h2]
theorem forL_ret {tg : SG} {body : SS} {d : D} {ds : List D} {env1 : En} {r : Rv} (h1 : tg d env = some env1) (h2 : body env1 = some (.rt r)) : forL tg body (d :: ds) env = some (.rt r) := by
  show (match tg d env with | none => none | some env1 => _) = _
  rw [h1]; simp only [h2]
theorem forL_err {tg : SG} {body : SS} {d : D} {ds : List D} {env1 env2 : En} {n : Nat} {fs : List (Str × D)} (h1 : tg d env = some env1) (h2 : body env1 = some (.err n fs env2)) : forL tg body (d :: ds) env = some (.err n fs env2) := by
  show (match tg d env with | none => none | some env1 => _) = _
  rw [h1]; simp only [h2]
end

/-! ### a law's cell -/
/-- what _law_cell draws -/
def cellv (ns : List Int) (k m : Int) : Int :=
  if h : 0 ≤ k ∧ k < ns.length then (ns[k.toNat]'(by omega)) % m
  else ((if h : 0 < ns.length then (ns[(k % ns.length).toNat]'(by
      have h1 := Int.emod_nonneg k (b := ns.length) (by omega)
      have h2 := Int.emod_lt_of_pos k (b := ns.length) (by omega)
      omega)) % 2147483647 else 5) * 48271 + (k + 3) * (k + 7) * 69621) % 2147483629 % m
theorem cellv_range {ns : List Int} {k m : Int} (hm : 0 < m) : 0 ≤ cellv ns k m ∧ cellv ns k m < m := by
  unfold cellv
  split
  · exact ⟨Int.emod_nonneg _ (by omega), Int.emod_lt_of_pos _ hm⟩
  · exact ⟨Int.emod_nonneg _ (by omega), Int.emod_lt_of_pos _ hm⟩
end DV

/-! DVT: try .. except -/
namespace DV
open PySem PySem.Spec L2

/-! ### no exception within -/
mutual
def D.pure : D → Bool
  | .non => true
  | .bl _ => true
  | .int _ => true
  | .str _ => true
  | .tup xs => pureL xs
  | .lst xs => pureL xs
  | .dct _ => false
  | .op _ => true
  | .exc _ _ => false
  | .kl xs => pureL xs
def pureL : List D → Bool
  | [] => true
  | x :: xs => x.pure && pureL xs
end
section
variable {k : PySem.W.Frag} {J J' : V → Nat → Option Addr → Prop} {H : Hp} {O : Addr → Prop}
mutual
theorem Rep.sw : ∀ {v : V} {d : D}, Rep ⟨k, J⟩ H O v d → d.pure = true → Rep ⟨k, J'⟩ H O v d
  | _, _, .non, _ => .non
  | _, _, .bl b, _ => .bl b
  | _, _, .int i, _ => .int i
  | _, _, .str x, _ => .str x
  | _, _, .tup h r, e => .tup h (RepL.sw r (by simpa [D.pure] using e))
  | _, _, .lst n h r, e => .lst n h (RepL.sw r (by simpa [D.pure] using e))
  | _, _, .kl h r, e => .kl h (RepL.sw r (by simpa [D.pure] using e))
  | _, _, .dct _ _ _, e => by simp [D.pure] at e
  | _, _, .op v, _ => .op v
  | _, _, .exc _ _ _, e => by simp [D.pure] at e
theorem RepL.sw : ∀ {vs : List V} {ds : List D}, RepL ⟨k, J⟩ H O vs ds → pureL ds = true → RepL ⟨k, J'⟩ H O vs ds
  | _, _, .nil, _ => .nil
  | _, _, .cons h r, e => by
    rw [pureL, Bool.and_eq_true] at e
    exact .cons (h.sw e.1) (r.sw e.2)
end
mutual
theorem Rep.inJ : ∀ {v : V} {d : D}, Rep ⟨k, J0⟩ H O v d → Rep ⟨k, J'⟩ H O v d
  | _, _, .non => .non
  | _, _, .bl b => .bl b
  | _, _, .int i => .int i
  | _, _, .str x => .str x
  | _, _, .tup h r => .tup h (RepL.inJ r)
  | _, _, .lst n h r => .lst n h (RepL.inJ r)
  | _, _, .kl h r => .kl h (RepL.inJ r)
  | _, _, .dct n h r => .dct n h (RepD.inJ r)
  | _, _, .op v => .op v
  | _, _, .exc e _ _ => e.elim
theorem RepL.inJ : ∀ {vs : List V} {ds : List D}, RepL ⟨k, J0⟩ H O vs ds → RepL ⟨k, J'⟩ H O vs ds
  | _, _, .nil => .nil
  | _, _, .cons h r => .cons (Rep.inJ h) (RepL.inJ r)
theorem RepD.inJ : ∀ {vs : List (Key × V)} {ds : List (Key × D)}, RepD ⟨k, J0⟩ H O vs ds → RepD ⟨k, J'⟩ H O vs ds
  | _, _, .nil => .nil
  | _, _, .cons h r => .cons (Rep.inJ h) (RepD.inJ r)
end
theorem RepF.inJ : ∀ {da : Option Addr} {fs : List (Str × D)}, RepF ⟨k, J0⟩ H O da fs → RepF ⟨k, J'⟩ H O da fs
  | _, _, .nil => .nil
  | _, _, .cons h l r q => .cons h l (Rep.inJ r) (RepF.inJ q)
theorem OwnAt.inJ {p : Addr} {d : D} (h : OwnAt ⟨k, J0⟩ H O p d) : OwnAt ⟨k, J'⟩ H O p d := by
  cases d with
  | lst ds => obtain ⟨vs, e, r⟩ := h; exact ⟨vs, e, r.inJ⟩
  | dct ds => obtain ⟨vs, e, r⟩ := h; exact ⟨vs, e, r.inJ⟩
  | _ => exact h.elim
theorem OwnAt.sw {p : Addr} {d : D} (h : OwnAt ⟨k, J⟩ H O p d) (e : d.pure = true) : OwnAt ⟨k, J'⟩ H O p d := by
  cases d with
  | lst ds => obtain ⟨vs, q, r⟩ := h; exact ⟨vs, q, r.sw (by simpa [D.pure] using e)⟩
  | dct ds => simp [D.pure] at e
  | _ => exact h.elim
def Sl.pure : Sl → Bool
  | .sh d => d.pure
  | .ow d => d.pure
  | _ => true
variable {w : Wd} {env : En} {σ : L2.St}
theorem EnvR.inJ (ev : EnvR ⟨k, J0⟩ w env σ H) : EnvR ⟨k, J'⟩ w env σ H :=
  ⟨ev.len, ev.dom, ev.ext, fun i d h => let ⟨v, a, b⟩ := ev.sh i d h; ⟨v, a, b.inJ⟩, fun i d h => let ⟨p, a, b, c⟩ := ev.ow i d h; ⟨p, a, b, c.inJ⟩, ev.pn, ev.dist⟩
theorem EnvR.sw (ev : EnvR ⟨k, J⟩ w env σ H) (e : env.all Sl.pure = true) : EnvR ⟨k, J'⟩ w env σ H :=
  have key : ∀ (i : Nat) (s : Sl), env[i]? = some s → s.pure = true := fun i s h => (List.all_eq_true.mp e) _ (List.mem_of_getElem? h)
  ⟨ev.len, ev.dom, ev.ext, fun i d h => let ⟨v, a, b⟩ := ev.sh i d h; ⟨v, a, b.sw (key i _ h)⟩, fun i d h => let ⟨p, a, b, c⟩ := ev.ow i d h; ⟨p, a, b, c.sw (key i _ h)⟩, ev.pn, ev.dist⟩
theorem EnvR.gone {K : KJ} {i : Nat} (ev : EnvR K w env σ H) : EnvR K w (env.set i .no) (σ.set i none) H := by
  have back : ∀ (j : Nat) (s : Sl), s ≠ .no → (env.set i .no)[j]? = some s → j ≠ i ∧ env[j]? = some s := fun j s n e => by
    by_cases h : j = i
    · subst h
      by_cases hl : j < env.length
      · rw [List.getElem?_set_self hl] at e; cases e; exact (n rfl).elim
      · rw [List.getElem?_eq_none (by simpa using hl)] at e; cases e
    · rw [List.getElem?_set_ne (Ne.symm h)] at e; exact ⟨h, e⟩
  have fw : ∀ (j : Nat) (v : Option V), j ≠ i → σ[j]? = some v → (σ.set i none)[j]? = some v := fun j v n e => by rw [List.getElem?_set_ne (Ne.symm n)]; exact e
  have bw : ∀ (j : Nat) (v : Option V), j ≠ i → (σ.set i none)[j]? = some v → σ[j]? = some v := fun j v n e => by rw [List.getElem?_set_ne (Ne.symm n)] at e; exact e
  have own : ∀ a, OO w.O (env.set i .no) (σ.set i none) a → OO w.O env σ a := fun a z => by
    rcases z with z | ⟨j, d, e1, e2⟩
    · exact .inl z
    · obtain ⟨n, e⟩ := back j (.ow d) (fun z => nomatch z) e1
      exact .inr ⟨j, d, e, bw j _ n e2⟩
  refine ⟨by simpa using ev.len, ev.dom, ev.ext, fun j d h => ?_, fun j d h => ?_, fun j h => ?_, fun j l p d e h1 h2 h3 h4 => ?_⟩
  · obtain ⟨n, e⟩ := back j (.sh d) (fun z => nomatch z) h
    obtain ⟨v, q, r⟩ := ev.sh j d e
    exact ⟨v, fw j _ n q, r.anti own⟩
  · obtain ⟨n, e⟩ := back j (.ow d) (fun z => nomatch z) h
    obtain ⟨p, q, q2, r⟩ := ev.ow j d e
    exact ⟨p, fw j _ n q, q2, r.anti own⟩
  · obtain ⟨n, e⟩ := back j .pn (fun z => nomatch z) h
    rw [List.getElem?_set_ne (Ne.symm n)]
    exact ev.pn j e
  · obtain ⟨n1, e1⟩ := back j (.ow d) (fun z => nomatch z) h1
    obtain ⟨n2, e2⟩ := back l (.ow e) (fun z => nomatch z) h2
    exact ev.dist j l p d e e1 e2 (bw j _ n1 h3) (bw l _ n2 h4)
theorem RvR.sw {P : Addr → Prop} {H' : Hp} {v : V} {r : Rv} (h : RvR ⟨k, J⟩ P H H' v r) (e : r.d.pure = true) : RvR ⟨k, J'⟩ P H H' v r := by
  cases r with
  | sh d => exact Rep.sw h e
  | bw d => obtain ⟨p, a, b⟩ := h; exact ⟨p, a, b.sw e⟩
  | nw d => obtain ⟨p, a, b, c⟩ := h; exact ⟨p, a, b, c.sw e⟩
theorem RvR.inJ {P : Addr → Prop} {H' : Hp} {v : V} {r : Rv} (h : RvR ⟨k, J0⟩ P H H' v r) : RvR ⟨k, J'⟩ P H H' v r := by
  cases r with
  | sh d => exact Rep.inJ h
  | bw d => obtain ⟨p, a, b⟩ := h; exact ⟨p, a, b.inJ⟩
  | nw d => obtain ⟨p, a, b, c⟩ := h; exact ⟨p, a, b, c.inJ⟩
end

/-! ### try -/
def noErr : Option Out → Option Out
  | some (.err _ _ _) => none
  | o => o
/-- except X: -/
def sTry (f : SS) (m : Nat → Option Bool) (g : SS) : SS := fun env =>
  match f env with
  | some (.err n fs env') => (match m n with
    | some true => noErr (g env')
    | some false => some (.err n fs env')
    | none => none)
  | o => o
/-- behind a suite with a name -/
def outB (i : Nat) : Option Out → Option Out
  | some (.nx e) => if (e.set i .no).all Sl.pure then some (.nx (e.set i .no)) else none
  | some (.bk e) => if (e.set i .no).all Sl.pure then some (.bk (e.set i .no)) else none
  | some (.ct e) => if (e.set i .no).all Sl.pure then some (.ct (e.set i .no)) else none
  | some (.rt r) => if r.d.pure then some (.rt r) else none
  | _ => none
/-- except X as e: -/
def sTryAs (i : Nat) (f : SS) (m : Nat → Option Bool) (g : SS) : SS := fun env =>
  match f env with
  | some (.err n fs env') => (match m n with
    | some true => outB i (g (env'.set i (.sh (.exc n fs))))
    | some false => some (.err n fs env')
    | none => none)
  | o => o
/-- the caught exception -/
def Jx (cl : Nat → Addr) (a : Addr) (cls : Value) (d : Option Addr) : V → Nat → Option Addr → Prop := fun v n da => v = .ref a ∧ cls = .ref (cl n) ∧ da = d
abbrev wNo : WX := fun _ _ _ _ => False
section
variable {X : Cx} {cl : Nat → Addr} {Y : WX} {c : Value} {x y : Str} {i : Nat} {body suite : List Stmt} {b₀ : Stmt} {np pos pos' : Pos} {f g : SS} {m : Nat → Option Bool}
theorem q_try (hc : Names X x c) (tk : Takes X Y) (hm : ∀ n b, m n = some b → PySem.W.exmOne X.K (.ref (cl n)) c = some b)
    (hb : ∀ (W : WX) (pn : List (Addr × Obj)) (xe : Value → Shared → Prop), Takes (X.tr pn xe) W → PassesOwn (model X.prog X.w) X.A X.env xe → QSs (X.tr pn xe) cl ⟨W, J0⟩ body f)
    (hsu : ∀ (a : Addr) (pn : List (Addr × Obj)), QSs (X.suite a pn) cl ⟨wNo, J0⟩ (b₀ :: suite) g) (hs : X.stack = X.env :: X.outer := by rfl) (hf : X.env.frame = some X.env.locals := by rfl) :
    QS X cl ⟨Y, J0⟩ (.Try body [.ExceptHandler (some (.Name x np)) none (b₀ :: suite) pos'] [] [] pos) (sTry f m g) := by
  refine PSimp (ps_try_only hs hf hc tk (tb := fun W => tS X.K cl ⟨W, J0⟩ f) (ts := fun _ _ _ => tS X.K cl ⟨wNo, J0⟩ g) hb (fun a oe _ _ pn _ _ => hsu a _)) fun D σ H ⟨w, env, ev, h⟩ => ?_
  refine ⟨w, env, ev, ?_⟩
  unfold sTry at h
  match hf : f env, h with
  | some (.nx e), h => exact h
  | some (.bk e), h => exact h
  | some (.ct e), h => exact h
  | some (.rt r), h => exact h
  | some (.err n fs e), h =>
    intro da σ' H' ev' z
    simp only at h
    cases hq : m n with
    | none => rw [hq] at h; exact h.elim
    | some b =>
      rw [hq] at h
      refine ⟨b, hm n b hq, fun e1 a na => ?_, fun e1 => ?_⟩
      · subst e1
        refine ⟨w, e, ev', ?_⟩
        simp only at h
        match g e, h with
        | some (.nx e), h => exact h
        | some (.bk e), h => exact h
        | some (.ct e), h => exact h
        | some (.rt r), h => exact h
        | some (.err _ _ _), h => exact h.elim
      · subst e1
        exact h da σ' H' ev' z
theorem q_tryAs (hN : X.N.Nodup) (hi : X.N[i]? = some y) (hln : X.env.kindOf y = some .local) (hc : Names X x c) (tk : Takes X Y) (hm : ∀ n b, m n = some b → PySem.W.exmOne X.K (.ref (cl n)) c = some b)
    (hb : ∀ (W : WX) (pn : List (Addr × Obj)) (xe : Value → Shared → Prop), Takes (X.tr pn xe) W → PassesOwn (model X.prog X.w) X.A X.env xe → QSs (X.tr pn xe) cl ⟨W, J0⟩ body f)
    (hsu : ∀ (a : Addr) (oe : Obj) (cls : Value) (d : Option Addr) (pn : List (Addr × Obj)), Zc cls d oe → (∃ vs, oe.data = .fields vs) → QSs (X.suite a ((a, oe) :: pn)) cl ⟨wNo, Jx cl a cls d⟩ (b₀ :: suite) g) (hs : X.stack = X.env :: X.outer := by rfl) (hf : X.env.frame = some X.env.locals := by rfl) :
    QS X cl ⟨Y, J0⟩ (.Try body [.ExceptHandler (some (.Name x np)) (some y) (b₀ :: suite) pos'] [] [] pos) (sTryAs i f m g) := by
  refine PSimp (L2.ps_try_as hs hf hN hi hln hc tk (tb := fun W => tS X.K cl ⟨W, J0⟩ f) (ts := fun a cls d => tS X.K cl ⟨wNo, Jx cl a cls d⟩ g) hb hsu) fun D σ H ⟨w, env, ev, h⟩ => ?_
  refine ⟨w, env, ev, ?_⟩
  unfold sTryAs at h
  match hf : f env, h with
  | some (.nx e), h => exact h
  | some (.bk e), h => exact h
  | some (.ct e), h => exact h
  | some (.rt r), h => exact h
  | some (.err n fs e), h =>
    intro da σ' H' ev' z
    simp only at h
    cases hq : m n with
    | none => rw [hq] at h; exact h.elim
    | some b =>
      rw [hq] at h
      refine ⟨b, hm n b hq, fun e1 a na => ?_, fun e1 => ?_⟩
      · subst e1
        have ev2 : EnvR ⟨X.K, Jx cl a (.ref (cl n)) da⟩ w (e.set i (.sh (.exc n fs))) (σ'.set i (some (.ref a))) H' := EnvR.set_sh (EnvR.inJ ev') (.exc ⟨rfl, rfl, rfl⟩ (RepF.inJ z.1) z.2)
        refine ⟨w, _, ev2, ?_⟩
        simp only at h
        have key : ∀ (e' : En) (Q : L2.St → Hp → Prop), (e'.set i .no).all Sl.pure = true → (∀ σ H, EnvR ⟨X.K, J0⟩ w (e'.set i .no) σ H → Q σ H) → ∀ σ H, EnvR ⟨X.K, Jx cl a (.ref (cl n)) da⟩ w e' σ H → Q (σ.set i none) H :=
          fun e' Q hp hQ σ H ev => hQ _ _ ((EnvR.gone ev).sw hp)
        match g (e.set i (.sh (.exc n fs))), h with
        | some (.nx e'), h =>
          by_cases hp : (e'.set i .no).all Sl.pure = true
          · simp only [outB, if_pos hp] at h; exact key e' D.nx hp h
          · simp only [outB, if_neg hp] at h; exact False.elim h
        | some (.bk e'), h =>
          by_cases hp : (e'.set i .no).all Sl.pure = true
          · simp only [outB, if_pos hp] at h; exact key e' D.bk hp h
          · simp only [outB, if_neg hp] at h; exact False.elim h
        | some (.ct e'), h =>
          by_cases hp : (e'.set i .no).all Sl.pure = true
          · simp only [outB, if_pos hp] at h; exact key e' D.ct hp h
          · simp only [outB, if_neg hp] at h; exact False.elim h
        | some (.rt r), h =>
          by_cases hp : r.d.pure = true
          · simp only [outB, if_pos hp] at h; exact fun v H s q => h v H s (q.sw hp)
          · simp only [outB, if_neg hp] at h; exact False.elim h
        | some (.err _ _ _), h => exact h.elim
      · subst e1
        exact h da σ' H' ev' z
end

/-! ### isinstance of the caught exception -/
theorem kit_own {K : PySem.W.Frag} {t : Value} {C : Addr} {b : Bool} (hd : PySem.W.hasDictIn K C = true) (ht : PySem.W.typeIn K (.ref C) = some (.type "type")) (hs : PySem.W.subIn K t t = some true) (h : PySem.W.subIn K t (.ref C) = some b) : PySem.W.kitOne K t (.ref C) = some b := by
  unfold PySem.W.kitOne
  by_cases e : (t == Value.ref C) = true
  · rw [if_pos e]
    have e' := beq_iff_eq.mp e
    subst e'
    rw [← hs, h]
  · rw [if_neg e]
    obtain ⟨cd, hc, _⟩ := PySem.W.any_some hd
    have e2 : ((PySem.W.clsIn K C).isSome && PySem.W.typeIn K (.ref C) == some (.type "type")) = true := by rw [hc, ht] <;> rfl
    show (if ((PySem.W.clsIn K C).isSome && PySem.W.typeIn K (.ref C) == some (.type "type")) = true then PySem.W.subIn K t (.ref C) else none) = some b
    rw [if_pos e2]
    exact h
theorem kit_typ {K : PySem.W.Frag} {t : Addr} {T : String} {b : Bool} (hm : PySem.W.kitMeta T = true) (h : PySem.W.subIn K (.ref t) (.type T) = some b) : PySem.W.kitOne K (.ref t) (.type T) = some b := by
  unfold PySem.W.kitOne
  rw [if_neg (by intro e; have := beq_iff_eq.mp e; cases this)]
  show (if PySem.W.kitMeta T = true then PySem.W.subIn K (.ref t) (.type T) else none) = some b
  rw [if_pos hm]
  exact h
/-- slot i holds an exception without fields; kt tells of each class -/
def sIsE (i : Nat) (kt : Nat → Option Bool) : SE := fun env =>
  match env[i]? with
  | some (.sh (.exc n [])) => (kt n).map fun b => .val (.sh (.bl b))
  | _ => none
section
variable {X : Cx} {cl : Nat → Addr} {W : WX} {x y : Str} {i : Nat} {e2 : Expr} {p px pos : Pos} {kt : Nat → Option Bool} {a : Addr} {oe : Obj} {cls : Value} {d : Option Addr} {pn : List (Addr × Obj)} {c : V} {cv : Value}
theorem q_isE (hz : Zc cls d oe) (hf : ∃ vs, oe.data = .fields vs) (hN : X.N[i]? = some y) (h2 : QE (X.suite a ((a, oe) :: pn)) cl ⟨W, Jx cl a cls d⟩ e2 (sC (.op c))) (hcv : ∀ u, RelV c u → u = cv)
    (hk : ∀ n b, kt n = some b → ExcC X.K (cl n) ∧ PySem.W.kitOne X.K (.ref (cl n)) cv = some b) (hg : Gl X x) (hm : X.mg x = none) (hv : bootBuiltins x = some (.builtin "isinstance"))
    (hvis : Vis X.env.scope y := by first | exact Or.inl rfl | exact Or.inr (Or.inl rfl) | exact Or.inr (Or.inr rfl)) (hd : (y == ("__debug__" : Str)) = false := by decide) (hcd : (y == ("__classdict__" : Str)) = false := by decide)
    (hn : x ≠ "__name__" := by decide) (hdb : (x == ("__debug__" : Str)) = false := by decide)
    (he : starEach [(.Name y px), e2] X.env = (false, eval (.Name y px) X.env) :: starEach [e2] X.env := by rfl) (he2 : starEach [e2] X.env = (false, eval e2 X.env) :: starEach [] X.env := by rfl) (hpl : (backTo pos (starEach [e2] X.env)).any (·.1) = false := by rfl) :
    QE (X.suite a ((a, oe) :: pn)) cl ⟨W, Jx cl a cls d⟩ (.Call (.Name x p) [.Name y px, e2] [] pos) (sIsE i kt) := by
  have hcall : CallR (X.suite a ((a, oe) :: pn)) (.builtin "isinstance") (fun xs H Q => ∃ D, cls = .ref D ∧ d = none ∧ ExcC X.K D ∧ rIsE X.K D a xs H Q) := by
    intro pins s σ H xs us Q I r ⟨D, e1, e2, C, h⟩
    subst e1 e2
    exact call_isE C hz hf pins s σ H xs us Q I r h
  refine PEimp (pe_callB hcall hg hm hv (t := tA X.K cl ⟨W, Jx cl a cls d⟩ (aCons (sVar i) (aCons (sC (.op c)) aNil))) (qa_cons (q_var i hN hvis hd hcd) (qa_cons h2 qa_nil he2) he) hn hdb he hpl) fun σ H Q ⟨w, env, ev, h⟩ => ?_
  unfold sIsE at h
  split at h
  · rename_i n hi
    refine ⟨w, env, ev, ?_⟩
    have e : aCons (sVar i) (aCons (sC (.op c)) aNil) env = some (.vals [.sh (.exc n []), .sh (.op c)]) := by
      unfold aCons sVar; rw [hi]; rfl
    rw [e]
    intro vs H' s qs
    cases qs with
    | cons q1 qs =>
      cases qs with
      | cons q2 qs =>
        cases qs
        cases q1 with
        | exc hj hr h0 =>
          obtain ⟨rfl, rfl, rfl⟩ := hj
          have := h0 rfl
          subst this
          cases q2
          cases hk' : kt n with
          | none => rw [hk'] at h; exact h.elim
          | some b =>
            rw [hk'] at h
            obtain ⟨h1, h2⟩ := hk n b hk'
            exact ⟨_, rfl, rfl, h1, c, cv, b, rfl, hcv, h2, h _ H' s (.bl b)⟩
  · exact h.elim
end
/-! ### evaluation -/
section
variable {f g : SS} {m : Nat → Option Bool} {kt : Nat → Option Bool} {env e : En} {n i : Nat} {fs : List (Str × D)} {r : Rv} {b : Bool}
theorem sRaise_ap : sRaise n env = some (.err n [] env) := rfl
def tryO (m : Nat → Option Bool) (g : SS) : Option Out → Option Out
  | some (.err n fs env') => (match m n with
    | some true => noErr (g env')
    | some false => some (.err n fs env')
    | none => none)
  | o => o
def tryA (i : Nat) (m : Nat → Option Bool) (g : SS) : Option Out → Option Out
  | some (.err n fs env') => (match m n with
    | some true => outB i (g (env'.set i (.sh (.exc n fs))))
    | some false => some (.err n fs env')
    | none => none)
  | o => o
theorem sTry_ap : sTry f m g env = tryO m g (f env) := rfl
theorem sTryAs_ap : sTryAs i f m g env = tryA i m g (f env) := rfl
theorem tryO_nx : tryO m g (some (.nx e)) = some (.nx e) := rfl
theorem tryO_rt : tryO m g (some (.rt r)) = some (.rt r) := rfl
theorem tryO_yes (h : m n = some true) : tryO m g (some (.err n fs e)) = noErr (g e) := by simp only [tryO, h]
theorem tryO_no (h : m n = some false) : tryO m g (some (.err n fs e)) = some (.err n fs e) := by simp only [tryO, h]
theorem tryA_nx : tryA i m g (some (.nx e)) = some (.nx e) := rfl
theorem tryA_rt : tryA i m g (some (.rt r)) = some (.rt r) := rfl
theorem tryA_yes (h : m n = some true) : tryA i m g (some (.err n fs e)) = outB i (g (e.set i (.sh (.exc n fs)))) := by simp only [tryA, h]
theorem tryA_no (h : m n = some false) : tryA i m g (some (.err n fs e)) = some (.err n fs e) := by simp only [tryA, h]
theorem noErr_nx : noErr (some (.nx e)) = some (.nx e) := rfl
theorem noErr_rt : noErr (some (.rt r)) = some (.rt r) := rfl
theorem outB_rt : outB i (some (.rt r)) = if r.d.pure = true then some (.rt r) else none := rfl
theorem outB_nx : outB i (some (.nx e)) = if (e.set i .no).all Sl.pure = true then some (.nx (e.set i .no)) else none := rfl
def isE (kt : Nat → Option Bool) : Option Sl → Option Er
  | some (.sh (.exc n [])) => (kt n).map fun b => .val (.sh (.bl b))
  | _ => none
theorem sIsE_ap : sIsE i kt env = isE kt env[i]? := rfl
theorem isE_v (h : kt n = some b) : isE kt (some (.sh (.exc n []))) = vS (.bl b) := by simp only [isE, h, Option.map_some]
theorem pure_bl : D.pure (.bl b) = true := rfl
theorem pure_str {x : Str} : D.pure (.str x) = true := rfl
theorem pure_non : D.pure .non = true := rfl
theorem pure_int {x : Int} : D.pure (.int x) = true := rfl
theorem pure_tup {xs : List D} : D.pure (.tup xs) = pureL xs := by rw [D.pure]
theorem pureL_nil : pureL [] = true := rfl
theorem pureL_cons {x : D} {xs : List D} : pureL (x :: xs) = (x.pure && pureL xs) := rfl
end
end DV

namespace K21
open PySem PySem.Spec L2 DV
def kd_NONE : D := .tup [.int (0), .int (1)]
def kd_ALL : D := .tup [.int (1), .int (1)]
def mt_LandError : Nat → Option Bool := fun n => match n with | 2 => some true | _ => none
def kt_BadShares : Nat → Option Bool := fun n => match n with | 2 => some false | _ => none
def kt_TooFine : Nat → Option Bool := fun n => match n with | 2 => some false | _ => none
def kt_BadCells : Nat → Option Bool := fun n => match n with | 2 => some false | _ => none
def kt_BadFraction : Nat → Option Bool := fun n => match n with | 2 => some true | _ => none
def kt_ValueError : Nat → Option Bool := fun n => match n with | 2 => some true | _ => none
/-- common_divisor(one, other) -/
def body_common_divisor : SS :=
  sSeq (sWhl (sNe (sVar 1) (sC (.int 0))) (sPar 0 1 (aCons (sVar 1) (aCons (sMod (sVar 0) (sVar 1)) (aNil)))) 100000) (sRet (sBlt dAbs (aCons (sVar 0) (aNil))))
def sem_common_divisor : List D → Option Er := fnSem 2 2 body_common_divisor
/-- is_number(thing) -/
def body_is_number : SS :=
  sRet (sAnd (sBlt dIsi (aCons (sVar 0) (aCons (sC (.op (.ty "int"))) (aNil)))) (sNot (sBlt dIsi (aCons (sVar 0) (aCons (sC (.op (.ty "bool"))) (aNil))))))
def sem_is_number : List D → Option Er := fnSem 1 1 body_is_number
/-- fraction(top, bottom) -/
def body_fraction : SS :=
  sSeq (sIte (sOr (sNot (sCall sem_is_number (aCons (sVar 0) (aNil)))) (sOr (sNot (sCall sem_is_number (aCons (sVar 1) (aNil)))) (sEq (sVar 1) (sC (.int 0))))) (sRaise 2) (sNext)) (sSeq (sSet 2 (sCall sem_common_divisor (aCons (sVar 0) (aCons (sVar 1) (aNil))))) (sSeq (sIte (sLt (sVar 1) (sC (.int 0))) (sSet 2 (sNeg (sVar 2))) (sNext)) (sRet (sTup (aCons (sDiv (sVar 0) (sVar 2)) (aCons (sDiv (sVar 1) (sVar 2)) (aNil)))))))
def sem_fraction : List D → Option Er := fnSem 2 3 body_fraction
/-- _law_cell(_law_script, _law_k, _law_many) -/
def body__law_cell : SS :=
  sSeq (sIte (sLt (sVar 1) (sBlt dLen (aCons (sVar 0) (aNil)))) (sRet (sMod (sIx (sVar 0) (sVar 1)) (sVar 2))) (sNext)) (sSeq (sSet 3 (sC (.int 5))) (sSeq (sIte (sGt (sBlt dLen (aCons (sVar 0) (aNil))) (sC (.int 0))) (sSet 3 (sMod (sIx (sVar 0) (sMod (sVar 1) (sBlt dLen (aCons (sVar 0) (aNil))))) (sC (.int 2147483647)))) (sNext)) (sRet (sMod (sMod (sAdd (sMul (sVar 3) (sC (.int 48271))) (sMul (sMul (sAdd (sVar 1) (sC (.int 3))) (sAdd (sVar 1) (sC (.int 7)))) (sC (.int 69621)))) (sC (.int 2147483629))) (sVar 2)))))
def sem__law_cell : List D → Option Er := fnSem 3 4 body__law_cell
/-- _law_number(_law_script, _law_k) -/
def body__law_number : SS :=
  sSeq (sIte (sEq (sCall sem__law_cell (aCons (sVar 0) (aCons (sAdd (sVar 1) (sC (.int 4))) (aCons (sC (.int 2)) (aNil))))) (sC (.int 0))) (sRet (sSub (sCall sem__law_cell (aCons (sVar 0) (aCons (sVar 1) (aCons (sC (.int 13)) (aNil))))) (sC (.int 6)))) (sNext)) (sRet (sSub (sCall sem__law_cell (aCons (sVar 0) (aCons (sVar 1) (aCons (sMul (sC (.int 2)) (sPow (sC (.int 10)) (sC (.int 60)))) (aNil))))) (sPow (sC (.int 10)) (sC (.int 60)))))
def sem__law_number : List D → Option Er := fnSem 2 2 body__law_number
/-- _law_refused(_law_top, _law_bottom) -/
def body__law_refused : SS :=
  sSeq (sTryAs 2 (sDrop (sCall sem_fraction (aCons (sVar 0) (aCons (sVar 1) (aNil))))) mt_LandError (sSeq (sIte (sOr (sIsE 2 kt_BadShares) (sOr (sIsE 2 kt_TooFine) (sIsE 2 kt_BadCells))) (sRet (sC (.bl false))) (sNext)) (sRet (sAnd (sIsE 2 kt_BadFraction) (sIsE 2 kt_ValueError))))) (sRet (sC (.bl false)))
def sem__law_refused : List D → Option Er := fnSem 2 3 body__law_refused
/-- _law_whole(_law_found) -/
def body__law_whole : SS :=
  sRet (sAnd (sBlt dIsi (aCons (sVar 0) (aCons (sC (.op (.ty "int"))) (aNil)))) (sNot (sBlt dIsi (aCons (sVar 0) (aCons (sC (.op (.ty "bool"))) (aNil))))))
def sem__law_whole : List D → Option Er := fnSem 1 1 body__law_whole
/-- _law_pair(_law_found) -/
def body__law_pair : SS :=
  sSeq (sIte (sOr (sNot (sBlt dIsi (aCons (sVar 0) (aCons (sC (.op (.ty "tuple"))) (aNil))))) (sNe (sBlt dLen (aCons (sVar 0) (aNil))) (sC (.int 2)))) (sRet (sC (.bl false))) (sNext)) (sRet (sAnd (sCall sem__law_whole (aCons (sIx (sVar 0) (sC (.int 0))) (aNil))) (sCall sem__law_whole (aCons (sIx (sVar 0) (sC (.int 1))) (aNil)))))
def sem__law_pair : List D → Option Er := fnSem 1 1 body__law_pair
/-- _law_divisor(_law_one, _law_other) -/
def body__law_divisor : SS :=
  sSeq (sWhl (sNe (sVar 1) (sC (.int 0))) (sPar 0 1 (aCons (sVar 1) (aCons (sMod (sVar 0) (sVar 1)) (aNil)))) 100000) (sRet (sBlt dAbs (aCons (sVar 0) (aNil))))
def sem__law_divisor : List D → Option Er := fnSem 2 2 body__law_divisor
/-- law(_law_script) -/
def body_law : SS :=
  sSeq (sSet 1 (sAdd (sC (.int 1)) (sCall sem__law_cell (aCons (sVar 0) (aCons (sC (.int 2)) (aCons (sIx (sLst (aCons (sC (.int 1)) (aCons (sC (.int 9)) (aCons (sPow (sC (.int 10)) (sC (.int 30))) (aNil))))) (sCall sem__law_cell (aCons (sVar 0) (aCons (sC (.int 3)) (aCons (sC (.int 3)) (aNil)))))) (aNil))))))) (sSeq (sSet 2 (sMul (sCall sem__law_number (aCons (sVar 0) (aCons (sC (.int 0)) (aNil)))) (sVar 1))) (sSeq (sSet 3 (sMul (sCall sem__law_number (aCons (sVar 0) (aCons (sC (.int 1)) (aNil)))) (sVar 1))) (sSeq (sIte (sEq (sCall sem__law_cell (aCons (sVar 0) (aCons (sC (.int 6)) (aCons (sC (.int 6)) (aNil))))) (sC (.int 1))) (sSeq (sSet 4 (sIx (sLst (aCons (sC (.bl true)) (aCons (sC (.bl false)) (aCons (sC .non) (aCons (sC (.str "1")) (aCons (sTup (aCons (sC (.int 1)) (aCons (sC (.int 2)) (aNil)))) (aCons (sLst (aCons (sC (.int 2)) (aNil))) (aNil)))))))) (sCall sem__law_cell (aCons (sVar 0) (aCons (sC (.int 7)) (aCons (sC (.int 6)) (aNil))))))) (sSeq (sIte (sEq (sCall sem__law_cell (aCons (sVar 0) (aCons (sC (.int 8)) (aCons (sC (.int 2)) (aNil))))) (sC (.int 0))) (sRet (sCall sem__law_refused (aCons (sVar 4) (aCons (sVar 3) (aNil))))) (sNext)) (sRet (sCall sem__law_refused (aCons (sVar 2) (aCons (sVar 4) (aNil))))))) (sNext)) (sSeq (sIte (sEq (sVar 3) (sC (.int 0))) (sRet (sCall sem__law_refused (aCons (sVar 2) (aCons (sVar 3) (aNil))))) (sNext)) (sSeq (sSet 5 (sCall sem_fraction (aCons (sVar 2) (aCons (sVar 3) (aNil))))) (sSeq (sIte (sOr (sNot (sCall sem__law_pair (aCons (sVar 5) (aNil)))) (sOr (sLt (sIx (sVar 5) (sC (.int 1))) (sC (.int 1))) (sNe (sMul (sIx (sVar 5) (sC (.int 0))) (sVar 3)) (sMul (sIx (sVar 5) (sC (.int 1))) (sVar 2))))) (sRet (sC (.bl false))) (sNext)) (sSeq (sIte (sOr (sNe (sCall sem__law_divisor (aCons (sIx (sVar 5) (sC (.int 0))) (aCons (sIx (sVar 5) (sC (.int 1))) (aNil)))) (sC (.int 1))) (sOr (sNe (sC kd_NONE) (sTup (aCons (sC (.int 0)) (aCons (sC (.int 1)) (aNil))))) (sNe (sC kd_ALL) (sTup (aCons (sC (.int 1)) (aCons (sC (.int 1)) (aNil))))))) (sRet (sC (.bl false))) (sNext)) (sSeq (sSet 6 (sCall sem_fraction (aCons (sC (.int 0)) (aCons (sVar 3) (aNil))))) (sSeq (sSet 7 (sCall sem_fraction (aCons (sVar 3) (aCons (sVar 3) (aNil))))) (sRet (sAnd (sCall sem__law_pair (aCons (sVar 6) (aNil))) (sAnd (sCall sem__law_pair (aCons (sVar 7) (aNil))) (sAnd (sEq (sVar 6) (sC kd_NONE)) (sEq (sVar 7) (sC kd_ALL)))))))))))))))
def sem_law : List D → Option Er := fnSem 1 8 body_law
end K21

/-! DVC: more evaluation rules; common helpers of the laws -/
namespace DV
open PySem PySem.Spec L2
section
variable {i j : Int} {ds xs ys : List D} {d e : D} {b : Bool}
theorem nc2 : ((2 : Nat) : Int) = 2 := rfl
theorem nc3 : ((3 : Nat) : Int) = 3 := rfl
theorem nc4 : ((4 : Nat) : Int) = 4 := rfl
theorem nc5 : ((5 : Nat) : Int) = 5 := rfl
theorem nc6 : ((6 : Nat) : Int) = 6 := rfl
theorem nc7 : ((7 : Nat) : Int) = 7 := rfl
theorem nc8 : ((8 : Nat) : Int) = 8 := rfl
theorem nc9 : ((9 : Nat) : Int) = 9 := rfl
theorem nc10 : ((10 : Nat) : Int) = 10 := rfl
theorem nc11 : ((11 : Nat) : Int) = 11 := rfl
theorem nc12 : ((12 : Nat) : Int) = 12 := rfl
theorem nc13 : ((13 : Nat) : Int) = 13 := rfl
theorem dLen_lst : dLen [.lst ds] = rvI ds.length := rfl
theorem dLen_kl : dLen [.kl ds] = rvI ds.length := rfl
theorem dLen_tup : dLen [.tup ds] = rvI ds.length := rfl
theorem dAdd_int : dAdd (.int i) (.int j) = rvI (i + j) := rfl
theorem dSub_int : dSub (.int i) (.int j) = rvI (i - j) := rfl
theorem dMod_int : dMod (.int i) (.int j) = if j ≠ 0 then rvI (i.fmod j) else none := rfl
theorem dDiv_int : dDiv (.int i) (.int j) = if j ≠ 0 ∧ j.natAbs.log2 < 9000 then rvI (i.fdiv j) else none := rfl
theorem dLt_int : dLt (.int i) (.int j) = rvB (decide (i < j)) := rfl
theorem dGt_int : dGt (.int i) (.int j) = rvB (decide (j < i)) := rfl
theorem dLe_int : dLe (.int i) (.int j) = rvB (decide (i ≤ j)) := rfl
theorem dGe_int : dGe (.int i) (.int j) = rvB (decide (j ≤ i)) := rfl
theorem dAbs_int : dAbs [.int i] = rvI (if i < 0 then -i else i) := rfl
theorem dNeg_int : dNeg (.int i) = some (.sh (.int (-i))) := rfl
theorem dIx_lst : dIx (.lst ds) (.int i) = (atI ds i).map .sh := rfl
theorem dIx_kl : dIx (.kl ds) (.int i) = (atI ds i).map .sh := rfl
theorem dIx_tup : dIx (.tup ds) (.int i) = (atI ds i).map .sh := rfl
theorem dEq_eq : dEq d e = if d.ok 9 && e.ok 9 then rvB (eqD d e) else none := rfl
theorem dNe_eq : dNe d e = if d.ok 9 && e.ok 9 then rvB (!eqD d e) else none := rfl
def isiO (n : String) : Option String → Option Rv
  | some t => (kitB t n).map fun b => .sh (.bl b)
  | none => none
theorem dIsi_ap {n : String} : dIsi [d, .op (.ty n)] = match tyOf d with | some t => (kitB t n).map fun b => .sh (.bl b) | none => none := rfl
theorem tyOf_int : tyOf (.int i) = some "int" := rfl
theorem tyOf_bl : tyOf (.bl b) = some "bool" := rfl
theorem tyOf_tup : tyOf (.tup ds) = some "tuple" := rfl
theorem tyOf_lst : tyOf (.lst ds) = some "list" := rfl
theorem tyOf_str {x : Str} : tyOf (.str x) = some "str" := rfl
theorem tyOf_non : tyOf .non = some "NoneType" := rfl
theorem atI_map {α β : Type} (f : α → β) (xs : List α) (i : Int) : atI (xs.map f) i = (atI xs i).map f := by
  unfold atI
  rw [List.length_map]
  cases ixN xs.length i with
  | none => rfl
  | some j => simp
theorem atI_in {α : Type} {xs : List α} {i : Int} (h0 : 0 ≤ i) (h1 : i < xs.length) : atI xs i = some (xs[i.toNat]'(by omega)) := by
  have e : ((i.toNat : Nat) : Int) = i := by omega
  have := atI_nat (xs := xs) (j := i.toNat) (List.getElem?_eq_getElem (by omega))
  rw [e] at this
  exact this
theorem dMul_ok (a c : Nat) (ha : i.natAbs < 2 ^ a) (hc : j.natAbs < 2 ^ c) (h0 : 0 < a) (h1 : 0 < c) (h : a + c ≤ 1000000) : dMul (.int i) (.int j) = rvI (i * j) := by
  show (if _ then _ else _) = _
  have hh : i.natAbs.log2 + j.natAbs.log2 < 1000000 := wide_mul ha hc h0 h1 h
  rw [if_pos hh]
theorem dMul_small (ha : i.natAbs < 18446744073709551616) (hc : j.natAbs < 18446744073709551616) : dMul (.int i) (.int j) = rvI (i * j) :=
  dMul_ok 64 64 (by have : (2 : Nat) ^ 64 = 18446744073709551616 := by decide
                    omega) (by have : (2 : Nat) ^ 64 = 18446744073709551616 := by decide
                               omega) (by omega) (by omega) (by omega)
end
local macro_rules | `(tactic| walk_at "dv") => `(tactic| simp only [sSeq_ap, sNext_ap, sBreak_ap, sCont_ap, sIte_ap, iteO_b, sAnd_ap, sOr_ap, andE_b, orE_b, sNot_ap, notE_b, sIf_ap, ifE_b, sSet_ap, sDrop_ap, sRet_ap, retO_sh, retO_nw, sRetN_ap, sRetV_ap, retV_sh, retV_ow, sVar_ap, varE_sh, varE_ow, sC_ap, sBin_ap, sUn_ap, aNil_ap, aCons_ap, consA_v, consA_e, bindA_v, bindA_e, sTup_ap, sLst_ap, tupE_v, lstE_v, frzs_nil, frzs_cons, frz2_v, sCall_ap, callRes_f, sBlt_ap, isBw_sh, isBw_nw, isBw_bw, fz_nil, fz_cons, fz1_sh, fz1_ow, fz1_no, fz1_pn, gSet_ap, sPar_ap, parO_v, bindE_val, bindE_err, bindE_none, bindS_val, bindS_err, bindS_none, bindO_nx, bindO_rt, bindO_bk, bindO_ct, bindO_err, bindO_none, outSet_sh, outSet_nw, outE_sh, outE_nw, outE_nx, Rv.d_sh, Rv.d_nw, Rv.d_bw, Rv.frz_sh, Rv.frz_nw, Rv.frz_bw, List.getElem?_cons_zero, List.getElem?_cons_succ, List.set_cons_zero, List.set_cons_succ, List.map_cons, List.map_nil, List.any_cons, List.any_nil, List.all_cons, List.all_nil, Bool.or_false, Bool.false_or, Bool.or_true, Bool.true_or, Bool.and_true, Bool.true_and, Bool.false_and, Bool.and_false, Bool.not_true, Bool.not_false, List.append_nil, List.nil_append, List.cons_append, Option.map_some, Option.map_none, dLen_lst, dLen_kl, dLen_tup, d2_int, dAdd_int, dSub_int, dMod_int, dDiv_int, dIx_lst, dIx_kl, dIx_tup, atI_cons_zero, atI_cons_one, atI_cons_two, atI_cons_three, atI_map, dLt_int, dGt_int, dLe_int, dGe_int, dAbs_int, dNeg_int, dEq_eq, dNe_eq, dIsi_ap, tyOf_int, tyOf_bl, tyOf_tup, tyOf_lst, tyOf_str, tyOf_non, kb_ii, kb_ib, kb_bi, kb_bb, kb_tt, kb_ti, kb_tb, kb_ss, kb_si, kb_ni, kb_ns, kb_li, kb_ll, kb_tl, kb_lt, kb_it, kb_nt, kb_st, kb_bt, ok_int, ok_bl, ok_non, ok_tup, ok_lst, eqD_int, eqD_bl, eqD_str, eqD_non, eqD_tup, eqD_lst, eqL_cons, eqL_nil, eqL_nc, eqL_cn, List.replicate_succ, List.replicate_zero, List.length_map, List.length_cons, List.length_nil, if_true, if_false, ite_true, ite_false, decide_true, decide_false, decide_eq_true_eq, Bool.false_eq_true, reduceIte, reduceCtorEq, ne_eq, not_true_eq_false, not_false_eq_true, and_true, true_and, and_self, Int.reduceNe, Int.reduceEq, Int.reduceLT, Int.reduceLE, Int.reduceAdd, Int.reduceSub, Int.reduceNeg, Nat.reduceAdd, Nat.reduceSub, Nat.reduceLeDiff, Nat.reduceLT, Nat.reduceEqDiff, nc2, nc3, nc4, nc5, nc6, nc7, nc8, nc9, nc10, nc11, nc12, nc13, Int.natCast_one, Int.natCast_zero])
local macro_rules | `(tactic| walk_at "dvs") => `(tactic| simp only [sSeq_ap, sNext_ap, sBreak_ap, sCont_ap, sIte_ap, iteO_b, sAnd_ap, sOr_ap, andE_b, orE_b, sNot_ap, notE_b, sIf_ap, ifE_b, sSet_ap, sDrop_ap, sRet_ap, retO_sh, retO_nw, sRetN_ap, sRetV_ap, retV_sh, retV_ow, sVar_ap, varE_sh, varE_ow, sC_ap, sBin_ap, sUn_ap, aNil_ap, aCons_ap, consA_v, consA_e, bindA_v, bindA_e, sTup_ap, sLst_ap, tupE_v, lstE_v, frzs_nil, frzs_cons, frz2_v, sCall_ap, callRes_f, sBlt_ap, isBw_sh, isBw_nw, isBw_bw, fz_nil, fz_cons, fz1_sh, fz1_ow, fz1_no, fz1_pn, gSet_ap, sPar_ap, parO_v, bindE_val, bindE_err, bindE_none, bindS_val, bindS_err, bindS_none, bindO_nx, bindO_rt, bindO_bk, bindO_ct, bindO_err, bindO_none, outSet_sh, outSet_nw, outE_sh, outE_nw, outE_nx, Rv.d_sh, Rv.d_nw, Rv.d_bw, Rv.frz_sh, Rv.frz_nw, Rv.frz_bw, List.getElem?_cons_zero, List.getElem?_cons_succ, List.set_cons_zero, List.set_cons_succ, List.map_cons, List.map_nil, List.any_cons, List.any_nil, List.all_cons, List.all_nil, Bool.or_false, Bool.false_or, Bool.or_true, Bool.true_or, Bool.and_true, Bool.true_and, Bool.false_and, Bool.and_false, Bool.not_true, Bool.not_false, List.append_nil, List.nil_append, List.cons_append, Option.map_some, Option.map_none, dLen_lst, dLen_kl, dLen_tup, d2_int, dAdd_int, dSub_int, dMod_int, dDiv_int, dIx_lst, dIx_kl, dIx_tup, atI_cons_zero, atI_cons_one, atI_cons_two, atI_cons_three, atI_map, dLt_int, dGt_int, dLe_int, dGe_int, dAbs_int, dNeg_int, dEq_eq, dNe_eq, dIsi_ap, tyOf_int, tyOf_bl, tyOf_tup, tyOf_lst, tyOf_str, tyOf_non, kb_ii, kb_ib, kb_bi, kb_bb, kb_tt, kb_ti, kb_tb, kb_ss, kb_si, kb_ni, kb_ns, kb_li, kb_ll, kb_tl, kb_lt, kb_it, kb_nt, kb_st, kb_bt, ok_int, ok_bl, ok_non, ok_tup, ok_lst, eqD_int, eqD_bl, eqD_str, eqD_non, eqD_tup, eqD_lst, eqL_cons, eqL_nil, eqL_nc, eqL_cn, List.replicate_succ, List.replicate_zero, List.length_map, List.length_cons, List.length_nil, if_true, if_false, ite_true, ite_false, decide_true, decide_false, decide_eq_true_eq, Bool.false_eq_true, reduceIte, reduceCtorEq, ne_eq, not_true_eq_false, not_false_eq_true, and_true, true_and, and_self, Int.reduceNe, Int.reduceEq, Int.reduceLT, Int.reduceLE, Int.reduceAdd, Int.reduceSub, Int.reduceNeg, Nat.reduceAdd, Nat.reduceSub, Nat.reduceLeDiff, Nat.reduceLT, Nat.reduceEqDiff, nc2, nc3, nc4, nc5, nc6, nc7, nc8, nc9, nc10, nc11, nc12, nc13, Int.natCast_one, Int.natCast_zero, *])
/-! ### a law's cell -/
def cellB : SS := sSeq (sIte (sLt (sVar 1) (sBlt dLen (aCons (sVar 0) (aNil)))) (sRet (sMod (sIx (sVar 0) (sVar 1)) (sVar 2))) (sNext)) (sSeq (sSet 3 (sC (.int 5))) (sSeq (sIte (sGt (sBlt dLen (aCons (sVar 0) (aNil))) (sC (.int 0))) (sSet 3 (sMod (sIx (sVar 0) (sMod (sVar 1) (sBlt dLen (aCons (sVar 0) (aNil))))) (sC (.int 2147483647)))) (sNext)) (sRet (sMod (sMod (sAdd (sMul (sVar 3) (sC (.int 48271))) (sMul (sMul (sAdd (sVar 1) (sC (.int 3))) (sAdd (sVar 1) (sC (.int 7)))) (sC (.int 69621)))) (sC (.int 2147483629))) (sVar 2)))))
def cellF : List D → Option Er := fnSem 3 4 cellB
theorem cell_eq (ns : List Int) (k m : Int) (hk : 0 ≤ k) (hk2 : k ≤ 1000000) (hm : 0 < m) : cellF [scr ns, .int k, .int m] = vS (.int (cellv ns k m)) := by
  refine fnSem_run (o := .rt (.sh (.int (cellv ns k m)))) rfl ?_
  unfold cellB scr
  have m0 : m ≠ 0 := by omega
  have fm : ∀ y : Int, y.fmod m = y % m := fun y => Int.fmod_eq_emod_of_nonneg _ (by omega)
  by_cases h : k < ns.length
  · obtain ⟨x, a, e⟩ : ∃ x, atI ns k = some x ∧ cellv ns k m = x % m := ⟨_, atI_in hk h, by unfold cellv; rw [dif_pos ⟨hk, h⟩]⟩
    rw [e]
    clear e hk hk2 hm
    walk_at "dvs"
  · have e1 : dMul (.int (k + 3)) (.int (k + 7)) = rvI ((k + 3) * (k + 7)) := dMul_small (by omega) (by omega)
    have b1 : ((k + 3) * (k + 7)).natAbs < 18446744073709551616 := by
      rw [Int.natAbs_mul]
      have h1 : (k + 3).natAbs ≤ 1000010 := by omega
      have h2 : (k + 7).natAbs ≤ 1000010 := by omega
      exact Nat.lt_of_le_of_lt (Nat.mul_le_mul h1 h2) (by decide)
    have e2 : dMul (.int ((k + 3) * (k + 7))) (.int 69621) = rvI ((k + 3) * (k + 7) * 69621) := dMul_small b1 (by decide)
    have fp : ∀ y : Int, y.fmod 2147483629 = y % 2147483629 := fun y => Int.fmod_eq_emod_of_nonneg _ (by omega)
    have fq : ∀ y : Int, y.fmod 2147483647 = y % 2147483647 := fun y => Int.fmod_eq_emod_of_nonneg _ (by omega)
    by_cases h0 : 0 < ns.length
    · have hl : (0 : Int) < ns.length := by omega
      have hl0 : (ns.length : Int) ≠ 0 := by omega
      have fn : k.fmod ns.length = k % ns.length := Int.fmod_eq_emod_of_nonneg _ (by omega)
      have g1 := Int.emod_nonneg k (b := ns.length) (by omega)
      have g2 := Int.emod_lt_of_pos k (b := ns.length) (by omega)
      obtain ⟨x, a, e⟩ : ∃ x, atI ns (k % ns.length) = some x ∧ cellv ns k m = (x % 2147483647 * 48271 + (k + 3) * (k + 7) * 69621) % 2147483629 % m := ⟨_, atI_in g1 g2, by
        unfold cellv; rw [dif_neg (by omega), dif_pos h0]⟩
      have r1 := Int.emod_nonneg x (b := 2147483647) (by omega)
      have r2 := Int.emod_lt_of_pos x (b := 2147483647) (by omega)
      have e3 : dMul (.int (x % 2147483647)) (.int 48271) = rvI (x % 2147483647 * 48271) := dMul_small (by omega) (by decide)
      rw [e]
      clear e hk hk2 hm g1 g2 r1 r2 b1
      walk_at "dvs"
    · have hl : ¬ (0 : Int) < ns.length := by omega
      have e : cellv ns k m = (5 * 48271 + (k + 3) * (k + 7) * 69621) % 2147483629 % m := by
        unfold cellv; rw [dif_neg (by omega), dif_neg h0]
      have e3 : dMul (.int 5) (.int 48271) = rvI (5 * 48271) := dMul_small (by decide) (by decide)
      rw [e]
      clear e hk hk2 hm b1
      walk_at "dvs"
end DV

/-! DVF: fractions -/
namespace DV
open PySem PySem.Spec L2
local macro_rules | `(tactic| walk_at "dv") => `(tactic| simp only [sSeq_ap, sNext_ap, sBreak_ap, sCont_ap, sIte_ap, iteO_b, sAnd_ap, sOr_ap, andE_b, orE_b, sNot_ap, notE_b, sIf_ap, ifE_b, sSet_ap, sDrop_ap, sRet_ap, retO_sh, retO_nw, sRetN_ap, sRetV_ap, retV_sh, retV_ow, sVar_ap, varE_sh, varE_ow, sC_ap, sBin_ap, sUn_ap, aNil_ap, aCons_ap, consA_v, consA_e, bindA_v, bindA_e, sTup_ap, sLst_ap, tupE_v, lstE_v, frzs_nil, frzs_cons, frz2_v, sCall_ap, callRes_f, sBlt_ap, isBw_sh, isBw_nw, isBw_bw, fz_nil, fz_cons, fz1_sh, fz1_ow, fz1_no, fz1_pn, gSet_ap, sPar_ap, parO_v, bindE_val, bindE_err, bindE_none, bindS_val, bindS_err, bindS_none, bindO_nx, bindO_rt, bindO_bk, bindO_ct, bindO_err, bindO_none, outSet_sh, outSet_nw, outE_sh, outE_nw, outE_nx, Rv.d_sh, Rv.d_nw, Rv.d_bw, Rv.frz_sh, Rv.frz_nw, Rv.frz_bw, List.getElem?_cons_zero, List.getElem?_cons_succ, List.set_cons_zero, List.set_cons_succ, List.map_cons, List.map_nil, List.any_cons, List.any_nil, List.all_cons, List.all_nil, Bool.or_false, Bool.false_or, Bool.or_true, Bool.true_or, Bool.and_true, Bool.true_and, Bool.false_and, Bool.and_false, Bool.not_true, Bool.not_false, List.append_nil, List.nil_append, List.cons_append, Option.map_some, Option.map_none, dLen_lst, dLen_kl, dLen_tup, d2_int, dAdd_int, dSub_int, dMod_int, dDiv_int, dIx_lst, dIx_kl, dIx_tup, atI_cons_zero, atI_cons_one, atI_cons_two, atI_cons_three, atI_map, dLt_int, dGt_int, dLe_int, dGe_int, dAbs_int, dNeg_int, dEq_eq, dNe_eq, dIsi_ap, tyOf_int, tyOf_bl, tyOf_tup, tyOf_lst, tyOf_str, tyOf_non, kb_ii, kb_ib, kb_bi, kb_bb, kb_tt, kb_ti, kb_tb, kb_ss, kb_si, kb_ni, kb_ns, kb_li, kb_ll, kb_tl, kb_lt, kb_it, kb_nt, kb_st, kb_bt, ok_int, ok_bl, ok_non, ok_tup, ok_lst, eqD_int, eqD_bl, eqD_str, eqD_non, eqD_tup, eqD_lst, eqL_cons, eqL_nil, eqL_nc, eqL_cn, List.replicate_succ, List.replicate_zero, List.length_map, List.length_cons, List.length_nil, if_true, if_false, ite_true, ite_false, decide_true, decide_false, decide_eq_true_eq, Bool.false_eq_true, reduceIte, reduceCtorEq, ne_eq, not_true_eq_false, not_false_eq_true, and_true, true_and, and_self, Int.reduceNe, Int.reduceEq, Int.reduceLT, Int.reduceLE, Int.reduceAdd, Int.reduceSub, Int.reduceNeg, Nat.reduceAdd, Nat.reduceSub, Nat.reduceLeDiff, Nat.reduceLT, Nat.reduceEqDiff, nc2, nc3, nc4, nc5, nc6, nc7, nc8, nc9, nc10, nc11, nc12, nc13, Int.natCast_one, Int.natCast_zero])
local macro_rules | `(tactic| walk_at "dvs") => `(tactic| simp only [sSeq_ap, sNext_ap, sBreak_ap, sCont_ap, sIte_ap, iteO_b, sAnd_ap, sOr_ap, andE_b, orE_b, sNot_ap, notE_b, sIf_ap, ifE_b, sSet_ap, sDrop_ap, sRet_ap, retO_sh, retO_nw, sRetN_ap, sRetV_ap, retV_sh, retV_ow, sVar_ap, varE_sh, varE_ow, sC_ap, sBin_ap, sUn_ap, aNil_ap, aCons_ap, consA_v, consA_e, bindA_v, bindA_e, sTup_ap, sLst_ap, tupE_v, lstE_v, frzs_nil, frzs_cons, frz2_v, sCall_ap, callRes_f, sBlt_ap, isBw_sh, isBw_nw, isBw_bw, fz_nil, fz_cons, fz1_sh, fz1_ow, fz1_no, fz1_pn, gSet_ap, sPar_ap, parO_v, bindE_val, bindE_err, bindE_none, bindS_val, bindS_err, bindS_none, bindO_nx, bindO_rt, bindO_bk, bindO_ct, bindO_err, bindO_none, outSet_sh, outSet_nw, outE_sh, outE_nw, outE_nx, Rv.d_sh, Rv.d_nw, Rv.d_bw, Rv.frz_sh, Rv.frz_nw, Rv.frz_bw, List.getElem?_cons_zero, List.getElem?_cons_succ, List.set_cons_zero, List.set_cons_succ, List.map_cons, List.map_nil, List.any_cons, List.any_nil, List.all_cons, List.all_nil, Bool.or_false, Bool.false_or, Bool.or_true, Bool.true_or, Bool.and_true, Bool.true_and, Bool.false_and, Bool.and_false, Bool.not_true, Bool.not_false, List.append_nil, List.nil_append, List.cons_append, Option.map_some, Option.map_none, dLen_lst, dLen_kl, dLen_tup, d2_int, dAdd_int, dSub_int, dMod_int, dDiv_int, dIx_lst, dIx_kl, dIx_tup, atI_cons_zero, atI_cons_one, atI_cons_two, atI_cons_three, atI_map, dLt_int, dGt_int, dLe_int, dGe_int, dAbs_int, dNeg_int, dEq_eq, dNe_eq, dIsi_ap, tyOf_int, tyOf_bl, tyOf_tup, tyOf_lst, tyOf_str, tyOf_non, kb_ii, kb_ib, kb_bi, kb_bb, kb_tt, kb_ti, kb_tb, kb_ss, kb_si, kb_ni, kb_ns, kb_li, kb_ll, kb_tl, kb_lt, kb_it, kb_nt, kb_st, kb_bt, ok_int, ok_bl, ok_non, ok_tup, ok_lst, eqD_int, eqD_bl, eqD_str, eqD_non, eqD_tup, eqD_lst, eqL_cons, eqL_nil, eqL_nc, eqL_cn, List.replicate_succ, List.replicate_zero, List.length_map, List.length_cons, List.length_nil, if_true, if_false, ite_true, ite_false, decide_true, decide_false, decide_eq_true_eq, Bool.false_eq_true, reduceIte, reduceCtorEq, ne_eq, not_true_eq_false, not_false_eq_true, and_true, true_and, and_self, Int.reduceNe, Int.reduceEq, Int.reduceLT, Int.reduceLE, Int.reduceAdd, Int.reduceSub, Int.reduceNeg, Nat.reduceAdd, Nat.reduceSub, Nat.reduceLeDiff, Nat.reduceLT, Nat.reduceEqDiff, nc2, nc3, nc4, nc5, nc6, nc7, nc8, nc9, nc10, nc11, nc12, nc13, Int.natCast_one, Int.natCast_zero, *])
theorem fmod_small {a b : Int} (hb : b ≠ 0) : (a.fmod b).natAbs < b.natAbs ∧ (0 < b → 0 ≤ a.fmod b) ∧ (b < 0 → a.fmod b ≤ 0) := by
  by_cases h : 0 < b
  · rw [Int.fmod_eq_emod_of_nonneg a (by omega)]
    have h1 := Int.emod_nonneg a hb
    have h2 := Int.emod_lt_of_pos a h
    exact ⟨by omega, fun _ => h1, fun _ => by omega⟩
  · have h' : 0 < -b := by omega
    have e : a.fmod b = -((-a).fmod (-b)) := by rw [Int.neg_fmod_neg, Int.neg_neg]
    rw [e, Int.fmod_eq_emod_of_nonneg (-a) (show 0 ≤ -b by omega)]
    have h1 := Int.emod_nonneg (-a) (show -b ≠ 0 by omega)
    have h2 := Int.emod_lt_of_pos (-a) h'
    exact ⟨by omega, fun _ => by omega, fun _ => by omega⟩
theorem nat_mod_half {x y : Nat} (h0 : 0 < y) (h : y ≤ x) : 2 * (x % y) < x := by
  have h1 := Nat.mod_lt x h0
  have h2 := Nat.div_add_mod x y
  have h3 : 1 ≤ x / y := Nat.div_pos h h0
  have h4 : y * 1 ≤ y * (x / y) := Nat.mul_le_mul_left y h3
  omega
/-- two turns halve -/
theorem fmod_half {a b : Int} (hb : b ≠ 0) (hr : a.fmod b ≠ 0) : 2 * (b.fmod (a.fmod b)).natAbs < b.natAbs := by
  obtain ⟨h1, h2, h3⟩ := fmod_small (a := a) hb
  generalize a.fmod b = r at *
  by_cases h : 0 < b
  · have hr0 : 0 < r := by have := h2 h; omega
    have e : b.fmod r = b % r := Int.fmod_eq_emod_of_nonneg b (by omega)
    have q := nat_mod_half (x := b.natAbs) (y := r.natAbs) (by omega) (by omega)
    have e2 : (b % r).natAbs = b.natAbs % r.natAbs := by
      have : b % r = ((b.natAbs % r.natAbs : Nat) : Int) := by
        rw [Int.natCast_emod]
        congr 1 <;> omega
      rw [this, Int.natAbs_natCast]
    rw [e, e2]; exact q
  · have hb0 : b < 0 := by omega
    have hr0 : r < 0 := by have := h3 hb0; omega
    have e : b.fmod r = -((-b).fmod (-r)) := by rw [Int.neg_fmod_neg, Int.neg_neg]
    have e1 : (-b).fmod (-r) = (-b) % (-r) := Int.fmod_eq_emod_of_nonneg (-b) (by omega)
    have q := nat_mod_half (x := b.natAbs) (y := r.natAbs) (by omega) (by omega)
    have e2 : ((-b) % (-r)).natAbs = b.natAbs % r.natAbs := by
      have : (-b) % (-r) = ((b.natAbs % r.natAbs : Nat) : Int) := by
        rw [Int.natCast_emod]
        congr 1 <;> omega
      rw [this, Int.natAbs_natCast]
    rw [e, Int.natAbs_neg, e1, e2]; exact q
theorem gcd_fmod (a b : Int) : b.gcd (a.fmod b) = a.gcd b := by
  rw [Int.fmod_def, Int.gcd_sub_mul_left_right, Int.gcd_comm]

def gcdT : SE := sNe (sVar 1) (sC (.int 0))
def gcdL : SS := sPar 0 1 (aCons (sVar 1) (aCons (sMod (sVar 0) (sVar 1)) (aNil)))
def gcdB : SS := sSeq (sWhl gcdT gcdL 100000) (sRet (sBlt dAbs (aCons (sVar 0) (aNil))))
def gcdF : List D → Option Er := fnSem 2 2 gcdB
theorem gcdT_eq (a b : Int) : gcdT [.sh (.int a), .sh (.int b)] = vS (.bl (!decide (b = 0))) := by
  unfold gcdT
  walk_at "dv"
theorem gcdL_eq (a b : Int) (hb : b ≠ 0) : gcdL [.sh (.int a), .sh (.int b)] = some (.nx [.sh (.int b), .sh (.int (a.fmod b))]) := by
  unfold gcdL
  walk_at "dvs"
theorem gcd_loop : ∀ (n : Nat) (a b : Int), b.natAbs < 2 ^ n → ∃ r : Int, sWhl gcdT gcdL (2 * n + 1) [.sh (.int a), .sh (.int b)] = some (.nx [.sh (.int r), .sh (.int 0)]) ∧ r.natAbs = a.gcd b
  | 0, a, b, h => by
    have hb : b = 0 := by simp at h; exact h
    subst hb
    exact ⟨a, sWhl_done (by rw [gcdT_eq]; rfl), by simp⟩
  | n + 1, a, b, h => by
    by_cases hb : b = 0
    · subst hb
      exact ⟨a, sWhl_done (by rw [gcdT_eq]; rfl), by simp⟩
    · have t1 : sWhl gcdT gcdL (2 * (n + 1) + 1) [.sh (.int a), .sh (.int b)] = sWhl gcdT gcdL (2 * n + 2) [.sh (.int b), .sh (.int (a.fmod b))] :=
        sWhl_turn (by rw [gcdT_eq, decide_eq_false hb]; rfl) (gcdL_eq a b hb)
      by_cases hr : a.fmod b = 0
      · refine ⟨b, ?_, by rw [← gcd_fmod, hr]; simp⟩
        rw [t1, hr]
        exact sWhl_done (by rw [gcdT_eq]; rfl)
      · have t2 : sWhl gcdT gcdL (2 * n + 2) [.sh (.int b), .sh (.int (a.fmod b))] = sWhl gcdT gcdL (2 * n + 1) [.sh (.int (a.fmod b)), .sh (.int (b.fmod (a.fmod b)))] :=
          sWhl_turn (by rw [gcdT_eq, decide_eq_false hr]; rfl) (gcdL_eq _ _ hr)
        have hh := fmod_half hb hr
        have hp : 2 ^ (n + 1) = 2 * 2 ^ n := by rw [Nat.pow_succ]; omega
        obtain ⟨r, e, g⟩ := gcd_loop n (a.fmod b) (b.fmod (a.fmod b)) (by omega)
        exact ⟨r, by rw [t1, t2]; exact e, by rw [g, gcd_fmod, gcd_fmod]⟩
theorem gcd_eq {n : Nat} {a b : Int} (hb : b.natAbs < 2 ^ n) (hn : n ≤ 40000) : gcdF [.int a, .int b] = vS (.int (a.gcd b : Nat)) := by
  obtain ⟨r, e, g⟩ := gcd_loop n a b hb
  have e := sWhl_mono _ e 100000 (by omega)
  have ea : (if r < 0 then -r else r) = ((a.gcd b : Nat) : Int) := by
    split <;> omega
  refine fnSem_run (o := .rt (.sh (.int (a.gcd b : Nat)))) rfl ?_
  unfold gcdB
  rw [sSeq_ap]
  have e' : sWhl gcdT gcdL 100000 (List.map Sl.sh [D.int a, D.int b] ++ List.replicate (2 - 2) Sl.no) = some (.nx [.sh (.int r), .sh (.int 0)]) := e
  rw [e']
  rw [← ea]
  clear ea e e' g hb
  walk_at "dv"

/-! ### is_number, fraction -/
def fr (t b : Int) : D := .tup [.int t, .int b]
def isnB : SS := sRet (sAnd (sBlt dIsi (aCons (sVar 0) (aCons (sC (.op (.ty "int"))) (aNil)))) (sNot (sBlt dIsi (aCons (sVar 0) (aCons (sC (.op (.ty "bool"))) (aNil))))))
def isnF : List D → Option Er := fnSem 1 1 isnB
theorem isn_int (i : Int) : isnF [.int i] = vS (.bl true) := by
  refine fnSem_run (o := .rt (.sh (.bl true))) rfl ?_
  unfold isnB
  walk_at "dv"
theorem isn_bl (i : Bool) : isnF [.bl i] = vS (.bl false) := by
  refine fnSem_run (o := .rt (.sh (.bl false))) rfl ?_
  unfold isnB
  walk_at "dv"
theorem isn_tup (i : List D) : isnF [.tup i] = vS (.bl false) := by
  refine fnSem_run (o := .rt (.sh (.bl false))) rfl ?_
  unfold isnB
  walk_at "dv"
theorem isn_lst (i : List D) : isnF [.lst i] = vS (.bl false) := by
  refine fnSem_run (o := .rt (.sh (.bl false))) rfl ?_
  unfold isnB
  walk_at "dv"
theorem isn_str (i : Str) : isnF [.str i] = vS (.bl false) := by
  refine fnSem_run (o := .rt (.sh (.bl false))) rfl ?_
  unfold isnB
  walk_at "dv"
theorem isn_non : isnF [.non] = vS (.bl false) := by
  refine fnSem_run (o := .rt (.sh (.bl false))) rfl ?_
  unfold isnB
  walk_at "dv"
def fracB (n : Nat) : SS := sSeq (sIte (sOr (sNot (sCall isnF (aCons (sVar 0) (aNil)))) (sOr (sNot (sCall isnF (aCons (sVar 1) (aNil)))) (sEq (sVar 1) (sC (.int 0))))) (sRaise n) (sNext)) (sSeq (sSet 2 (sCall gcdF (aCons (sVar 0) (aCons (sVar 1) (aNil))))) (sSeq (sIte (sLt (sVar 1) (sC (.int 0))) (sSet 2 (sNeg (sVar 2))) (sNext)) (sRet (sTup (aCons (sDiv (sVar 0) (sVar 2)) (aCons (sDiv (sVar 1) (sVar 2)) (aNil)))))))
def fracF (n : Nat) : List D → Option Er := fnSem 2 3 (fracB n)
/-- lowest terms -/
def lowM (t b : Int) : Int := if b < 0 then -(t.gcd b : Nat) else (t.gcd b : Nat)
def lowN (t b : Int) : Int := t.fdiv (lowM t b)
def lowD (t b : Int) : Int := b.fdiv (lowM t b)
theorem log_lt {x : Int} {n : Nat} (h : x.natAbs < 2 ^ n) (h0 : 0 < n) (hn : n ≤ 9000) : x.natAbs.log2 < 9000 :=
  Nat.lt_of_lt_of_le (PySem.Flt.log2_lt_of h0 h) hn
theorem lowM_abs {t b : Int} (hb : b ≠ 0) : lowM t b ≠ 0 ∧ (lowM t b).natAbs ≤ b.natAbs ∧ (lowM t b).natAbs = t.gcd b := by
  have h1 : 0 < t.gcd b := Int.gcd_pos_of_ne_zero_right t hb
  have h2 : t.gcd b ≤ b.natAbs := by
    rw [Int.gcd_eq_natAbs_gcd_natAbs]
    exact Nat.le_of_dvd (by omega) (Nat.gcd_dvd_right _ _)
  unfold lowM
  split <;> omega
theorem frac_eq {n m : Nat} {t b : Int} (hb : b ≠ 0) (hn : b.natAbs < 2 ^ n) (h9 : n ≤ 9000) : fracF m [.int t, .int b] = vS (fr (lowN t b) (lowD t b)) := by
  have h0 : 0 < n := by
    cases n with
    | zero => simp at hn; omega
    | succ n => omega
  refine fnSem_run (o := .rt (.sh (fr (lowN t b) (lowD t b)))) rfl ?_
  have g := gcd_eq (a := t) hn (by omega)
  obtain ⟨m0, m1, m2⟩ := lowM_abs (t := t) hb
  have ml : (lowM t b).natAbs.log2 < 9000 := log_lt (Nat.lt_of_le_of_lt m1 hn) h0 h9
  unfold fracB fr lowN lowD
  have i1 := isn_int t
  have i2 := isn_int b
  clear m1 m2 hn h0
  have hb' : ¬ b = 0 := hb
  by_cases hs : b < 0
  · have em : -((t.gcd b : Nat) : Int) = lowM t b := by unfold lowM; rw [if_pos hs]
    walk_at "dvs"
  · have em : ((t.gcd b : Nat) : Int) = lowM t b := by unfold lowM; rw [if_neg hs]
    walk_at "dvs"
end DV

/-! DVB: lists by map, loops as folds, cells as bits -/
namespace DV
open PySem PySem.Spec L2
abbrev iN (k : Nat) : D := .int (k : Int)
section
variable {α : Type}
theorem lcL_eq {i : Nat} {ft fe : SE} {env : En} {f g : α → D} {p : α → Bool} : ∀ {xs : List α}, (∀ x ∈ xs, ft (env.set i (.sh (f x))) = vS (.bl (p x))) → (∀ x ∈ xs, p x = true → fe (env.set i (.sh (f x))) = vS (g x)) → lcL (.one i) ft fe env (xs.map f) = some ((xs.filter p).map g)
  | [], _, _ => rfl
  | x :: xs, h1, h2 => by
    have ih := lcL_eq (xs := xs) (fun y hy => h1 y (List.mem_cons_of_mem _ hy)) (fun y hy => h2 y (List.mem_cons_of_mem _ hy))
    have a := h1 x List.mem_cons_self
    have b := h2 x List.mem_cons_self
    rw [List.map_cons]
    unfold lcL
    simp only [LcT.go, a]
    cases hp : p x with
    | true => simp only [b hp, Rv.frz_sh, ih, List.filter_cons_of_pos hp, List.map_cons]
    | false => rw [List.filter_cons_of_neg (by simp [hp])]; simp only [ih]
theorem lcL_map {i : Nat} {fe : SE} {env : En} {f g : α → D} {xs : List α} (h : ∀ x ∈ xs, fe (env.set i (.sh (f x))) = vS (g x)) : lcL (.one i) sYes fe env (xs.map f) = some (xs.map g) := by
  rw [lcL_eq (p := fun _ => true) (fun _ _ => rfl) (fun x hx _ => h x hx), List.filter_eq_self.mpr fun _ _ => rfl]
def lastS (f : α → D) (s : Sl) (xs : List α) : Sl := match xs.getLast? with
  | some a => .sh (f a)
  | none => s
theorem lastS_or (f : α → D) (xs : List α) : lastS f .no xs = .no ∨ ∃ d, lastS f .no xs = .sh d := by
  unfold lastS
  cases xs.getLast? with
  | none => exact .inl rfl
  | some a => exact .inr ⟨_, rfl⟩
theorem lastS_cons {f : α → D} {s : Sl} {x : α} {xs : List α} : lastS f s (x :: xs) = lastS f (.sh (f x)) xs := by
  cases xs with
  | nil => rfl
  | cons y ys => unfold lastS; rw [List.getLast?_cons_cons]; rfl
theorem forL_fold {β : Type} {g : SG} {body : SS} {f : α → D} {st : β → Sl → En} {step : β → α → β} : ∀ {xs : List α} {b : β} {s : Sl}, (∀ b s, ∀ x ∈ xs, g (f x) (st b s) = some (st b (.sh (f x)))) → (∀ b, ∀ x ∈ xs, body (st b (.sh (f x))) = some (.nx (st (step b x) (.sh (f x)))) ∨ body (st b (.sh (f x))) = some (.ct (st (step b x) (.sh (f x))))) →
    forL g body (xs.map f) (st b s) = some (.nx (st (xs.foldl step b) (lastS f s xs)))
  | [], b, s, _, _ => rfl
  | x :: xs, b, s, h1, h2 => by
    have ih := forL_fold (xs := xs) (b := step b x) (s := .sh (f x)) (fun b s y hy => h1 b s y (List.mem_cons_of_mem _ hy)) (fun b y hy => h2 b y (List.mem_cons_of_mem _ hy))
    rw [lastS_cons, List.foldl_cons, ← ih, List.map_cons]
    show (match g (f x) (st b s) with | none => none | some env1 => _) = _
    rw [h1 b s x List.mem_cons_self]
    rcases h2 b x List.mem_cons_self with h | h <;> simp only [h]
/-- a fold whose state keeps a law -/
theorem forL_foldI {β : Type} {g : SG} {body : SS} {f : α → D} {st : β → Sl → En} {step : β → α → β} (I : β → Prop) : ∀ {xs : List α} {b : β} {s : Sl}, I b → (∀ b, I b → ∀ x ∈ xs, I (step b x)) → (∀ b s, ∀ x ∈ xs, g (f x) (st b s) = some (st b (.sh (f x)))) → (∀ b, I b → ∀ x ∈ xs, body (st b (.sh (f x))) = some (.nx (st (step b x) (.sh (f x))))) →
    forL g body (xs.map f) (st b s) = some (.nx (st (xs.foldl step b) (lastS f s xs)))
  | [], b, s, _, _, _, _ => rfl
  | x :: xs, b, s, i, hi, h1, h2 => by
    have ih := forL_foldI I (xs := xs) (b := step b x) (s := .sh (f x)) (hi b i x List.mem_cons_self) (fun b i y hy => hi b i y (List.mem_cons_of_mem _ hy)) (fun b s y hy => h1 b s y (List.mem_cons_of_mem _ hy)) (fun b i y hy => h2 b i y (List.mem_cons_of_mem _ hy))
    rw [lastS_cons, List.foldl_cons, ← ih, List.map_cons]
    show (match g (f x) (st b s) with | none => none | some env1 => _) = _
    rw [h1 b s x List.mem_cons_self]
    simp only [h2 b i x List.mem_cons_self]
def findO (r : α → Rv) (e : En) : Option α → Option Out
  | some x => some (.rt (r x))
  | none => some (.nx e)
/-- a law of the state kept through a loop -/
theorem forL_inv {g : SG} {body : SS} {P : En → Prop} : ∀ {ds : List D} {env : En}, P env → (∀ e, P e → ∀ x ∈ ds, ∃ e1, g x e = some e1 ∧ ∃ e2, body e1 = some (.nx e2) ∧ P e2) → ∃ e, forL g body ds env = some (.nx e) ∧ P e
  | [], env, h, _ => ⟨env, rfl, h⟩
  | x :: ds, env, h, hb => by
    obtain ⟨e1, h1, e2, h2, h3⟩ := hb env h x List.mem_cons_self
    obtain ⟨e, h4, h5⟩ := forL_inv h3 fun e he y hy => hb e he y (List.mem_cons_of_mem _ hy)
    exact ⟨e, (forL_next h1 h2).trans h4, h5⟩
/-- a search: the first that ends the loop, else on -/
theorem forL_find {g : SG} {body : SS} {f : α → D} {st : Sl → En} {p : α → Bool} {r : α → Rv} : ∀ {xs : List α} {s : Sl}, (∀ s, ∀ x ∈ xs, g (f x) (st s) = some (st (.sh (f x)))) → (∀ x ∈ xs, p x = false → body (st (.sh (f x))) = some (.nx (st (.sh (f x))))) → (∀ x ∈ xs, p x = true → body (st (.sh (f x))) = some (.rt (r x))) →
    forL g body (xs.map f) (st s) = findO r (st (lastS f s xs)) (xs.find? p)
  | [], s, _, _, _ => rfl
  | x :: xs, s, h1, h2, h3 => by
    rw [List.map_cons]
    show (match g (f x) (st s) with | none => none | some env1 => _) = _
    rw [h1 s x List.mem_cons_self]
    cases hp : p x with
    | true =>
      rw [List.find?_cons_of_pos hp]
      simp only [h3 x List.mem_cons_self hp, findO]
    | false =>
      have ih := forL_find (xs := xs) (s := .sh (f x)) (p := p) (r := r) (fun s y hy => h1 s y (List.mem_cons_of_mem _ hy)) (fun y hy => h2 y (List.mem_cons_of_mem _ hy)) (fun y hy => h3 y (List.mem_cons_of_mem _ hy))
      rw [List.find?_cons_of_neg (by simp [hp]), lastS_cons]
      simp only [h2 x List.mem_cons_self hp, ih]
theorem rngD_nat (n : Nat) : rngD 0 n = (List.range n).map iN := by
  unfold rngD iN
  simp only [Int.zero_add]
theorem cutD_map {β : Type} (f : α → β) (xs : List α) (lo hi : Option Int) : cutD (xs.map f) lo hi = (cutD xs lo hi).map f := by
  unfold cutD
  rw [List.length_map, List.map_take, List.map_drop]
theorem cutD_len (xs : List α) (lo hi : Option Int) : (cutD xs lo hi).length ≤ xs.length := by
  unfold cutD
  rw [List.length_take, List.length_drop]; omega
theorem cutD_mem {xs : List α} {lo hi : Option Int} {x : α} (h : x ∈ cutD xs lo hi) : x ∈ xs := by
  unfold cutD at h
  exact List.mem_of_mem_drop (List.mem_of_mem_take h)
end
section
variable {env : En} {i : Nat} {d : D} {ds xs ys : List D} {k : Int} {x : Rv} {f : SE}
theorem dMod_pos {i j : Int} (h : 0 < j) : dMod (.int i) (.int j) = rvI (i % j) := by
  rw [dMod_int, if_pos (by omega), Int.fmod_eq_emod_of_nonneg _ (by omega)]
theorem dDiv_pos {i j : Int} (h : 0 < j) (h2 : j < 18446744073709551616) : dDiv (.int i) (.int j) = rvI (i / j) := by
  have : j.natAbs.log2 < 64 := (Nat.log2_lt (by omega)).mpr (by have : (2 : Nat) ^ 64 = 18446744073709551616 := by decide
                                                                omega)
  rw [dDiv_int, if_pos ⟨by omega, by omega⟩, Int.fdiv_eq_ediv_of_nonneg _ (by omega)]
theorem sItL_ap : sItL f env = iOfL (f env) := rfl
theorem sItT_ap : sItT f env = iOfT (f env) := rfl
theorem iOfL_sh : iOfL (vS (.lst ds)) = some (.val ds) := rfl
theorem iOfL_kl : iOfL (vS (.kl ds)) = some (.val ds) := rfl
theorem iOfL_nw : iOfL (vN (.lst ds)) = some (.val ds) := rfl
theorem iOfT_sh : iOfT (vS (.tup ds)) = some (.val ds) := rfl
theorem sRng1_v {fa : SA} {r : Rv} (e : fa env = some (.vals [r])) (er : r.d = .int k) (h0 : 0 ≤ k) (h1 : k < 4611686018427387904) : sRng1 fa env = some (.val ((List.range k.toNat).map iN)) := by
  unfold sRng1
  rw [e]
  simp only [er]
  rw [if_pos ⟨by omega, h1⟩, rngD_nat]
theorem sLc_v {fi : SI} {own : List Nat} {t : LcT} {ft fe : SE} {xs : List D} (e : fi env = some (.val ds)) (hl : ds.length ≤ 100000) (ho : (own.all fun i => notOw env[i]?) = true) (h : lcL t ft fe (wipeE env own) ds = some xs) : sLc fi own t ft fe env = vN (.lst xs) := by
  unfold sLc
  rw [e]
  simp only
  rw [if_pos ⟨hl, ho⟩, h]
theorem sFor_v {fi : SI} {g : SG} {F : SS} (e : fi env = some (.val ds)) : sFor fi g F env = forL g F ds env := by
  unfold sFor
  rw [e]
theorem sForV_sh {g : SG} {F : SS} (e : env[i]? = some (.sh (.lst ds))) : sForV i g F env = forL g F ds env := by
  unfold sForV
  rw [e]
theorem sForV_kl {g : SG} {F : SS} (e : env[i]? = some (.sh (.kl ds))) : sForV i g F env = forL g F ds env := by
  unfold sForV
  rw [e]
theorem sForV_ow {g : SG} {F : SS} (e : env[i]? = some (.ow (.lst ds))) : sForV i g F env = unpin i ds (env.set i .pn) (forL g F ds (env.set i .pn)) := by
  unfold sForV
  rw [e]
theorem sSl_ap {s : D → Option Int → Option Int → Option Rv} {fl fh : SO} : sSlL' s f fl fh env = bindE (f env) fun x => slO s x (fl env) (fh env) := rfl
theorem slO_v {s : D → Option Int → Option Int → Option Rv} {lo hi : Option Int} : slO s x (some lo) (some hi) = (s x.d lo hi).map .val := rfl
theorem oSome_ap : oSome f env = intO (f env) := rfl
theorem oNone_ap : oNone env = some none := rfl
theorem intO_v : intO (vS (.int k)) = some (some k) := rfl
theorem dSlL_lst {lo hi : Option Int} : dSlL (.lst ds) lo hi = some (.nw (.lst (cutD ds lo hi))) := rfl
theorem dSlL_kl {lo hi : Option Int} : dSlL (.kl ds) lo hi = some (.nw (.lst (cutD ds lo hi))) := rfl
theorem dAdd_lst : dAdd (.lst xs) (.lst ys) = if xs.length + ys.length ≤ 100000 then some (.nw (.lst (xs ++ ys))) else none := rfl
theorem dList_lst : dList [.lst ds] = some (.nw (.lst ds)) := rfl
theorem dIn_lst : dIn d (.lst ds) = if d.ok 8 && (D.lst ds).ok 9 then some (.sh (.bl (ds.any fun z => eqD z d))) else none := rfl
theorem sApp_ap (e : env[i]? = some (.ow (.lst ds))) : sApp i f env = bindS (f env) env (appOut i env ds) := by
  unfold sApp; rw [e]
def appM (i : Nat) (f : SE) (env : En) : Option Sl → Option Out
  | some (.ow (.lst ds)) => bindS (f env) env (appOut i env ds)
  | _ => none
theorem sApp_eq : sApp i f env = appM i f env env[i]? := by
  unfold sApp
  cases h : env[i]? with
  | none => rfl
  | some s => cases s with
    | ow d => cases d <;> rfl
    | _ => rfl
theorem wipeE_nil : wipeE env [] = env := rfl
theorem wipeE_cons {v : Nat} {vs : List Nat} : wipeE env (v :: vs) = (wipeE env vs).set v .no := rfl
theorem appM_v : appM i f env (some (.ow (.lst ds))) = bindS (f env) env (appOut i env ds) := rfl
theorem unpin_v {e env1 : En} (h : e[i]? = some .pn) (h2 : pnSub e env1 = true) : unpin i ds env1 (some (.nx e)) = some (.nx (e.set i (.ow (.lst ds)))) := by
  unfold unpin
  simp only [h, if_pos h2]
theorem appOut_v : appOut i env ds (.sh d) = if ds.length < 100000 then some (.nx (env.set i (.ow (.lst (ds ++ [d]))))) else none := rfl
def asgM : Option En → Option Out
  | some e => some (.nx e)
  | none => none
def asgF (g : SG) (env : En) : Option D → Option Out
  | some d => asgM (g d env)
  | none => none
def asgR (g : SG) (env : En) (r : Rv) : Option Out := asgF g env r.frz
theorem sAsg_ap {g : SG} : sAsg f g env = bindS (f env) env (asgR g env) := by
  unfold sAsg
  congr 1
theorem asgR_sh {g : SG} : asgR g env (.sh d) = asgM (g d env) := rfl
theorem asgR_nw {g : SG} : asgR g env (.nw d) = asgM (g d env) := rfl
theorem asgM_v {e : En} : asgM (some e) = some (.nx e) := rfl
theorem gTp_v {n : Nat} {g : SGs} : gTp n g (.tup ds) env = if ds.length = n then g ds env else none := rfl
theorem gsNil_v : gsNil [] env = some env := rfl
theorem gsCons_v {g : SGs} : gsCons i g (d :: ds) env = g ds (env.set i (.sh d)) := rfl
theorem one_int {k : Int} : (D.int k).one = true := rfl
theorem one_bl {k : Bool} : (D.bl k).one = true := rfl
theorem one_str {k : Str} : (D.str k).one = true := rfl
theorem one_non : D.non.one = true := rfl
theorem dInT_tup {n : Bool} : dInT' n d (.tup ds) = if d.one && ds.all D.one then some (.sh (.bl (if n then !ds.any fun z => eqD z d else ds.any fun z => eqD z d))) else none := rfl
theorem dInT_lst {n : Bool} : dInT' n d (.lst ds) = if d.one && ds.all D.one then some (.sh (.bl (if n then !ds.any fun z => eqD z d else ds.any fun z => eqD z d))) else none := rfl
theorem isN_int (k : Int) : dIs (.int k) .non = some (.sh (.bl false)) := rfl
theorem isN_non : dIs .non .non = some (.sh (.bl true)) := rfl
theorem isNN_int (k : Int) : dIsNot (.int k) .non = some (.sh (.bl true)) := rfl
theorem isNN_non : dIsNot .non .non = some (.sh (.bl false)) := rfl
theorem okL_int {α : Type} {n : Nat} {f : α → Int} {xs : List α} : (xs.map fun x => D.int (f x)).all (D.ok n) = true := by
  rw [List.all_map, List.all_eq_true]
  intro x _
  exact ok_int
theorem okL_iN {n : Nat} {xs : List Nat} : (xs.map iN).all (D.ok n) = true := okL_int
theorem eqL_iN (xs ys : List Nat) : eqL (xs.map iN) (ys.map iN) = decide (xs = ys) := eqL_map iN (fun a b => by rw [eqD_int]; by_cases h : a = b <;> simp [h]; omega) xs ys
theorem dAdd_iN {as bs : List Nat} (h : as.length + bs.length ≤ 100000) : dAdd (.lst (as.map iN)) (.lst (bs.map iN)) = some (.nw (.lst ((as ++ bs).map iN))) := by
  rw [dAdd_lst, List.length_map, List.length_map, if_pos h, List.map_append]
theorem dSlL_scr {ns : List Int} {lo hi : Option Int} : dSlL (scr ns) lo hi = some (.nw (.lst ((cutD ns lo hi).map .int))) := by
  unfold scr
  rw [dSlL_kl, cutD_map]
theorem flat_iN {xs : List Nat} : flatL (xs.map iN) = true := by
  induction xs with
  | nil => rfl
  | cons x xs ih => exact ih
end
/-! ### bits -/
theorem bAnd_nat (a b : Nat) : Builtin.bitAnd (a : Int) (b : Int) = ((a &&& b : Nat) : Int) := by
  unfold Builtin.bitAnd
  have h1 : decide ((0 : Int) ≤ (a : Int)) = true := by simp
  have h2 : decide ((0 : Int) ≤ (b : Int)) = true := by simp
  rw [h1, h2]
  rfl
theorem bNot_nat (a : Nat) : Builtin.bitNot (Builtin.bitNot (a : Int)) = a := by unfold Builtin.bitNot; omega
theorem bOr_nat (a b : Nat) : Builtin.bitOr (a : Int) (b : Int) = ((a ||| b : Nat) : Int) := by
  unfold Builtin.bitOr Builtin.bitAnd
  have h1 : decide ((0 : Int) ≤ Builtin.bitNot (a : Int)) = false := by unfold Builtin.bitNot; rw [decide_eq_false_iff_not]; omega
  have h2 : decide ((0 : Int) ≤ Builtin.bitNot (b : Int)) = false := by unfold Builtin.bitNot; rw [decide_eq_false_iff_not]; omega
  rw [h1, h2]
  simp only [bNot_nat]
  rfl
theorem dXor_int {i j : Int} : dXor (.int i) (.int j) = rvI (Builtin.bitXor i j) := rfl
theorem dPow_int {i j : Int} : dPow (.int i) (.int j) = if 0 ≤ j ∧ j ≤ 1000000 ∧ i.natAbs < 18446744073709551616 then rvI (i ^ j.toNat) else none := rfl
theorem dPow_2_64 : dPow (.int 2) (.int 64) = rvI 18446744073709551616 := by
  rw [dPow_int, if_pos (by decide)]; rfl
theorem dPow_10_60 : dPow (.int 10) (.int 60) = rvI 1000000000000000000000000000000000000000000000000000000000000 := by
  rw [dPow_int, if_pos (by decide)]; rfl
theorem dAnd_int {i j : Int} : dAnd (.int i) (.int j) = rvI (Builtin.bitAnd i j) := rfl
theorem dOr_int {i j : Int} : dOr (.int i) (.int j) = rvI (Builtin.bitOr i j) := rfl
theorem dShr_int {i j : Int} : dShr (.int i) (.int j) = if 0 ≤ j then rvI (i / 2 ^ j.toNat) else none := rfl
theorem dShl_nat (a k : Nat) (ha : Builtin.Int.intBits a + k ≤ 134217728) : dShl (.int a) (.int k) = rvI ((a <<< k : Nat) : Int) := by
  show (if 0 ≤ (k : Int) ∧ (Builtin.Int.intBits (a : Int) : Int) + (k : Int) ≤ 134217728 then rvI ((a : Int) * 2 ^ (k : Int).toNat) else none) = _
  rw [if_pos ⟨by omega, by omega⟩, Int.toNat_natCast, Nat.shiftLeft_eq]
  simp
theorem dShl_one (k : Nat) (h : k ≤ 100000000) : dShl (.int 1) (.int k) = rvI ((2 ^ k : Nat) : Int) := by
  have := dShl_nat 1 k (by have : Builtin.Int.intBits ((1 : Nat) : Int) = 1 := by decide +kernel
                           omega)
  rw [Nat.one_shiftLeft] at this
  exact this
theorem dShr_nat (a k : Nat) : dShr (.int a) (.int k) = rvI ((a >>> k : Nat) : Int) := by
  rw [dShr_int, if_pos (by omega), Int.toNat_natCast, Nat.shiftRight_eq_div_pow]
  simp
theorem dAnd_nat (a b : Nat) : dAnd (.int a) (.int b) = rvI ((a &&& b : Nat) : Int) := by rw [dAnd_int, bAnd_nat]
theorem dOr_nat (a b : Nat) : dOr (.int a) (.int b) = rvI ((a ||| b : Nat) : Int) := by rw [dOr_int, bOr_nat]
/-- a bit asked -/
theorem bit_ask (c k : Nat) : (decide ((((c >>> k) &&& 1 : Nat) : Int) = 1)) = c.testBit k := by
  rw [Nat.testBit, Nat.and_comm 1, Nat.and_one_is_mod]
  by_cases h : (c >>> k) % 2 = 1
  · rw [h]; rfl
  · have : (c >>> k) % 2 = 0 := by omega
    rw [this]; rfl
/-- bits of a set below n -/
def bm (p : Nat → Bool) : Nat → Nat
  | 0 => 0
  | n + 1 => bm p n + if p n then 2 ^ n else 0
theorem bm_lt (p : Nat → Bool) : ∀ n, bm p n < 2 ^ n
  | 0 => Nat.one_pos
  | n + 1 => by
    have := bm_lt p n
    rw [bm, Nat.pow_succ]
    split <;> omega
theorem bm_bit (p : Nat → Bool) (j : Nat) : ∀ n, (bm p n).testBit j = (decide (j < n) && p j)
  | 0 => by simp [bm]
  | n + 1 => by
    have hl := bm_lt p n
    have ih := bm_bit p j n
    rw [bm]
    by_cases hn : p n = true
    · rw [if_pos hn, Nat.add_comm]
      by_cases e : j = n
      · subst e
        rw [Nat.testBit_two_pow_add_eq, Nat.testBit_lt_two_pow hl]
        simp [hn]
      · by_cases l : j < n
        · rw [Nat.testBit_two_pow_add_gt l, ih]
          simp [l]; intro; omega
        · have : 2 ^ n + bm p n < 2 ^ j := by
            have : 2 ^ (n + 1) ≤ 2 ^ j := Nat.pow_le_pow_right (by decide) (by omega)
            rw [Nat.pow_succ] at this
            omega
          rw [Nat.testBit_lt_two_pow this]
          have : ¬ j < n + 1 := by omega
          simp [this]
    · rw [if_neg hn, Nat.add_zero, ih]
      by_cases e : j = n
      · subst e
        simp at hn; simp [hn]
      · have : (j < n + 1) ↔ j < n := by omega
        simp [this]
theorem bm_eq {p q : Nat → Bool} {n : Nat} (h : ∀ j, j < n → p j = q j) : bm p n = bm q n := by
  induction n with
  | zero => rfl
  | succ n ih => rw [bm, bm, ih fun j hj => h j (by omega), h n (by omega)]
/-- the sum over the listed ones -/
theorem bm_sum (p : Nat → Bool) : ∀ n, ((List.range n).filter p).foldl (fun a k => a + 2 ^ k) 0 = bm p n
  | 0 => rfl
  | n + 1 => by
    rw [List.range_succ, List.filter_append, List.foldl_append, bm_sum p n, bm]
    by_cases h : p n = true
    · simp [h]
    · simp at h; simp [h]
/-- or over a list -/
theorem orL_bit (j : Nat) : ∀ (xs : List Nat) (c : Nat), (xs.foldl (fun a k => a ||| 2 ^ k) c).testBit j = (c.testBit j || xs.contains j)
  | [], c => by simp
  | x :: xs, c => by
    rw [List.foldl_cons, orL_bit j xs, Nat.testBit_or, Nat.testBit_two_pow, List.contains_cons, Bool.or_assoc]
    congr 2
    by_cases h : x = j
    · subst h; simp
    · have : ¬ j = x := fun z => h z.symm
      simp [h, this]
theorem orL_bm {xs : List Nat} {n : Nat} (h : ∀ x ∈ xs, x < n) : xs.foldl (fun a k => a ||| 2 ^ k) 0 = bm (fun k => xs.contains k) n := by
  apply Nat.eq_of_testBit_eq
  intro j
  rw [orL_bit, bm_bit]
  simp
  intro hx
  exact h j hx
local macro_rules | `(tactic| walk_at "dv") => `(tactic| simp -implicitDefEqProofs only [sSeq_ap, sAsg_ap, asgR_sh, asgR_nw, asgM_v, gTp_v, gsNil_v, gsCons_v, wipeE_nil, wipeE_cons, sApp_eq, appM_v, eq_self, sSl_ap, slO_v, oSome_ap, oNone_ap, intO_v, dSlL_lst, dSlL_kl, dSlL_scr, dList_lst, appOut_v, isN_int, isN_non, isNN_int, isNN_non, sItL_ap, sItT_ap, iOfL_sh, iOfL_kl, iOfL_nw, iOfT_sh, okL_iN, List.append_assoc, one_int, one_bl, one_str, one_non, dPow_2_64, dPow_10_60, sNext_ap, sBreak_ap, sCont_ap, sIte_ap, iteO_b, sAnd_ap, sOr_ap, andE_b, orE_b, sNot_ap, notE_b, sIf_ap, ifE_b, sSet_ap, sDrop_ap, sRet_ap, retO_sh, retO_nw, sRetN_ap, sRetV_ap, retV_sh, retV_ow, sVar_ap, varE_sh, varE_ow, sC_ap, sBin_ap, sUn_ap, aNil_ap, aCons_ap, consA_v, consA_e, bindA_v, bindA_e, sTup_ap, sLst_ap, tupE_v, lstE_v, frzs_nil, frzs_cons, frz2_v, sCall_ap, callRes_f, sBlt_ap, isBw_sh, isBw_nw, isBw_bw, fz_nil, fz_cons, fz1_sh, fz1_ow, fz1_no, fz1_pn, gSet_ap, sPar_ap, parO_v, bindE_val, bindE_err, bindE_none, bindS_val, bindS_err, bindS_none, bindO_nx, bindO_rt, bindO_bk, bindO_ct, bindO_err, bindO_none, outSet_sh, outSet_nw, outE_sh, outE_nw, outE_nx, Rv.d_sh, Rv.d_nw, Rv.d_bw, Rv.frz_sh, Rv.frz_nw, Rv.frz_bw, List.getElem?_cons_zero, List.getElem?_cons_succ, List.set_cons_zero, List.set_cons_succ, List.map_cons, List.map_nil, List.any_cons, List.any_nil, List.all_cons, List.all_nil, Bool.or_false, Bool.false_or, Bool.or_true, Bool.true_or, Bool.and_true, Bool.true_and, Bool.false_and, Bool.and_false, Bool.not_true, Bool.not_false, List.append_nil, List.nil_append, List.cons_append, Option.map_some, Option.map_none, dLen_lst, dLen_kl, dLen_tup, d2_int, dAdd_int, dSub_int, dMod_pos, dDiv_pos, dIx_lst, dIx_kl, dIx_tup, atI_cons_zero, atI_cons_one, atI_cons_two, atI_cons_three, atI_map, dLt_int, dGt_int, dLe_int, dGe_int, dAbs_int, dNeg_int, dEq_eq, dNe_eq, dIsi_ap, tyOf_int, tyOf_bl, tyOf_tup, tyOf_lst, tyOf_str, tyOf_non, kb_ii, kb_ib, kb_bi, kb_bb, kb_tt, kb_ti, kb_tb, kb_ss, kb_si, kb_ni, kb_ns, kb_li, kb_ll, kb_tl, kb_lt, kb_it, kb_nt, kb_st, kb_bt, ok_int, ok_bl, ok_non, ok_tup, ok_lst, eqD_int, eqD_bl, eqD_str, eqD_non, eqD_tup, eqD_lst, eqL_cons, eqL_nil, eqL_nc, eqL_cn, List.replicate_succ, List.replicate_zero, List.length_map, List.length_cons, List.length_nil, if_true, if_false, ite_true, ite_false, decide_true, decide_false, decide_eq_true_eq, Bool.false_eq_true, reduceIte, reduceCtorEq, ne_eq, not_true_eq_false, not_false_eq_true, and_true, true_and, and_self, Int.reduceNe, Int.reduceEq, Int.reduceLT, Int.reduceLE, Int.reduceAdd, Int.reduceSub, Int.reduceNeg, Nat.reduceAdd, Nat.reduceSub, Nat.reduceLeDiff, Nat.reduceLT, Nat.reduceEqDiff, nc2, nc3, nc4, nc5, nc6, nc7, nc8, nc9, nc10, nc11, nc12, nc13, Int.natCast_one, Int.natCast_zero])
local macro_rules | `(tactic| walk_at "dvs") => `(tactic| simp -implicitDefEqProofs only [sSeq_ap, sAsg_ap, asgR_sh, asgR_nw, asgM_v, gTp_v, gsNil_v, gsCons_v, wipeE_nil, wipeE_cons, sApp_eq, appM_v, eq_self, sSl_ap, slO_v, oSome_ap, oNone_ap, intO_v, dSlL_lst, dSlL_kl, dSlL_scr, dList_lst, appOut_v, isN_int, isN_non, isNN_int, isNN_non, sItL_ap, sItT_ap, iOfL_sh, iOfL_kl, iOfL_nw, iOfT_sh, okL_iN, List.append_assoc, one_int, one_bl, one_str, one_non, dPow_2_64, dPow_10_60, sNext_ap, sBreak_ap, sCont_ap, sIte_ap, iteO_b, sAnd_ap, sOr_ap, andE_b, orE_b, sNot_ap, notE_b, sIf_ap, ifE_b, sSet_ap, sDrop_ap, sRet_ap, retO_sh, retO_nw, sRetN_ap, sRetV_ap, retV_sh, retV_ow, sVar_ap, varE_sh, varE_ow, sC_ap, sBin_ap, sUn_ap, aNil_ap, aCons_ap, consA_v, consA_e, bindA_v, bindA_e, sTup_ap, sLst_ap, tupE_v, lstE_v, frzs_nil, frzs_cons, frz2_v, sCall_ap, callRes_f, sBlt_ap, isBw_sh, isBw_nw, isBw_bw, fz_nil, fz_cons, fz1_sh, fz1_ow, fz1_no, fz1_pn, gSet_ap, sPar_ap, parO_v, bindE_val, bindE_err, bindE_none, bindS_val, bindS_err, bindS_none, bindO_nx, bindO_rt, bindO_bk, bindO_ct, bindO_err, bindO_none, outSet_sh, outSet_nw, outE_sh, outE_nw, outE_nx, Rv.d_sh, Rv.d_nw, Rv.d_bw, Rv.frz_sh, Rv.frz_nw, Rv.frz_bw, List.getElem?_cons_zero, List.getElem?_cons_succ, List.set_cons_zero, List.set_cons_succ, List.map_cons, List.map_nil, List.any_cons, List.any_nil, List.all_cons, List.all_nil, Bool.or_false, Bool.false_or, Bool.or_true, Bool.true_or, Bool.and_true, Bool.true_and, Bool.false_and, Bool.and_false, Bool.not_true, Bool.not_false, List.append_nil, List.nil_append, List.cons_append, Option.map_some, Option.map_none, dLen_lst, dLen_kl, dLen_tup, d2_int, dAdd_int, dSub_int, dMod_pos, dDiv_pos, dIx_lst, dIx_kl, dIx_tup, atI_cons_zero, atI_cons_one, atI_cons_two, atI_cons_three, atI_map, dLt_int, dGt_int, dLe_int, dGe_int, dAbs_int, dNeg_int, dEq_eq, dNe_eq, dIsi_ap, tyOf_int, tyOf_bl, tyOf_tup, tyOf_lst, tyOf_str, tyOf_non, kb_ii, kb_ib, kb_bi, kb_bb, kb_tt, kb_ti, kb_tb, kb_ss, kb_si, kb_ni, kb_ns, kb_li, kb_ll, kb_tl, kb_lt, kb_it, kb_nt, kb_st, kb_bt, ok_int, ok_bl, ok_non, ok_tup, ok_lst, eqD_int, eqD_bl, eqD_str, eqD_non, eqD_tup, eqD_lst, eqL_cons, eqL_nil, eqL_nc, eqL_cn, List.replicate_succ, List.replicate_zero, List.length_map, List.length_cons, List.length_nil, if_true, if_false, ite_true, ite_false, decide_true, decide_false, decide_eq_true_eq, Bool.false_eq_true, reduceIte, reduceCtorEq, ne_eq, not_true_eq_false, not_false_eq_true, and_true, true_and, and_self, Int.reduceNe, Int.reduceEq, Int.reduceLT, Int.reduceLE, Int.reduceAdd, Int.reduceSub, Int.reduceNeg, Nat.reduceAdd, Nat.reduceSub, Nat.reduceLeDiff, Nat.reduceLT, Nat.reduceEqDiff, nc2, nc3, nc4, nc5, nc6, nc7, nc8, nc9, nc10, nc11, nc12, nc13, Int.natCast_one, Int.natCast_zero, *])
end DV

/-! DVL: the helpers on cells -/
namespace DV
open PySem PySem.Spec L2
theorem lastS_nil {α : Type} {f : α → D} {s : Sl} : lastS f s [] = s := rfl
theorem callRes_ti {i : Int} : callRes true (vS (.int i)) = vS (.int i) := rfl
theorem callRes_tb {i : Bool} : callRes true (vS (.bl i)) = vS (.bl i) := rfl
theorem callRes_tn : callRes true (vS .non) = vS .non := rfl
theorem callRes_tl {xs : List Nat} : callRes true (vN (.lst (xs.map iN))) = vN (.lst (xs.map iN)) := by
  rw [callRes_t]
  show (if flatL (xs.map iN) = true then vN (.lst (xs.map iN)) else none) = _
  rw [if_pos flat_iN]
local macro_rules | `(tactic| walk_at "dv") => `(tactic| simp -implicitDefEqProofs only [dIn_lst, dAdd_lst, eqL_iN, lastS_nil, callRes_ti, callRes_tb, callRes_tn, callRes_tl, sSeq_ap, sAsg_ap, asgR_sh, asgR_nw, asgM_v, gTp_v, gsNil_v, gsCons_v, wipeE_nil, wipeE_cons, sApp_eq, appM_v, eq_self, sSl_ap, slO_v, oSome_ap, oNone_ap, intO_v, dSlL_lst, dSlL_kl, dSlL_scr, dList_lst, appOut_v, isN_int, isN_non, isNN_int, isNN_non, sItL_ap, sItT_ap, iOfL_sh, iOfL_kl, iOfL_nw, iOfT_sh, okL_iN, List.append_assoc, one_int, one_bl, one_str, one_non, dPow_2_64, dPow_10_60, sNext_ap, sBreak_ap, sCont_ap, sIte_ap, iteO_b, sAnd_ap, sOr_ap, andE_b, orE_b, sNot_ap, notE_b, sIf_ap, ifE_b, sSet_ap, sDrop_ap, sRet_ap, retO_sh, retO_nw, sRetN_ap, sRetV_ap, retV_sh, retV_ow, sVar_ap, varE_sh, varE_ow, sC_ap, sBin_ap, sUn_ap, aNil_ap, aCons_ap, consA_v, consA_e, bindA_v, bindA_e, sTup_ap, sLst_ap, tupE_v, lstE_v, frzs_nil, frzs_cons, frz2_v, sCall_ap, callRes_f, sBlt_ap, isBw_sh, isBw_nw, isBw_bw, fz_nil, fz_cons, fz1_sh, fz1_ow, fz1_no, fz1_pn, gSet_ap, sPar_ap, parO_v, bindE_val, bindE_err, bindE_none, bindS_val, bindS_err, bindS_none, bindO_nx, bindO_rt, bindO_bk, bindO_ct, bindO_err, bindO_none, outSet_sh, outSet_nw, outE_sh, outE_nw, outE_nx, Rv.d_sh, Rv.d_nw, Rv.d_bw, Rv.frz_sh, Rv.frz_nw, Rv.frz_bw, List.getElem?_cons_zero, List.getElem?_cons_succ, List.set_cons_zero, List.set_cons_succ, List.map_cons, List.map_nil, List.any_cons, List.any_nil, List.all_cons, List.all_nil, Bool.or_false, Bool.false_or, Bool.or_true, Bool.true_or, Bool.and_true, Bool.true_and, Bool.false_and, Bool.and_false, Bool.not_true, Bool.not_false, List.append_nil, List.nil_append, List.cons_append, Option.map_some, Option.map_none, dLen_lst, dLen_kl, dLen_tup, d2_int, dAdd_int, dSub_int, dMod_pos, dDiv_pos, dIx_lst, dIx_kl, dIx_tup, atI_cons_zero, atI_cons_one, atI_cons_two, atI_cons_three, atI_map, dLt_int, dGt_int, dLe_int, dGe_int, dAbs_int, dNeg_int, dEq_eq, dNe_eq, dIsi_ap, tyOf_int, tyOf_bl, tyOf_tup, tyOf_lst, tyOf_str, tyOf_non, kb_ii, kb_ib, kb_bi, kb_bb, kb_tt, kb_ti, kb_tb, kb_ss, kb_si, kb_ni, kb_ns, kb_li, kb_ll, kb_tl, kb_lt, kb_it, kb_nt, kb_st, kb_bt, ok_int, ok_bl, ok_non, ok_tup, ok_lst, eqD_int, eqD_bl, eqD_str, eqD_non, eqD_tup, eqD_lst, eqL_cons, eqL_nil, eqL_nc, eqL_cn, List.replicate_succ, List.replicate_zero, List.length_map, List.length_cons, List.length_nil, if_true, if_false, ite_true, ite_false, decide_true, decide_false, decide_eq_true_eq, Bool.false_eq_true, reduceIte, reduceCtorEq, ne_eq, not_true_eq_false, not_false_eq_true, and_true, true_and, and_self, Int.reduceNe, Int.reduceEq, Int.reduceLT, Int.reduceLE, Int.reduceAdd, Int.reduceSub, Int.reduceNeg, Nat.reduceAdd, Nat.reduceSub, Nat.reduceLeDiff, Nat.reduceLT, Nat.reduceEqDiff, nc2, nc3, nc4, nc5, nc6, nc7, nc8, nc9, nc10, nc11, nc12, nc13, Int.natCast_one, Int.natCast_zero])
local macro_rules | `(tactic| walk_at "dvs") => `(tactic| simp -implicitDefEqProofs only [dIn_lst, dAdd_lst, eqL_iN, lastS_nil, callRes_ti, callRes_tb, callRes_tn, callRes_tl, sSeq_ap, sAsg_ap, asgR_sh, asgR_nw, asgM_v, gTp_v, gsNil_v, gsCons_v, wipeE_nil, wipeE_cons, sApp_eq, appM_v, eq_self, sSl_ap, slO_v, oSome_ap, oNone_ap, intO_v, dSlL_lst, dSlL_kl, dSlL_scr, dList_lst, appOut_v, isN_int, isN_non, isNN_int, isNN_non, sItL_ap, sItT_ap, iOfL_sh, iOfL_kl, iOfL_nw, iOfT_sh, okL_iN, List.append_assoc, one_int, one_bl, one_str, one_non, dPow_2_64, dPow_10_60, sNext_ap, sBreak_ap, sCont_ap, sIte_ap, iteO_b, sAnd_ap, sOr_ap, andE_b, orE_b, sNot_ap, notE_b, sIf_ap, ifE_b, sSet_ap, sDrop_ap, sRet_ap, retO_sh, retO_nw, sRetN_ap, sRetV_ap, retV_sh, retV_ow, sVar_ap, varE_sh, varE_ow, sC_ap, sBin_ap, sUn_ap, aNil_ap, aCons_ap, consA_v, consA_e, bindA_v, bindA_e, sTup_ap, sLst_ap, tupE_v, lstE_v, frzs_nil, frzs_cons, frz2_v, sCall_ap, callRes_f, sBlt_ap, isBw_sh, isBw_nw, isBw_bw, fz_nil, fz_cons, fz1_sh, fz1_ow, fz1_no, fz1_pn, gSet_ap, sPar_ap, parO_v, bindE_val, bindE_err, bindE_none, bindS_val, bindS_err, bindS_none, bindO_nx, bindO_rt, bindO_bk, bindO_ct, bindO_err, bindO_none, outSet_sh, outSet_nw, outE_sh, outE_nw, outE_nx, Rv.d_sh, Rv.d_nw, Rv.d_bw, Rv.frz_sh, Rv.frz_nw, Rv.frz_bw, List.getElem?_cons_zero, List.getElem?_cons_succ, List.set_cons_zero, List.set_cons_succ, List.map_cons, List.map_nil, List.any_cons, List.any_nil, List.all_cons, List.all_nil, Bool.or_false, Bool.false_or, Bool.or_true, Bool.true_or, Bool.and_true, Bool.true_and, Bool.false_and, Bool.and_false, Bool.not_true, Bool.not_false, List.append_nil, List.nil_append, List.cons_append, Option.map_some, Option.map_none, dLen_lst, dLen_kl, dLen_tup, d2_int, dAdd_int, dSub_int, dMod_pos, dDiv_pos, dIx_lst, dIx_kl, dIx_tup, atI_cons_zero, atI_cons_one, atI_cons_two, atI_cons_three, atI_map, dLt_int, dGt_int, dLe_int, dGe_int, dAbs_int, dNeg_int, dEq_eq, dNe_eq, dIsi_ap, tyOf_int, tyOf_bl, tyOf_tup, tyOf_lst, tyOf_str, tyOf_non, kb_ii, kb_ib, kb_bi, kb_bb, kb_tt, kb_ti, kb_tb, kb_ss, kb_si, kb_ni, kb_ns, kb_li, kb_ll, kb_tl, kb_lt, kb_it, kb_nt, kb_st, kb_bt, ok_int, ok_bl, ok_non, ok_tup, ok_lst, eqD_int, eqD_bl, eqD_str, eqD_non, eqD_tup, eqD_lst, eqL_cons, eqL_nil, eqL_nc, eqL_cn, List.replicate_succ, List.replicate_zero, List.length_map, List.length_cons, List.length_nil, if_true, if_false, ite_true, ite_false, decide_true, decide_false, decide_eq_true_eq, Bool.false_eq_true, reduceIte, reduceCtorEq, ne_eq, not_true_eq_false, not_false_eq_true, and_true, true_and, and_self, Int.reduceNe, Int.reduceEq, Int.reduceLT, Int.reduceLE, Int.reduceAdd, Int.reduceSub, Int.reduceNeg, Nat.reduceAdd, Nat.reduceSub, Nat.reduceLeDiff, Nat.reduceLT, Nat.reduceEqDiff, nc2, nc3, nc4, nc5, nc6, nc7, nc8, nc9, nc10, nc11, nc12, nc13, Int.natCast_one, Int.natCast_zero, *])
theorem tail_lst {xs : List Nat} : True := trivial
def kdS : D := .int 8
theorem kd64 : dMul kdS kdS = rvI 64 := by
  show dMul (.int 8) (.int 8) = rvI (8 * 8)
  exact dMul_small (by decide) (by decide)
/-- _law_cell_at -/
def caB : SS := sSeq (sIte (sLt (sVar 1) (sBlt dLen (aCons (sVar 0) (aNil)))) (sRet (sIx (sVar 0) (sVar 1))) (sNext)) (sRet (sC (.int 0)))
def caF : List D → Option Er := fnSem 2 2 caB
theorem ca_eq (ns : List Int) (k : Nat) : caF [scr ns, .int k] = vS (.int (ns.getD k 0)) := by
  refine fnSem_run (o := .rt (.sh (.int (ns.getD k 0)))) rfl ?_
  unfold caB scr
  by_cases h : k < ns.length
  · have h1 : (k : Int) < ns.length := by omega
    have h2 : atI ns (k : Int) = some (ns.getD k 0) := atI_nat (by rw [List.getD_eq_getElem?_getD, List.getElem?_eq_getElem h]; rfl)
    walk_at "dvs"
  · have h1 : ¬ (k : Int) < ns.length := by omega
    have h2 : ns.getD k 0 = 0 := by rw [List.getD_eq_getElem?_getD, List.getElem?_eq_none (by omega)]; rfl
    walk_at "dvs"
/-- _law_wholes -/
def whL : SS := sIte (sNot (sCall isnF (aCons (sVar 1) (aNil)))) (sRet (sC (.bl false))) (sNext)
def whB : SS := sSeq (sIte (sNot (sBlt dIsi (aCons (sVar 0) (aCons (sC (.op (.ty "list"))) (aNil))))) (sRet (sC (.bl false))) (sNext)) (sSeq (sForV 0 (gSet 1) whL) (sRet (sC (.bl true))))
def whF : List D → Option Er := fnSem 1 2 whB
theorem wh_int {α : Type} (f : α → Int) (xs : List α) : whF [.lst (xs.map fun x => D.int (f x))] = vS (.bl true) := by
  refine fnSem_run (o := .rt (.sh (.bl true))) rfl ?_
  unfold whB
  have e : sForV 0 (gSet 1) whL [.sh (.lst (xs.map fun x => D.int (f x))), .no] = some (.nx [.sh (.lst (xs.map fun x => D.int (f x))), lastS (fun x => D.int (f x)) .no xs]) := by
    rw [sForV_sh rfl, forL_fold (α := α) (st := fun _ s => [.sh (.lst (xs.map fun x => D.int (f x))), s]) (step := fun (u : Unit) _ => u) (b := ()) (fun _ _ _ _ => rfl) (fun _ x _ => Or.inl ?_)]
    unfold whL
    have h := isn_int (f x)
    walk_at "dvs"
  walk_at "dvs"
theorem wh_iN (xs : List Nat) : whF [.lst (xs.map iN)] = vS (.bl true) := wh_int _ xs
/-- listed -/
def lsdR : SI := sRng1 (aCons (sMul (sC kdS) (sC kdS)) (aNil))
def lsdT : SE := sEq (sBAnd (sShr (sVar 0) (sVar 1)) (sC (.int 1))) (sC (.int 1))
def lsdB : SS := sRet (sLc lsdR [1] (.one 1) lsdT (sVar 1))
def lsdF : List D → Option Er := fnSem 1 2 lsdB
theorem lsdR_eq (env : En) : lsdR env = some (.val ((List.range 64).map iN)) := by
  unfold lsdR
  exact sRng1_v (k := 64) (r := .sh (.int 64)) (by have := kd64; walk_at "dvs") rfl (by decide) (by decide)
theorem lsdT_eq {env : En} (c k : Nat) (e0 : env[0]? = some (.sh (.int c))) (e1 : env[1]? = some (.sh (iN k))) : lsdT env = vS (.bl (c.testBit k)) := by
  unfold lsdT
  have h1 := dShr_nat c k
  have h2 : dAnd (.int ((c >>> k : Nat) : Int)) (.int 1) = rvI (((c >>> k) &&& 1 : Nat) : Int) := dAnd_nat _ 1
  have h3 := bit_ask c k
  walk_at "dvs"
/-- the cells of a set -/
abbrev setL (c : Nat) : List Nat := (List.range 64).filter c.testBit
theorem lsd_eq (c : Nat) : lsdF [.int c] = vN (.lst ((setL c).map iN)) := by
  refine fnSem_run (o := .rt (.nw (.lst ((setL c).map iN)))) rfl ?_
  unfold lsdB
  have e : sLc lsdR [1] (.one 1) lsdT (sVar 1) [.sh (.int c), .no] = vN (.lst ((setL c).map iN)) :=
    sLc_v (lsdR_eq _) (by rw [List.length_map, List.length_range]; decide) rfl (lcL_eq (fun x _ => lsdT_eq c x rfl rfl) fun x _ _ => rfl)
  walk_at "dvs"
/-- size_of -/
def szB : SS := sRet (sBlt dLen (aCons (sCall lsdF (aCons (sVar 0) (aNil))) (aNil)))
def szF : List D → Option Er := fnSem 1 1 szB
theorem sz_eq (c : Nat) : szF [.int c] = vS (.int ((setL c).length : Nat)) := by
  refine fnSem_run (o := .rt (.sh (.int ((setL c).length : Nat)))) rfl ?_
  unfold szB
  have e := lsd_eq c
  walk_at "dvs"
/-- lowest -/
def lwL : SS := sIte lsdT (sRetV 1) (sNext)
def lwB : SS := sSeq (sFor lsdR (gSet 1) lwL) (sRet (sC .non))
def lwF : List D → Option Er := fnSem 1 2 lwB
def optD : Option Nat → D
  | some k => iN k
  | none => .non
theorem lw_eq (c : Nat) : lwF [.int c] = vS (optD (setL c).head?) := by
  have hf : (setL c).head? = (List.range 64).find? c.testBit := List.head?_filter
  have e : sFor lsdR (gSet 1) lwL [.sh (.int c), .no] = findO (fun x => .sh (iN x)) [.sh (.int c), lastS iN .no (List.range 64)] ((List.range 64).find? c.testBit) := by
    rw [sFor_v (lsdR_eq _)]
    refine forL_find (f := iN) (g := gSet 1) (body := lwL) (st := fun s => [.sh (.int c), s]) (p := c.testBit) (r := fun x => .sh (iN x)) (fun _ _ _ => rfl) (fun x _ h => ?_) (fun x _ h => ?_)
    · have t := lsdT_eq (env := [.sh (.int c), .sh (iN x)]) c x rfl rfl
      unfold lwL
      walk_at "dvs"
    · have t := lsdT_eq (env := [.sh (.int c), .sh (iN x)]) c x rfl rfl
      unfold lwL
      walk_at "dvs"
  rw [hf]
  cases h : (List.range 64).find? c.testBit with
  | none =>
    rw [h] at e
    simp only [findO] at e
    refine fnSem_run (o := .rt (.sh .non)) rfl ?_
    unfold lwB
    walk_at "dvs"
  | some x =>
    rw [h] at e
    simp only [findO] at e
    refine fnSem_run (o := .rt (.sh (iN x))) rfl ?_
    unfold lwB
    walk_at "dvs"
/-- every -/
def evB : SS := sRet (sSub (sShl (sC (.int 1)) (sMul (sIx (sVar 0) (sC (.int 0))) (sIx (sVar 0) (sC (.int 1))))) (sC (.int 1)))
def evF : List D → Option Er := fnSem 1 1 evB
theorem mul_nat (a b : Nat) (ha : a ≤ 1000000) (hb : b ≤ 1000000) : dMul (.int a) (.int b) = rvI ((a * b : Nat) : Int) := by
  rw [dMul_small (by omega) (by omega)]
  simp
theorem ev_eq (a b : Nat) (ha : a ≤ 1000) (hb : b ≤ 1000) : evF [.tup [.int a, .int b]] = vS (.int (((2 ^ (a * b) : Nat) : Int) - 1)) := by
  refine fnSem_run (o := .rt (.sh (.int (((2 ^ (a * b) : Nat) : Int) - 1)))) rfl ?_
  unfold evB
  have h1 := mul_nat a b (by omega) (by omega)
  have h2 := dShl_one (a * b) (Nat.le_trans (Nat.mul_le_mul ha hb) (by decide))
  walk_at "dvs"
/-- cells_of, of good cells -/
def coL (n : Nat) : SS := sSeq (sIte (sOr (sNot (sCall isnF (aCons (sVar 2) (aNil)))) (sOr (sLt (sVar 2) (sC (.int 0))) (sGe (sVar 2) (sMul (sC kdS) (sC kdS))))) (sRaise n) (sNext)) (sSet 1 (sBOr (sVar 1) (sShl (sC (.int 1)) (sVar 2))))
def coB (n : Nat) : SS := sSeq (sSet 1 (sC (.int 0))) (sSeq (sForV 0 (gSet 2) (coL n)) (sRetV 1))
def coF (n : Nat) : List D → Option Er := fnSem 1 3 (coB n)
abbrev orL (xs : List Nat) (c : Nat) : Nat := xs.foldl (fun a k => a ||| 2 ^ k) c
theorem coL_eq (n : Nat) (l : Sl) (c k : Nat) (hk : k < 64) : coL n [l, .sh (.int c), .sh (iN k)] = some (.nx [l, .sh (.int ((c ||| 2 ^ k : Nat) : Int)), .sh (iN k)]) := by
  unfold coL
  have h := isn_int (k : Int)
  have h1 : ¬ (k : Int) < 0 := by omega
  have h2 : ¬ (64 : Int) ≤ (k : Int) := by omega
  have h3 := dShl_one k (by omega)
  have h4 := dOr_nat c (2 ^ k)
  have h5 := kd64
  walk_at "dvs"
theorem co_eq (n : Nat) (xs : List Nat) (hx : ∀ x ∈ xs, x < 64) : coF n [.lst (xs.map iN)] = vS (.int (orL xs 0 : Nat)) := by
  refine fnSem_run (o := .rt (.sh (.int (orL xs 0 : Nat)))) rfl ?_
  unfold coB
  have e : sForV 0 (gSet 2) (coL n) [.sh (.lst (xs.map iN)), .sh (.int 0), .no] = some (.nx [.sh (.lst (xs.map iN)), .sh (.int (orL xs 0 : Nat)), lastS iN .no xs]) := by
    rw [sForV_sh rfl]
    exact forL_fold (st := fun (c : Nat) s => [.sh (.lst (xs.map iN)), .sh (.int c), s]) (step := fun a k => a ||| 2 ^ k) (b := 0) (s := .no) (fun _ _ _ _ => rfl) (fun c x h => Or.inl (coL_eq n _ c x (hx x h)))
  walk_at "dvs"
end DV

/-! DVH: fractions of any sign, bounds -/
namespace DV
open PySem PySem.Spec L2
local macro_rules | `(tactic| walk_at "dv") => `(tactic| simp -implicitDefEqProofs only [sRaise_ap, sSeq_ap, sAsg_ap, asgR_sh, asgR_nw, asgM_v, gTp_v, gsNil_v, gsCons_v, wipeE_nil, wipeE_cons, sApp_eq, appM_v, eq_self, sSl_ap, slO_v, oSome_ap, oNone_ap, intO_v, dSlL_lst, dSlL_kl, dSlL_scr, dList_lst, appOut_v, isN_int, isN_non, isNN_int, isNN_non, sItL_ap, sItT_ap, iOfL_sh, iOfL_kl, iOfL_nw, iOfT_sh, okL_iN, List.append_assoc, one_int, one_bl, one_str, one_non, dPow_2_64, dPow_10_60, sNext_ap, sBreak_ap, sCont_ap, sIte_ap, iteO_b, sAnd_ap, sOr_ap, andE_b, orE_b, sNot_ap, notE_b, sIf_ap, ifE_b, sSet_ap, sDrop_ap, sRet_ap, retO_sh, retO_nw, sRetN_ap, sRetV_ap, retV_sh, retV_ow, sVar_ap, varE_sh, varE_ow, sC_ap, sBin_ap, sUn_ap, aNil_ap, aCons_ap, consA_v, consA_e, bindA_v, bindA_e, sTup_ap, sLst_ap, tupE_v, lstE_v, frzs_nil, frzs_cons, frz2_v, sCall_ap, callRes_f, sBlt_ap, isBw_sh, isBw_nw, isBw_bw, fz_nil, fz_cons, fz1_sh, fz1_ow, fz1_no, fz1_pn, gSet_ap, sPar_ap, parO_v, bindE_val, bindE_err, bindE_none, bindS_val, bindS_err, bindS_none, bindO_nx, bindO_rt, bindO_bk, bindO_ct, bindO_err, bindO_none, outSet_sh, outSet_nw, outE_sh, outE_nw, outE_nx, Rv.d_sh, Rv.d_nw, Rv.d_bw, Rv.frz_sh, Rv.frz_nw, Rv.frz_bw, List.getElem?_cons_zero, List.getElem?_cons_succ, List.set_cons_zero, List.set_cons_succ, List.map_cons, List.map_nil, List.any_cons, List.any_nil, List.all_cons, List.all_nil, Bool.or_false, Bool.false_or, Bool.or_true, Bool.true_or, Bool.and_true, Bool.true_and, Bool.false_and, Bool.and_false, Bool.not_true, Bool.not_false, List.append_nil, List.nil_append, List.cons_append, Option.map_some, Option.map_none, dLen_lst, dLen_kl, dLen_tup, d2_int, dAdd_int, dSub_int, dMod_pos, dDiv_pos, dIx_lst, dIx_kl, dIx_tup, atI_cons_zero, atI_cons_one, atI_cons_two, atI_cons_three, atI_map, dLt_int, dGt_int, dLe_int, dGe_int, dAbs_int, dNeg_int, dEq_eq, dNe_eq, dIsi_ap, tyOf_int, tyOf_bl, tyOf_tup, tyOf_lst, tyOf_str, tyOf_non, kb_ii, kb_ib, kb_bi, kb_bb, kb_tt, kb_ti, kb_tb, kb_ss, kb_si, kb_ni, kb_ns, kb_li, kb_ll, kb_tl, kb_lt, kb_it, kb_nt, kb_st, kb_bt, ok_int, ok_bl, ok_non, ok_tup, ok_lst, eqD_int, eqD_bl, eqD_str, eqD_non, eqD_tup, eqD_lst, eqL_cons, eqL_nil, eqL_nc, eqL_cn, List.replicate_succ, List.replicate_zero, List.length_map, List.length_cons, List.length_nil, if_true, if_false, ite_true, ite_false, decide_true, decide_false, decide_eq_true_eq, Bool.false_eq_true, reduceIte, reduceCtorEq, ne_eq, not_true_eq_false, not_false_eq_true, and_true, true_and, and_self, Int.reduceNe, Int.reduceEq, Int.reduceLT, Int.reduceLE, Int.reduceAdd, Int.reduceSub, Int.reduceNeg, Nat.reduceAdd, Nat.reduceSub, Nat.reduceLeDiff, Nat.reduceLT, Nat.reduceEqDiff, nc2, nc3, nc4, nc5, nc6, nc7, nc8, nc9, nc10, nc11, nc12, nc13, Int.natCast_one, Int.natCast_zero])
local macro_rules | `(tactic| walk_at "dvs") => `(tactic| simp -implicitDefEqProofs only [sRaise_ap, sSeq_ap, sAsg_ap, asgR_sh, asgR_nw, asgM_v, gTp_v, gsNil_v, gsCons_v, wipeE_nil, wipeE_cons, sApp_eq, appM_v, eq_self, sSl_ap, slO_v, oSome_ap, oNone_ap, intO_v, dSlL_lst, dSlL_kl, dSlL_scr, dList_lst, appOut_v, isN_int, isN_non, isNN_int, isNN_non, sItL_ap, sItT_ap, iOfL_sh, iOfL_kl, iOfL_nw, iOfT_sh, okL_iN, List.append_assoc, one_int, one_bl, one_str, one_non, dPow_2_64, dPow_10_60, sNext_ap, sBreak_ap, sCont_ap, sIte_ap, iteO_b, sAnd_ap, sOr_ap, andE_b, orE_b, sNot_ap, notE_b, sIf_ap, ifE_b, sSet_ap, sDrop_ap, sRet_ap, retO_sh, retO_nw, sRetN_ap, sRetV_ap, retV_sh, retV_ow, sVar_ap, varE_sh, varE_ow, sC_ap, sBin_ap, sUn_ap, aNil_ap, aCons_ap, consA_v, consA_e, bindA_v, bindA_e, sTup_ap, sLst_ap, tupE_v, lstE_v, frzs_nil, frzs_cons, frz2_v, sCall_ap, callRes_f, sBlt_ap, isBw_sh, isBw_nw, isBw_bw, fz_nil, fz_cons, fz1_sh, fz1_ow, fz1_no, fz1_pn, gSet_ap, sPar_ap, parO_v, bindE_val, bindE_err, bindE_none, bindS_val, bindS_err, bindS_none, bindO_nx, bindO_rt, bindO_bk, bindO_ct, bindO_err, bindO_none, outSet_sh, outSet_nw, outE_sh, outE_nw, outE_nx, Rv.d_sh, Rv.d_nw, Rv.d_bw, Rv.frz_sh, Rv.frz_nw, Rv.frz_bw, List.getElem?_cons_zero, List.getElem?_cons_succ, List.set_cons_zero, List.set_cons_succ, List.map_cons, List.map_nil, List.any_cons, List.any_nil, List.all_cons, List.all_nil, Bool.or_false, Bool.false_or, Bool.or_true, Bool.true_or, Bool.and_true, Bool.true_and, Bool.false_and, Bool.and_false, Bool.not_true, Bool.not_false, List.append_nil, List.nil_append, List.cons_append, Option.map_some, Option.map_none, dLen_lst, dLen_kl, dLen_tup, d2_int, dAdd_int, dSub_int, dMod_pos, dDiv_pos, dIx_lst, dIx_kl, dIx_tup, atI_cons_zero, atI_cons_one, atI_cons_two, atI_cons_three, atI_map, dLt_int, dGt_int, dLe_int, dGe_int, dAbs_int, dNeg_int, dEq_eq, dNe_eq, dIsi_ap, tyOf_int, tyOf_bl, tyOf_tup, tyOf_lst, tyOf_str, tyOf_non, kb_ii, kb_ib, kb_bi, kb_bb, kb_tt, kb_ti, kb_tb, kb_ss, kb_si, kb_ni, kb_ns, kb_li, kb_ll, kb_tl, kb_lt, kb_it, kb_nt, kb_st, kb_bt, ok_int, ok_bl, ok_non, ok_tup, ok_lst, eqD_int, eqD_bl, eqD_str, eqD_non, eqD_tup, eqD_lst, eqL_cons, eqL_nil, eqL_nc, eqL_cn, List.replicate_succ, List.replicate_zero, List.length_map, List.length_cons, List.length_nil, if_true, if_false, ite_true, ite_false, decide_true, decide_false, decide_eq_true_eq, Bool.false_eq_true, reduceIte, reduceCtorEq, ne_eq, not_true_eq_false, not_false_eq_true, and_true, true_and, and_self, Int.reduceNe, Int.reduceEq, Int.reduceLT, Int.reduceLE, Int.reduceAdd, Int.reduceSub, Int.reduceNeg, Nat.reduceAdd, Nat.reduceSub, Nat.reduceLeDiff, Nat.reduceLT, Nat.reduceEqDiff, nc2, nc3, nc4, nc5, nc6, nc7, nc8, nc9, nc10, nc11, nc12, nc13, Int.natCast_one, Int.natCast_zero, *])
def Bd (n : Nat) (x : Int) : Prop := x.natAbs < 2 ^ n
theorem Bd.mul {n m : Nat} {x y : Int} (h : Bd n x) (h' : Bd m y) : Bd (n + m) (x * y) := wide_lt h h'
theorem Bd.add {n : Nat} {x y : Int} (h : Bd n x) (h' : Bd n y) : Bd (n + 1) (x + y) := by
  unfold Bd at *
  rw [Nat.pow_succ]
  omega
theorem Bd.sub {n : Nat} {x y : Int} (h : Bd n x) (h' : Bd n y) : Bd (n + 1) (x - y) := by
  unfold Bd at *
  rw [Nat.pow_succ]
  omega
theorem Bd.mono {n m : Nat} {x : Int} (h : Bd n x) (hm : n ≤ m) : Bd m x := Nat.lt_of_lt_of_le h (Nat.pow_le_pow_right (by omega) hm)
theorem Bd.dm {n m : Nat} {x y : Int} (h : Bd n x) (h' : Bd m y) (h0 : 0 < n) (h1 : 0 < m) (hh : n + m ≤ 1000000) : dMul (.int x) (.int y) = rvI (x * y) := dMul_ok n m h h' h0 h1 hh
theorem p60 : dPow (.int 10) (.int 60) = rvI (10 ^ 60) := by
  show (if 0 ≤ (60 : Int) ∧ (60 : Int) ≤ 1000000 ∧ (10 : Int).natAbs < 18446744073709551616 then rvI ((10 : Int) ^ (60 : Int).toNat) else none) = _
  rw [if_pos (by decide)]
  rfl
theorem p30 : dPow (.int 10) (.int 30) = rvI (10 ^ 30) := by
  show (if 0 ≤ (30 : Int) ∧ (30 : Int) ≤ 1000000 ∧ (10 : Int).natAbs < 18446744073709551616 then rvI ((10 : Int) ^ (30 : Int).toNat) else none) = _
  rw [if_pos (by decide)]
  rfl
theorem low_any {t b : Int} (hb : b ≠ 0) : 0 < lowD t b ∧ lowN t b * b = lowD t b * t ∧ (lowN t b).gcd (lowD t b) = 1 ∧ (lowD t b).natAbs ≤ b.natAbs ∧ (lowN t b).natAbs ≤ t.natAbs ∧ lowN t b * lowM t b = t ∧ lowD t b * lowM t b = b := by
  have g0 : 0 < t.gcd b := Int.gcd_pos_of_ne_zero_right t hb
  have hm : lowM t b ≠ 0 := (lowM_abs hb).1
  have ha : (lowM t b).natAbs = t.gcd b := (lowM_abs hb).2.2
  have hs : 0 < b → 0 < lowM t b := fun h => by unfold lowM; rw [if_neg (by omega)]; omega
  have hs' : b < 0 → lowM t b < 0 := fun h => by unfold lowM; rw [if_pos h]; omega
  have db : lowM t b ∣ b := by rw [← Int.natAbs_dvd, ha]; exact Int.gcd_dvd_right t b
  have dt : lowM t b ∣ t := by rw [← Int.natAbs_dvd, ha]; exact Int.gcd_dvd_left t b
  have e1 : lowD t b = b / lowM t b := Int.fdiv_eq_ediv_of_dvd db
  have e2 : lowN t b = t / lowM t b := Int.fdiv_eq_ediv_of_dvd dt
  rw [e1, e2]
  generalize lowM t b = g at *
  obtain ⟨x, rfl⟩ := db
  obtain ⟨y, rfl⟩ := dt
  rw [Int.mul_ediv_cancel_left _ hm, Int.mul_ediv_cancel_left _ hm, Int.natAbs_mul, Int.natAbs_mul]
  have ga : 1 ≤ g.natAbs := by omega
  refine ⟨?_, ?_, ?_, Nat.le_mul_of_pos_left _ ga, Nat.le_mul_of_pos_left _ ga, Int.mul_comm _ _, Int.mul_comm _ _⟩
  · have x0 : x ≠ 0 := fun z => hb (by rw [z]; simp)
    rcases Int.lt_or_gt_of_ne hb with h | h
    · have := hs' h
      rcases Int.lt_or_gt_of_ne x0 with z | z
      · have := Int.mul_pos_of_neg_of_neg this z; omega
      · exact z
    · have := hs h
      exact Int.pos_of_mul_pos_right h this
  · rw [Int.mul_left_comm, Int.mul_comm y x, Int.mul_left_comm x g y]
  · rw [Int.gcd_mul_left] at ha
    have h2 : g.natAbs * (y.gcd x) = g.natAbs * 1 := by omega
    exact Nat.eq_of_mul_eq_mul_left (by omega) h2
theorem low_zero' {b : Int} (hb : b ≠ 0) : lowN 0 b = 0 ∧ lowD 0 b = 1 := by
  have em : lowM 0 b = b := by
    unfold lowM
    rw [Int.gcd_zero_left]
    split <;> omega
  unfold lowN lowD
  rw [em]
  exact ⟨Int.zero_fdiv b, by rw [Int.fdiv_eq_ediv_of_dvd (Int.dvd_refl b)]; exact Int.ediv_self hb⟩
theorem low_same {b : Int} (hb : b ≠ 0) : lowN b b = 1 ∧ lowD b b = 1 := by
  have em : lowM b b = b := by
    unfold lowM
    rw [Int.gcd_self]
    split <;> omega
  unfold lowN lowD
  rw [em]
  exact ⟨by rw [Int.fdiv_eq_ediv_of_dvd (Int.dvd_refl b)]; exact Int.ediv_self hb, by rw [Int.fdiv_eq_ediv_of_dvd (Int.dvd_refl b)]; exact Int.ediv_self hb⟩
theorem frac_bad1 {m : Nat} {d e : D} (h : isnF [d] = vS (.bl false)) : fracF m [d, e] = some (.err m []) := by
  refine fnSem_run (o := .err m [] [.sh d, .sh e, .no]) rfl ?_
  unfold fracB
  walk_at "dvs"
theorem frac_bad2 {m : Nat} {t : Int} {e : D} (h : isnF [e] = vS (.bl false)) : fracF m [.int t, e] = some (.err m []) := by
  have i := isn_int t
  refine fnSem_run (o := .err m [] [.sh (.int t), .sh e, .no]) rfl ?_
  unfold fracB
  walk_at "dvs"
theorem frac_bad0 {m : Nat} {t : Int} : fracF m [.int t, .int 0] = some (.err m []) := by
  have i := isn_int t
  have i2 := isn_int 0
  refine fnSem_run (o := .err m [] [.sh (.int t), .sh (.int 0), .no]) rfl ?_
  unfold fracB
  walk_at "dvs"
end DV

namespace K21
open PySem PySem.Spec L2 DV
local macro_rules | `(tactic| walk_at "dv") => `(tactic| simp -implicitDefEqProofs only [sTryAs_ap, tryA_nx, tryA_rt, outB_rt, sIsE_ap, pure_bl, reduceIte, sSeq_ap, sAsg_ap, asgR_sh, asgR_nw, asgM_v, gTp_v, gsNil_v, gsCons_v, wipeE_nil, wipeE_cons, sApp_eq, appM_v, eq_self, sSl_ap, slO_v, oSome_ap, oNone_ap, intO_v, dSlL_lst, dSlL_kl, dSlL_scr, dList_lst, appOut_v, isN_int, isN_non, isNN_int, isNN_non, sItL_ap, sItT_ap, iOfL_sh, iOfL_kl, iOfL_nw, iOfT_sh, okL_iN, List.append_assoc, one_int, one_bl, one_str, one_non, dPow_2_64, dPow_10_60, sNext_ap, sBreak_ap, sCont_ap, sIte_ap, iteO_b, sAnd_ap, sOr_ap, andE_b, orE_b, sNot_ap, notE_b, sIf_ap, ifE_b, sSet_ap, sDrop_ap, sRet_ap, retO_sh, retO_nw, sRetN_ap, sRetV_ap, retV_sh, retV_ow, sVar_ap, varE_sh, varE_ow, sC_ap, sBin_ap, sUn_ap, aNil_ap, aCons_ap, consA_v, consA_e, bindA_v, bindA_e, sTup_ap, sLst_ap, tupE_v, lstE_v, frzs_nil, frzs_cons, frz2_v, sCall_ap, callRes_f, sBlt_ap, isBw_sh, isBw_nw, isBw_bw, fz_nil, fz_cons, fz1_sh, fz1_ow, fz1_no, fz1_pn, gSet_ap, sPar_ap, parO_v, bindE_val, bindE_err, bindE_none, bindS_val, bindS_err, bindS_none, bindO_nx, bindO_rt, bindO_bk, bindO_ct, bindO_err, bindO_none, outSet_sh, outSet_nw, outE_sh, outE_nw, outE_nx, Rv.d_sh, Rv.d_nw, Rv.d_bw, Rv.frz_sh, Rv.frz_nw, Rv.frz_bw, List.getElem?_cons_zero, List.getElem?_cons_succ, List.set_cons_zero, List.set_cons_succ, List.map_cons, List.map_nil, List.any_cons, List.any_nil, List.all_cons, List.all_nil, Bool.or_false, Bool.false_or, Bool.or_true, Bool.true_or, Bool.and_true, Bool.true_and, Bool.false_and, Bool.and_false, Bool.not_true, Bool.not_false, List.append_nil, List.nil_append, List.cons_append, Option.map_some, Option.map_none, dLen_lst, dLen_kl, dLen_tup, d2_int, dAdd_int, dSub_int, dMod_pos, dDiv_pos, dIx_lst, dIx_kl, dIx_tup, atI_cons_zero, atI_cons_one, atI_cons_two, atI_cons_three, atI_map, dLt_int, dGt_int, dLe_int, dGe_int, dAbs_int, dNeg_int, dEq_eq, dNe_eq, dIsi_ap, tyOf_int, tyOf_bl, tyOf_tup, tyOf_lst, tyOf_str, tyOf_non, kb_ii, kb_ib, kb_bi, kb_bb, kb_tt, kb_ti, kb_tb, kb_ss, kb_si, kb_ni, kb_ns, kb_li, kb_ll, kb_tl, kb_lt, kb_it, kb_nt, kb_st, kb_bt, ok_int, ok_bl, ok_non, ok_tup, ok_lst, eqD_int, eqD_bl, eqD_str, eqD_non, eqD_tup, eqD_lst, eqL_cons, eqL_nil, eqL_nc, eqL_cn, List.replicate_succ, List.replicate_zero, List.length_map, List.length_cons, List.length_nil, if_true, if_false, ite_true, ite_false, decide_true, decide_false, decide_eq_true_eq, Bool.false_eq_true, reduceIte, reduceCtorEq, ne_eq, not_true_eq_false, not_false_eq_true, and_true, true_and, and_self, Int.reduceNe, Int.reduceEq, Int.reduceLT, Int.reduceLE, Int.reduceAdd, Int.reduceSub, Int.reduceNeg, Nat.reduceAdd, Nat.reduceSub, Nat.reduceLeDiff, Nat.reduceLT, Nat.reduceEqDiff, nc2, nc3, nc4, nc5, nc6, nc7, nc8, nc9, nc10, nc11, nc12, nc13, Int.natCast_one, Int.natCast_zero])
local macro_rules | `(tactic| walk_at "dvs") => `(tactic| simp -implicitDefEqProofs only [sTryAs_ap, tryA_nx, tryA_rt, outB_rt, sIsE_ap, pure_bl, reduceIte, sSeq_ap, sAsg_ap, asgR_sh, asgR_nw, asgM_v, gTp_v, gsNil_v, gsCons_v, wipeE_nil, wipeE_cons, sApp_eq, appM_v, eq_self, sSl_ap, slO_v, oSome_ap, oNone_ap, intO_v, dSlL_lst, dSlL_kl, dSlL_scr, dList_lst, appOut_v, isN_int, isN_non, isNN_int, isNN_non, sItL_ap, sItT_ap, iOfL_sh, iOfL_kl, iOfL_nw, iOfT_sh, okL_iN, List.append_assoc, one_int, one_bl, one_str, one_non, dPow_2_64, dPow_10_60, sNext_ap, sBreak_ap, sCont_ap, sIte_ap, iteO_b, sAnd_ap, sOr_ap, andE_b, orE_b, sNot_ap, notE_b, sIf_ap, ifE_b, sSet_ap, sDrop_ap, sRet_ap, retO_sh, retO_nw, sRetN_ap, sRetV_ap, retV_sh, retV_ow, sVar_ap, varE_sh, varE_ow, sC_ap, sBin_ap, sUn_ap, aNil_ap, aCons_ap, consA_v, consA_e, bindA_v, bindA_e, sTup_ap, sLst_ap, tupE_v, lstE_v, frzs_nil, frzs_cons, frz2_v, sCall_ap, callRes_f, sBlt_ap, isBw_sh, isBw_nw, isBw_bw, fz_nil, fz_cons, fz1_sh, fz1_ow, fz1_no, fz1_pn, gSet_ap, sPar_ap, parO_v, bindE_val, bindE_err, bindE_none, bindS_val, bindS_err, bindS_none, bindO_nx, bindO_rt, bindO_bk, bindO_ct, bindO_err, bindO_none, outSet_sh, outSet_nw, outE_sh, outE_nw, outE_nx, Rv.d_sh, Rv.d_nw, Rv.d_bw, Rv.frz_sh, Rv.frz_nw, Rv.frz_bw, List.getElem?_cons_zero, List.getElem?_cons_succ, List.set_cons_zero, List.set_cons_succ, List.map_cons, List.map_nil, List.any_cons, List.any_nil, List.all_cons, List.all_nil, Bool.or_false, Bool.false_or, Bool.or_true, Bool.true_or, Bool.and_true, Bool.true_and, Bool.false_and, Bool.and_false, Bool.not_true, Bool.not_false, List.append_nil, List.nil_append, List.cons_append, Option.map_some, Option.map_none, dLen_lst, dLen_kl, dLen_tup, d2_int, dAdd_int, dSub_int, dMod_pos, dDiv_pos, dIx_lst, dIx_kl, dIx_tup, atI_cons_zero, atI_cons_one, atI_cons_two, atI_cons_three, atI_map, dLt_int, dGt_int, dLe_int, dGe_int, dAbs_int, dNeg_int, dEq_eq, dNe_eq, dIsi_ap, tyOf_int, tyOf_bl, tyOf_tup, tyOf_lst, tyOf_str, tyOf_non, kb_ii, kb_ib, kb_bi, kb_bb, kb_tt, kb_ti, kb_tb, kb_ss, kb_si, kb_ni, kb_ns, kb_li, kb_ll, kb_tl, kb_lt, kb_it, kb_nt, kb_st, kb_bt, ok_int, ok_bl, ok_non, ok_tup, ok_lst, eqD_int, eqD_bl, eqD_str, eqD_non, eqD_tup, eqD_lst, eqL_cons, eqL_nil, eqL_nc, eqL_cn, List.replicate_succ, List.replicate_zero, List.length_map, List.length_cons, List.length_nil, if_true, if_false, ite_true, ite_false, decide_true, decide_false, decide_eq_true_eq, Bool.false_eq_true, reduceIte, reduceCtorEq, ne_eq, not_true_eq_false, not_false_eq_true, and_true, true_and, and_self, Int.reduceNe, Int.reduceEq, Int.reduceLT, Int.reduceLE, Int.reduceAdd, Int.reduceSub, Int.reduceNeg, Nat.reduceAdd, Nat.reduceSub, Nat.reduceLeDiff, Nat.reduceLT, Nat.reduceEqDiff, nc2, nc3, nc4, nc5, nc6, nc7, nc8, nc9, nc10, nc11, nc12, nc13, Int.natCast_one, Int.natCast_zero, *])
theorem e_div : sem__law_divisor = gcdF := rfl
theorem e_cdiv : sem_common_divisor = gcdF := rfl
theorem e_isn : sem_is_number = isnF := rfl
theorem e_whole : sem__law_whole = isnF := rfl
theorem e_frac : sem_fraction = fracF 2 := rfl
theorem e_cell : sem__law_cell = cellF := rfl
theorem refused_eq {d e : D} (h : fracF 2 [d, e] = some (.err 2 [])) : sem__law_refused [d, e] = vS (.bl true) := by
  rw [← e_frac] at h
  have m1 : tryA 2 mt_LandError (sSeq (sIte (sOr (sIsE 2 kt_BadShares) (sOr (sIsE 2 kt_TooFine) (sIsE 2 kt_BadCells))) (sRet (sC (.bl false))) (sNext)) (sRet (sAnd (sIsE 2 kt_BadFraction) (sIsE 2 kt_ValueError)))) (some (.err 2 [] [.sh d, .sh e, .no])) =
    outB 2 ((sSeq (sIte (sOr (sIsE 2 kt_BadShares) (sOr (sIsE 2 kt_TooFine) (sIsE 2 kt_BadCells))) (sRet (sC (.bl false))) (sNext)) (sRet (sAnd (sIsE 2 kt_BadFraction) (sIsE 2 kt_ValueError)))) [.sh d, .sh e, .sh (.exc 2 [])]) := tryA_yes rfl
  have k1 : isE kt_BadShares (some (.sh (.exc 2 []))) = vS (.bl false) := isE_v rfl
  have k2 : isE kt_TooFine (some (.sh (.exc 2 []))) = vS (.bl false) := isE_v rfl
  have k3 : isE kt_BadCells (some (.sh (.exc 2 []))) = vS (.bl false) := isE_v rfl
  have k4 : isE kt_BadFraction (some (.sh (.exc 2 []))) = vS (.bl true) := isE_v rfl
  have k5 : isE kt_ValueError (some (.sh (.exc 2 []))) = vS (.bl true) := isE_v rfl
  refine fnSem_run (o := .rt (.sh (.bl true))) rfl ?_
  unfold body__law_refused
  walk_at "dvs"
theorem pair_eq (p q : Int) : sem__law_pair [fr p q] = vS (.bl true) := by
  have w1 : sem__law_whole [.int p] = vS (.bl true) := isn_int p
  have w2 : sem__law_whole [.int q] = vS (.bl true) := isn_int q
  refine fnSem_run (o := .rt (.sh (.bl true))) rfl ?_
  unfold body__law_pair fr
  walk_at "dvs"
theorem number_eq (ns : List Int) (k : Int) (hk : 0 ≤ k) (hk2 : k ≤ 1000) : ∃ x : Int, sem__law_number [scr ns, .int k] = vS (.int x) ∧ Bd 200 x := by
  have c2 := cellv_range (ns := ns) (k := k + 4) (m := 2) (by omega)
  have cT := cellv_range (ns := ns) (k := k) (m := 13) (by omega)
  have cT2 := cellv_range (ns := ns) (k := k) (m := 2 * 10 ^ 60) (by decide)
  have big : (10 : Int) ^ 60 = 1000000000000000000000000000000000000000000000000000000000000 := by decide
  have pw : (2 : Nat) ^ 200 = 1606938044258990275541962092341162602522202993782792835301376 := by decide
  have p6 := p60
  have p2 : dMul (.int 2) (.int (10 ^ 60)) = rvI (2 * 10 ^ 60) := dMul_ok 64 250 (by decide) (by decide) (by omega) (by omega) (by omega)
  have f2 : sem__law_cell [scr ns, .int (k + 4), .int 2] = vS (.int (cellv ns (k + 4) 2)) := cell_eq ns (k + 4) 2 (by omega) (by omega) (by omega)
  have fT : sem__law_cell [scr ns, .int k, .int 13] = vS (.int (cellv ns k 13)) := cell_eq ns k 13 (by omega) (by omega) (by omega)
  have fT2 : sem__law_cell [scr ns, .int k, .int (2 * 10 ^ 60)] = vS (.int (cellv ns k (2 * 10 ^ 60))) := cell_eq ns k _ (by omega) (by omega) (by decide)
  generalize cellv ns (k + 4) 2 = v2 at *
  generalize cellv ns k 13 = vT at *
  generalize cellv ns k (2 * 10 ^ 60) = vT2 at *
  rcases (show v2 = 0 ∨ v2 = 1 by omega) with rfl | rfl
  · refine ⟨vT - 6, ?_, by unfold Bd; omega⟩
    clear c2 cT cT2 big pw hk hk2
    refine fnSem_run (o := .rt (.sh (.int (vT - 6)))) rfl ?_
    unfold body__law_number
    walk_at "dvs"
  · refine ⟨vT2 - 10 ^ 60, ?_, by unfold Bd; omega⟩
    clear c2 cT cT2 big pw hk hk2
    refine fnSem_run (o := .rt (.sh (.int (vT2 - 10 ^ 60)))) rfl ?_
    unfold body__law_number
    walk_at "dvs"
/-- the odd things -/
def odds : List D := [.bl true, .bl false, .non, .str "1", .tup [.int 1, .int 2], .lst [.int 2]]
theorem odds_bad {d : D} (h : d ∈ odds) : isnF [d] = vS (.bl false) := by
  unfold odds at h
  simp only [List.mem_cons, List.not_mem_nil, or_false] at h
  rcases h with rfl | rfl | rfl | rfl | rfl | rfl
  · exact isn_bl _
  · exact isn_bl _
  · exact isn_non
  · exact isn_str _
  · exact isn_tup _
  · exact isn_lst _
theorem law_true (ns : List Int) (_h : ns.length ≤ 63) : sem_law [scr ns] = vS (.bl true) := by
  obtain ⟨x, ex, bx⟩ := number_eq ns 0 (by omega) (by omega)
  obtain ⟨y, ey, by'⟩ := number_eq ns 1 (by omega) (by omega)
  have p3 := p30
  have pw : (2 : Nat) ^ 100 = 1267650600228229401496703205376 := by decide
  have big : (10 : Int) ^ 30 = 1000000000000000000000000000000 := by decide
  have c3 := cellv_range (ns := ns) (k := 3) (m := 3) (by omega)
  have f3 : sem__law_cell [scr ns, .int 3, .int 3] = vS (.int (cellv ns 3 3)) := cell_eq ns 3 3 (by omega) (by omega) (by omega)
  obtain ⟨w, hw0, hw1, fw⟩ : ∃ w : Int, 0 < w ∧ w ≤ 10 ^ 30 ∧ (bindE (dIx (.lst [.int 1, .int 9, .int (10 ^ 30)]) (.int (cellv ns 3 3)) |>.map .val) fun r => some (.val r)) = vS (.int w) := by
    generalize cellv ns 3 3 = v at *
    rcases (show v = 0 ∨ v = 1 ∨ v = 2 by omega) with rfl | rfl | rfl
    · exact ⟨1, by omega, by omega, rfl⟩
    · exact ⟨9, by omega, by omega, rfl⟩
    · exact ⟨10 ^ 30, by omega, by omega, rfl⟩
  have fw' : dIx (.lst [.int 1, .int 9, .int (10 ^ 30)]) (.int (cellv ns 3 3)) = rvI w := by
    cases e : dIx (.lst [.int 1, .int 9, .int (10 ^ 30)]) (.int (cellv ns 3 3)) with
    | none => rw [e] at fw; cases fw
    | some r => rw [e] at fw; cases r <;> first | (cases fw; rfl) | cases fw
  have cw := cellv_range (ns := ns) (k := 2) (m := w) hw0
  have f2 : sem__law_cell [scr ns, .int 2, .int w] = vS (.int (cellv ns 2 w)) := cell_eq ns 2 w (by omega) (by omega) hw0
  have f6 : sem__law_cell [scr ns, .int 6, .int 6] = vS (.int (cellv ns 6 6)) := cell_eq ns 6 6 (by omega) (by omega) (by omega)
  have c7 := cellv_range (ns := ns) (k := 7) (m := 6) (by omega)
  have f7 : sem__law_cell [scr ns, .int 7, .int 6] = vS (.int (cellv ns 7 6)) := cell_eq ns 7 6 (by omega) (by omega) (by omega)
  have f8 : sem__law_cell [scr ns, .int 8, .int 2] = vS (.int (cellv ns 8 2)) := cell_eq ns 8 2 (by omega) (by omega) (by omega)
  obtain ⟨od, hod, fod⟩ : ∃ d : D, d ∈ odds ∧ dIx (.lst odds) (.int (cellv ns 7 6)) = some (.sh d) := by
    generalize cellv ns 7 6 = v at *
    rcases (show v = 0 ∨ v = 1 ∨ v = 2 ∨ v = 3 ∨ v = 4 ∨ v = 5 by omega) with rfl | rfl | rfl | rfl | rfl | rfl
    · exact ⟨_, List.mem_cons_self, rfl⟩
    · exact ⟨_, List.mem_cons_of_mem _ List.mem_cons_self, rfl⟩
    · exact ⟨_, List.mem_cons_of_mem _ (List.mem_cons_of_mem _ List.mem_cons_self), rfl⟩
    · exact ⟨_, List.mem_cons_of_mem _ (List.mem_cons_of_mem _ (List.mem_cons_of_mem _ List.mem_cons_self)), rfl⟩
    · exact ⟨_, List.mem_cons_of_mem _ (List.mem_cons_of_mem _ (List.mem_cons_of_mem _ (List.mem_cons_of_mem _ List.mem_cons_self))), rfl⟩
    · exact ⟨_, List.mem_cons_of_mem _ (List.mem_cons_of_mem _ (List.mem_cons_of_mem _ (List.mem_cons_of_mem _ (List.mem_cons_of_mem _ List.mem_cons_self)))), rfl⟩
  generalize cellv ns 3 3 = v3 at *
  generalize cellv ns 2 w = v2 at *
  generalize cellv ns 6 6 = v6 at *
  generalize cellv ns 7 6 = v7 at *
  generalize cellv ns 8 2 = v8 at *
  have bf : Bd 100 (1 + v2) := by unfold Bd; omega
  have f0 : 1 + v2 ≠ 0 := by omega
  have mt : dMul (.int x) (.int (1 + v2)) = rvI (x * (1 + v2)) := bx.dm bf (by omega) (by omega) (by omega)
  have mb : dMul (.int y) (.int (1 + v2)) = rvI (y * (1 + v2)) := by'.dm bf (by omega) (by omega) (by omega)
  have bt := bx.mul bf
  have bb := by'.mul bf
  have r1 := refused_eq (frac_bad1 (m := 2) (e := .int (y * (1 + v2))) (odds_bad hod))
  have r2 := refused_eq (frac_bad2 (m := 2) (t := x * (1 + v2)) (odds_bad hod))
  have r0 := refused_eq (frac_bad0 (m := 2) (t := x * (1 + v2)))
  generalize x * (1 + v2) = t at *
  generalize y * (1 + v2) = b at *
  have kN : kd_NONE = fr 0 1 := rfl
  have kA : kd_ALL = fr 1 1 := rfl
  have o1 : (fr 0 1).ok 9 = true := by decide +kernel
  have o2 : (fr 1 1).ok 9 = true := by decide +kernel
  have o3 : eqD (fr 0 1) (fr 0 1) = true := by decide +kernel
  have o4 : eqD (fr 1 1) (fr 1 1) = true := by decide +kernel
  have t1 : D.tup [.int 0, .int 1] = fr 0 1 := rfl
  have t2 : D.tup [.int 1, .int 1] = fr 1 1 := rfl
  have lod : D.lst odds = .lst [.bl true, .bl false, .non, .str "1", .tup [.int 1, .int 2], .lst [.int 2]] := rfl
  rw [lod] at fod
  clear lod fw c3 c7 cw hw0 hw1 bf f0 bx by' hod big pw
  refine fnSem_run (o := .rt (.sh (.bl true))) rfl ?_
  unfold body_law
  rw [kN, kA]
  clear kN kA
  by_cases h6 : v6 = 1
  · subst h6
    by_cases h8 : v8 = 0
    · subst h8
      clear r0 r2 bt bb
      walk_at "dvs"
    · clear r0 r1 bt bb
      walk_at "dvs"
  · by_cases hb : b = 0
    · subst hb
      clear bt bb r1 r2
      walk_at "dvs"
    · have F : sem_fraction [.int t, .int b] = vS (fr (lowN t b) (lowD t b)) := frac_eq hb bb (by omega)
      have F0 : sem_fraction [.int 0, .int b] = vS (fr (lowN 0 b) (lowD 0 b)) := frac_eq hb bb (by omega)
      have F1 : sem_fraction [.int b, .int b] = vS (fr (lowN b b) (lowD b b)) := frac_eq hb bb (by omega)
      rw [(low_zero' hb).1, (low_zero' hb).2] at F0
      rw [(low_same hb).1, (low_same hb).2] at F1
      obtain ⟨g1, g2, g3, g4, g5, _, _⟩ := low_any (t := t) hb
      have gd : sem__law_divisor [.int (lowN t b), .int (lowD t b)] = vS (.int ((lowN t b).gcd (lowD t b) : Nat)) := gcd_eq (n := 300) (Nat.lt_of_le_of_lt g4 bb) (by omega)
      rw [g3] at gd
      have q1 := pair_eq (lowN t b) (lowD t b)
      have q2 := pair_eq 0 1
      have q3 := pair_eq 1 1
      have bn : Bd 300 (lowN t b) := Nat.lt_of_le_of_lt g5 bt
      have bd : Bd 300 (lowD t b) := Nat.lt_of_le_of_lt g4 bb
      have m1 := bn.dm bb (by omega) (by omega) (by omega)
      have m2 := bd.dm bt (by omega) (by omega) (by omega)
      rw [← g2] at m2
      have u1 : dIx (fr (lowN t b) (lowD t b)) (.int 0) = rvI (lowN t b) := rfl
      have u2 : dIx (fr (lowN t b) (lowD t b)) (.int 1) = rvI (lowD t b) := rfl
      generalize lowN t b = p at *
      generalize lowD t b = q at *
      have hq : ¬ q < 1 := by omega
      clear g1 g2 g3 g4 g5 bn bd bt bb r0 r1 r2 fod
      have nn : ((1 : Nat) : Int) = 1 := rfl
      generalize fr p q = z at *
      generalize fr 0 1 = z0 at *
      generalize fr 1 1 = z1 at *
      walk_at "dvs"
end K21

namespace K21
open PySem PySem.Spec L2 DV
section
def topS (i : Nat) : Stmt := PySem.Challenge.pw_landroll_k21_lowest_fractions.main.body.getD i (.Pass ⟨0, 0, 0, 0⟩)
abbrev st_common_divisor : Stmt := topS 11
theorem sc_common_divisor : FnScope ["one", "other"] ["one", "other"] (defScope st_common_divisor) := ⟨rfl, rfl, rfl, by decide +kernel, rfl, by decide +kernel, by decide +kernel⟩
abbrev st_is_number : Stmt := topS 7
theorem sc_is_number : FnScope ["thing"] ["thing"] (defScope st_is_number) := ⟨rfl, rfl, rfl, by decide +kernel, rfl, by decide +kernel, by decide +kernel⟩
abbrev st_fraction : Stmt := topS 12
theorem sc_fraction : FnScope ["top", "bottom", "many"] ["top", "bottom"] (defScope st_fraction) := ⟨rfl, rfl, rfl, by decide +kernel, rfl, by decide +kernel, by decide +kernel⟩
abbrev st__law_cell : Stmt := topS 14
theorem sc__law_cell : FnScope ["_law_script", "_law_k", "_law_many", "_law_number_here"] ["_law_script", "_law_k", "_law_many"] (defScope st__law_cell) := ⟨rfl, rfl, rfl, by decide +kernel, rfl, by decide +kernel, by decide +kernel⟩
abbrev st__law_number : Stmt := topS 18
theorem sc__law_number : FnScope ["_law_script", "_law_k"] ["_law_script", "_law_k"] (defScope st__law_number) := ⟨rfl, rfl, rfl, by decide +kernel, rfl, by decide +kernel, by decide +kernel⟩
abbrev st__law_refused : Stmt := topS 19
theorem sc__law_refused : FnScope ["_law_top", "_law_bottom", "e"] ["_law_top", "_law_bottom"] (defScope st__law_refused) := ⟨rfl, rfl, rfl, by decide +kernel, rfl, by decide +kernel, by decide +kernel⟩
abbrev st__law_whole : Stmt := topS 15
theorem sc__law_whole : FnScope ["_law_found"] ["_law_found"] (defScope st__law_whole) := ⟨rfl, rfl, rfl, by decide +kernel, rfl, by decide +kernel, by decide +kernel⟩
abbrev st__law_pair : Stmt := topS 16
theorem sc__law_pair : FnScope ["_law_found"] ["_law_found"] (defScope st__law_pair) := ⟨rfl, rfl, rfl, by decide +kernel, rfl, by decide +kernel, by decide +kernel⟩
abbrev st__law_divisor : Stmt := topS 17
theorem sc__law_divisor : FnScope ["_law_one", "_law_other"] ["_law_one", "_law_other"] (defScope st__law_divisor) := ⟨rfl, rfl, rfl, by decide +kernel, rfl, by decide +kernel, by decide +kernel⟩
abbrev st_law : Stmt := topS 20
theorem sc_law : FnScope ["_law_script", "_law_factor", "_law_top", "_law_bottom", "_law_odd", "_law_found", "_law_nought", "_law_one"] ["_law_script"] (defScope st_law) := ⟨rfl, rfl, rfl, by decide +kernel, rfl, by decide +kernel, by decide +kernel⟩
structure Txt (K : PySem.W.Frag) (mg : Str → Option Value) (c : Nat → Addr) (f : Nat → Addr) (kk : Nat → Addr) (fd : Nat → FuncData) : Prop where
  z_abs : mg "abs" = none
  z_int : mg "int" = none
  z_isinstance : mg "isinstance" = none
  z_bool : mg "bool" = none
  z_len : mg "len" = none
  z_ValueError : mg "ValueError" = none
  z_tuple : mg "tuple" = none
  g_common_divisor : mg "common_divisor" = some (.ref (f 0))
  F_common_divisor : Fun K "common_divisor" "common_divisor" st_common_divisor (f 0) (fd 0)
  b_common_divisor : Binds K (fd 0) ["one", "other"] []
  g_is_number : mg "is_number" = some (.ref (f 1))
  F_is_number : Fun K "is_number" "is_number" st_is_number (f 1) (fd 1)
  b_is_number : Binds K (fd 1) ["thing"] []
  g_fraction : mg "fraction" = some (.ref (f 2))
  F_fraction : Fun K "fraction" "fraction" st_fraction (f 2) (fd 2)
  b_fraction : Binds K (fd 2) ["top", "bottom"] []
  g__law_cell : mg "_law_cell" = some (.ref (f 3))
  F__law_cell : Fun K "_law_cell" "_law_cell" st__law_cell (f 3) (fd 3)
  b__law_cell : Binds K (fd 3) ["_law_script", "_law_k", "_law_many"] []
  g__law_number : mg "_law_number" = some (.ref (f 4))
  F__law_number : Fun K "_law_number" "_law_number" st__law_number (f 4) (fd 4)
  b__law_number : Binds K (fd 4) ["_law_script", "_law_k"] []
  g__law_refused : mg "_law_refused" = some (.ref (f 5))
  F__law_refused : Fun K "_law_refused" "_law_refused" st__law_refused (f 5) (fd 5)
  b__law_refused : Binds K (fd 5) ["_law_top", "_law_bottom"] []
  g__law_whole : mg "_law_whole" = some (.ref (f 6))
  F__law_whole : Fun K "_law_whole" "_law_whole" st__law_whole (f 6) (fd 6)
  b__law_whole : Binds K (fd 6) ["_law_found"] []
  g__law_pair : mg "_law_pair" = some (.ref (f 7))
  F__law_pair : Fun K "_law_pair" "_law_pair" st__law_pair (f 7) (fd 7)
  b__law_pair : Binds K (fd 7) ["_law_found"] []
  g__law_divisor : mg "_law_divisor" = some (.ref (f 8))
  F__law_divisor : Fun K "_law_divisor" "_law_divisor" st__law_divisor (f 8) (fd 8)
  b__law_divisor : Binds K (fd 8) ["_law_one", "_law_other"] []
  g_law : mg "law" = some (.ref (f 9))
  F_law : Fun K "law" "law" st_law (f 9) (fd 9)
  b_law : Binds K (fd 9) ["_law_script"] []
  gC_LandError : mg "LandError" = some (.ref (c 0))
  sC_LandError : PySem.W.subIn K (.ref (c 0)) (.type "BaseException") = some true
  tC_LandError : PySem.W.typeIn K (.ref (c 0)) = some (.type "type")
  gC_BadShares : mg "BadShares" = some (.ref (c 3))
  sC_BadShares : PySem.W.subIn K (.ref (c 3)) (.type "BaseException") = some true
  tC_BadShares : PySem.W.typeIn K (.ref (c 3)) = some (.type "type")
  gC_TooFine : mg "TooFine" = some (.ref (c 4))
  sC_TooFine : PySem.W.subIn K (.ref (c 4)) (.type "BaseException") = some true
  tC_TooFine : PySem.W.typeIn K (.ref (c 4)) = some (.type "type")
  gC_BadCells : mg "BadCells" = some (.ref (c 1))
  sC_BadCells : PySem.W.subIn K (.ref (c 1)) (.type "BaseException") = some true
  tC_BadCells : PySem.W.typeIn K (.ref (c 1)) = some (.type "type")
  hd_BadFraction : PySem.W.hasDictIn K (c 2) = true
  hd_LandError : PySem.W.hasDictIn K (c 0) = true
  hd_BadShares : PySem.W.hasDictIn K (c 3) = true
  hd_TooFine : PySem.W.hasDictIn K (c 4) = true
  hd_BadCells : PySem.W.hasDictIn K (c 1) = true
  su_BadFraction_LandError : PySem.W.subIn K (.ref (c 2)) (.ref (c 0)) = some true
  su_BadFraction_BadShares : PySem.W.subIn K (.ref (c 2)) (.ref (c 3)) = some false
  su_BadFraction_TooFine : PySem.W.subIn K (.ref (c 2)) (.ref (c 4)) = some false
  su_BadFraction_BadCells : PySem.W.subIn K (.ref (c 2)) (.ref (c 1)) = some false
  su_BadFraction_BadFraction : PySem.W.subIn K (.ref (c 2)) (.ref (c 2)) = some true
  su_BadFraction_ValueError : PySem.W.subIn K (.ref (c 2)) (.type "ValueError") = some true
  ss_BadFraction : PySem.W.subIn K (.ref (c 2)) (.ref (c 2)) = some true
  e1_BadFraction : PySem.W.findIn K (.ref (c 2)) "__getattribute__" = some (some (.builtin "BaseException.__getattribute__"))
  e2_BadFraction : PySem.W.findIn K (.ref (c 2)) "__getattr__" = some none
  e3_BadFraction : PySem.W.findIn K (.ref (c 2)) "__class__" = some (some (.builtin "object.__class__"))
  e4_BadFraction : PySem.W.mroIn K (c 2) (.type "object") = some true
  e5 : PySem.W.specialIn K (.builtin "object.__class__") "__get__" = some (some (.builtin "getset_descriptor.__get__"))
  e6 : PySem.W.takesIn K (.builtin "object.__class__") = some true
  gC_BadFraction : mg "BadFraction" = some (.ref (c 2))
  x_BadFraction : PySem.W.excIn K (c 2) [.type "ValueError", .type "Exception", .type "BaseException", .type "object"] "ValueError.__new__" = true
  kC_BadFraction : PySem.W.keepIn K (.ref (c 2)) = true
  sC_BadFraction : PySem.W.subIn K (.ref (c 2)) (.type "BaseException") = some true
  tC_BadFraction : PySem.W.typeIn K (.ref (c 2)) = some (.type "type")
  gk_NONE : ∃ u, mg "NONE" = some u ∧ RelV (.ref (kk 0)) u
  pk_NONE : ∀ J H Q, Rep ⟨K, J⟩ H Q (.ref (kk 0)) kd_NONE
  gk_ALL : ∃ u, mg "ALL" = some u ∧ RelV (.ref (kk 1)) u
  pk_ALL : ∀ J H Q, Rep ⟨K, J⟩ H Q (.ref (kk 1)) kd_ALL
variable {P : Program} {w : World} {K : PySem.W.Frag} {mg : Str → Option Value} {base : Heap} {c f kk : Nat → Addr} {fd : Nat → FuncData}
theorem mt_ok_LandError (T : Txt K mg c f kk fd) : ∀ n b, mt_LandError n = some b → PySem.W.exmOne K (.ref (c n)) (.ref (c 0)) = some b := by
  intro n b h
  unfold mt_LandError at h
  split at h
  · cases h; exact PySem.W.exm_ref T.sC_LandError T.hd_LandError T.tC_LandError T.su_BadFraction_LandError
  · cases h
theorem kt_ok_BadShares (T : Txt K mg c f kk fd) : ∀ n b, kt_BadShares n = some b → ExcC K (c n) ∧ PySem.W.kitOne K (.ref (c n)) (.ref (c 3)) = some b := by
  intro n b h
  unfold kt_BadShares at h
  split at h
  · cases h; exact ⟨⟨T.e1_BadFraction, T.e2_BadFraction, T.sC_BadFraction, T.hd_BadFraction, T.e3_BadFraction, T.e5, T.e6, T.e4_BadFraction⟩, kit_own T.hd_BadShares T.tC_BadShares T.ss_BadFraction T.su_BadFraction_BadShares⟩
  · cases h
theorem kt_ok_TooFine (T : Txt K mg c f kk fd) : ∀ n b, kt_TooFine n = some b → ExcC K (c n) ∧ PySem.W.kitOne K (.ref (c n)) (.ref (c 4)) = some b := by
  intro n b h
  unfold kt_TooFine at h
  split at h
  · cases h; exact ⟨⟨T.e1_BadFraction, T.e2_BadFraction, T.sC_BadFraction, T.hd_BadFraction, T.e3_BadFraction, T.e5, T.e6, T.e4_BadFraction⟩, kit_own T.hd_TooFine T.tC_TooFine T.ss_BadFraction T.su_BadFraction_TooFine⟩
  · cases h
theorem kt_ok_BadCells (T : Txt K mg c f kk fd) : ∀ n b, kt_BadCells n = some b → ExcC K (c n) ∧ PySem.W.kitOne K (.ref (c n)) (.ref (c 1)) = some b := by
  intro n b h
  unfold kt_BadCells at h
  split at h
  · cases h; exact ⟨⟨T.e1_BadFraction, T.e2_BadFraction, T.sC_BadFraction, T.hd_BadFraction, T.e3_BadFraction, T.e5, T.e6, T.e4_BadFraction⟩, kit_own T.hd_BadCells T.tC_BadCells T.ss_BadFraction T.su_BadFraction_BadCells⟩
  · cases h
theorem kt_ok_BadFraction (T : Txt K mg c f kk fd) : ∀ n b, kt_BadFraction n = some b → ExcC K (c n) ∧ PySem.W.kitOne K (.ref (c n)) (.ref (c 2)) = some b := by
  intro n b h
  unfold kt_BadFraction at h
  split at h
  · cases h; exact ⟨⟨T.e1_BadFraction, T.e2_BadFraction, T.sC_BadFraction, T.hd_BadFraction, T.e3_BadFraction, T.e5, T.e6, T.e4_BadFraction⟩, kit_own T.hd_BadFraction T.tC_BadFraction T.ss_BadFraction T.su_BadFraction_BadFraction⟩
  · cases h
theorem kt_ok_ValueError (T : Txt K mg c f kk fd) : ∀ n b, kt_ValueError n = some b → ExcC K (c n) ∧ PySem.W.kitOne K (.ref (c n)) (.type "ValueError") = some b := by
  intro n b h
  unfold kt_ValueError at h
  split at h
  · cases h; exact ⟨⟨T.e1_BadFraction, T.e2_BadFraction, T.sC_BadFraction, T.hd_BadFraction, T.e3_BadFraction, T.e5, T.e6, T.e4_BadFraction⟩, kit_typ (by decide +kernel) T.su_BadFraction_ValueError⟩
  · cases h
theorem ok_common_divisor (T : Txt K mg c f kk fd) : FnOk P w K mg base (L2.CX P w) 1 (f 0) (fd 0) ["one", "other"] (spOf K c 2 sem_common_divisor) :=
  fn_ok (n := 2) (m := 2) (fB := body_common_divisor) (sem := sem_common_divisor) rfl rfl rfl T.F_common_divisor sc_common_divisor fun cdv A outer s H E hr => by
    unfold body_common_divisor
    exact (qs_cons (q_while (n := 100000) (passes_of rfl) ((qt_ne hr.units (q_var 1) (q_int))) (qs_one (q_par rfl sc_common_divisor.nd (i := 0) (j := 1) rfl rfl (by decide) rfl rfl (qa_cons (q_var 1) (qa_cons ((q_mod (q_var 0) (q_var 1))) qa_nil)) (by rfl)))) (qs_one (q_ret ((q_blt call_abs cd_abs (by rfl) T.z_abs (by decide +kernel) (qa_cons (q_var 0) qa_nil))))))
theorem ok_is_number (T : Txt K mg c f kk fd) : FnOk P w K mg base (L2.CX P w) 1 (f 1) (fd 1) ["thing"] (spOf K c 1 sem_is_number) :=
  fn_ok (n := 1) (m := 1) (fB := body_is_number) (sem := sem_is_number) rfl rfl rfl T.F_is_number sc_is_number fun cdv A outer s H E hr => by
    unfold body_is_number
    exact (qs_one (q_ret ((q_and ((q_blt call_isi cd_isi (by rfl) T.z_isinstance (by decide +kernel) (qa_cons (q_var 0) (qa_cons ((q_ty (by rfl) T.z_int (by decide +kernel))) qa_nil)))) (q_one ((q_not ((q_blt call_isi cd_isi (by rfl) T.z_isinstance (by decide +kernel) (qa_cons (q_var 0) (qa_cons ((q_ty (by rfl) T.z_bool (by decide +kernel))) qa_nil)))))))))))
theorem ok_fraction (T : Txt K mg c f kk fd) : FnOk P w K mg base (L2.CX P w) 2 (f 2) (fd 2) ["top", "bottom"] (spOf K c 2 sem_fraction) :=
  fn_ok (n := 2) (m := 3) (fB := body_fraction) (sem := sem_fraction) rfl rfl rfl T.F_fraction sc_fraction fun cdv A outer s H E hr => by
    unfold body_fraction
    exact (qs_cons (qs_if ((qt_of (qw_or ((qt_not ((qt_val ((q_call (ok_is_number T) fnSem_len (hr.mono (by decide)) (takes_of rfl rfl rfl rfl) (by rfl) T.g_is_number T.F_is_number.kp T.b_is_number (qa_cons (q_var 0) qa_nil))))))) (qw_or ((qt_not ((qt_val ((q_call (ok_is_number T) fnSem_len (hr.mono (by decide)) (takes_of rfl rfl rfl rfl) (by rfl) T.g_is_number T.F_is_number.kp T.b_is_number (qa_cons (q_var 1) qa_nil))))))) (qw_or1 ((qt_eq hr.units (q_var 1) (q_int)))))))) (qs_one (q_raise (n := 2) rfl (takes_of rfl rfl rfl rfl) PySem.F.excBase_ValueError T.x_BadFraction T.gC_BadFraction T.kC_BadFraction (raises_own T.sC_BadFraction T.tC_BadFraction) (by rfl) rfl)) qs_nil) (qs_cons (q_set (i := 2) ((q_call (ok_common_divisor T) fnSem_len (hr.mono (by decide)) (takes_of rfl rfl rfl rfl) (by rfl) T.g_common_divisor T.F_common_divisor.kp T.b_common_divisor (qa_cons (q_var 0) (qa_cons (q_var 1) qa_nil)))) sc_fraction.nd rfl (Or.inl rfl)) (qs_cons (qs_if ((qt_lt (q_var 1) (q_int))) (qs_one (q_set (i := 2) ((q_neg (q_var 2))) sc_fraction.nd rfl (Or.inl rfl))) qs_nil) (qs_one (q_ret ((q_tup (qa_cons ((q_div (q_var 0) (q_var 2))) (qa_cons ((q_div (q_var 1) (q_var 2))) qa_nil)))))))))
theorem ok__law_cell (T : Txt K mg c f kk fd) : FnOk P w K mg base (L2.CX P w) 1 (f 3) (fd 3) ["_law_script", "_law_k", "_law_many"] (spOf K c 3 sem__law_cell) :=
  fn_ok (n := 3) (m := 4) (fB := body__law_cell) (sem := sem__law_cell) rfl rfl rfl T.F__law_cell sc__law_cell fun cdv A outer s H E hr => by
    unfold body__law_cell
    exact (qs_cons (qs_if ((qt_lt (q_var 1) ((q_blt call_len cd_len (by rfl) T.z_len (by decide +kernel) (qa_cons (q_var 0) qa_nil))))) (qs_one (q_ret ((q_mod ((q_ix (q_var 0) (q_var 1) (fun _ _ => rfl))) (q_var 2))))) qs_nil) (qs_cons (q_set (i := 3) (q_int) sc__law_cell.nd rfl (Or.inl rfl)) (qs_cons (qs_if ((qt_gt ((q_blt call_len cd_len (by rfl) T.z_len (by decide +kernel) (qa_cons (q_var 0) qa_nil))) (q_int))) (qs_one (q_set (i := 3) ((q_mod ((q_ix (q_var 0) ((q_mod (q_var 1) ((q_blt call_len cd_len (by rfl) T.z_len (by decide +kernel) (qa_cons (q_var 0) qa_nil))))) (fun _ _ => rfl))) (q_int))) sc__law_cell.nd rfl (Or.inl rfl))) qs_nil) (qs_one (q_ret ((q_mod ((q_mod ((q_add ((q_mul (q_var 3) (q_int))) ((q_mul ((q_mul ((q_add (q_var 1) (q_int))) ((q_add (q_var 1) (q_int))))) (q_int))))) (q_int))) (q_var 2))))))))
theorem ok__law_number (T : Txt K mg c f kk fd) : FnOk P w K mg base (L2.CX P w) 2 (f 4) (fd 4) ["_law_script", "_law_k"] (spOf K c 2 sem__law_number) :=
  fn_ok (n := 2) (m := 2) (fB := body__law_number) (sem := sem__law_number) rfl rfl rfl T.F__law_number sc__law_number fun cdv A outer s H E hr => by
    unfold body__law_number
    exact (qs_cons (qs_if ((qt_eq hr.units ((q_call (ok__law_cell T) fnSem_len (hr.mono (by decide)) (takes_of rfl rfl rfl rfl) (by rfl) T.g__law_cell T.F__law_cell.kp T.b__law_cell (qa_cons (q_var 0) (qa_cons ((q_add (q_var 1) (q_int))) (qa_cons (q_int) qa_nil))))) (q_int))) (qs_one (q_ret ((q_sub ((q_call (ok__law_cell T) fnSem_len (hr.mono (by decide)) (takes_of rfl rfl rfl rfl) (by rfl) T.g__law_cell T.F__law_cell.kp T.b__law_cell (qa_cons (q_var 0) (qa_cons (q_var 1) (qa_cons (q_int) qa_nil))))) (q_int))))) qs_nil) (qs_one (q_ret ((q_sub ((q_call (ok__law_cell T) fnSem_len (hr.mono (by decide)) (takes_of rfl rfl rfl rfl) (by rfl) T.g__law_cell T.F__law_cell.kp T.b__law_cell (qa_cons (q_var 0) (qa_cons (q_var 1) (qa_cons ((q_mul (q_int) ((q_pow (q_int) (q_int))))) qa_nil))))) ((q_pow (q_int) (q_int))))))))
theorem ok__law_refused (T : Txt K mg c f kk fd) : FnOk P w K mg base (L2.CX P w) 3 (f 5) (fd 5) ["_law_top", "_law_bottom"] (spOf K c 2 sem__law_refused) :=
  fn_ok (n := 2) (m := 3) (fB := body__law_refused) (sem := sem__law_refused) rfl rfl rfl T.F__law_refused sc__law_refused fun cdv A outer s H E hr => by
    unfold body__law_refused
    exact (qs_cons (q_tryAs (i := 2) sc__law_refused.nd rfl rfl ⟨by rfl, by decide, .inl T.gC_LandError⟩ (takes_of rfl rfl rfl rfl) (mt_ok_LandError T) (fun W pn xe tk pw => (qs_one (q_drop ((q_call (ok_fraction T) fnSem_len (hr.mono (by decide)) tk (by rfl) T.g_fraction T.F_fraction.kp T.b_fraction (qa_cons (q_var 0) (qa_cons (q_var 1) qa_nil))))))) (fun a oe cls d pn hz hf => (qs_cons (qs_if ((qt_of (qw_or ((qt_val ((q_isE hz hf rfl (q_const (pe_glob (v := .ref (c 3)) (by rfl) T.gC_BadShares rfl) fun _ _ _ => .op _) (fun _ h => h) (kt_ok_BadShares T) (by rfl) T.z_isinstance (by decide +kernel))))) (qw_or ((qt_val ((q_isE hz hf rfl (q_const (pe_glob (v := .ref (c 4)) (by rfl) T.gC_TooFine rfl) fun _ _ _ => .op _) (fun _ h => h) (kt_ok_TooFine T) (by rfl) T.z_isinstance (by decide +kernel))))) (qw_or1 ((qt_val ((q_isE hz hf rfl (q_const (pe_glob (v := .ref (c 1)) (by rfl) T.gC_BadCells rfl) fun _ _ _ => .op _) (fun _ h => h) (kt_ok_BadCells T) (by rfl) T.z_isinstance (by decide +kernel)))))))))) (qs_one (q_ret (q_bl))) qs_nil) (qs_one (q_ret ((q_and ((q_isE hz hf rfl (q_const (pe_glob (v := .ref (c 2)) (by rfl) T.gC_BadFraction rfl) fun _ _ _ => .op _) (fun _ h => h) (kt_ok_BadFraction T) (by rfl) T.z_isinstance (by decide +kernel))) (q_one ((q_isE hz hf rfl (q_ty (by rfl) T.z_ValueError (by decide +kernel)) (fun _ h => h) (kt_ok_ValueError T) (by rfl) T.z_isinstance (by decide +kernel))))))))))) (qs_one (q_ret (q_bl))))
theorem ok__law_whole (T : Txt K mg c f kk fd) : FnOk P w K mg base (L2.CX P w) 1 (f 6) (fd 6) ["_law_found"] (spOf K c 1 sem__law_whole) :=
  fn_ok (n := 1) (m := 1) (fB := body__law_whole) (sem := sem__law_whole) rfl rfl rfl T.F__law_whole sc__law_whole fun cdv A outer s H E hr => by
    unfold body__law_whole
    exact (qs_one (q_ret ((q_and ((q_blt call_isi cd_isi (by rfl) T.z_isinstance (by decide +kernel) (qa_cons (q_var 0) (qa_cons ((q_ty (by rfl) T.z_int (by decide +kernel))) qa_nil)))) (q_one ((q_not ((q_blt call_isi cd_isi (by rfl) T.z_isinstance (by decide +kernel) (qa_cons (q_var 0) (qa_cons ((q_ty (by rfl) T.z_bool (by decide +kernel))) qa_nil)))))))))))
theorem ok__law_pair (T : Txt K mg c f kk fd) : FnOk P w K mg base (L2.CX P w) 2 (f 7) (fd 7) ["_law_found"] (spOf K c 1 sem__law_pair) :=
  fn_ok (n := 1) (m := 1) (fB := body__law_pair) (sem := sem__law_pair) rfl rfl rfl T.F__law_pair sc__law_pair fun cdv A outer s H E hr => by
    unfold body__law_pair
    exact (qs_cons (qs_if ((qt_of (qw_or ((qt_not ((qt_val ((q_blt call_isi cd_isi (by rfl) T.z_isinstance (by decide +kernel) (qa_cons (q_var 0) (qa_cons ((q_ty (by rfl) T.z_tuple (by decide +kernel))) qa_nil)))))))) (qw_or1 ((qt_ne hr.units ((q_blt call_len cd_len (by rfl) T.z_len (by decide +kernel) (qa_cons (q_var 0) qa_nil))) (q_int))))))) (qs_one (q_ret (q_bl))) qs_nil) (qs_one (q_ret ((q_and ((q_call (ok__law_whole T) fnSem_len (hr.mono (by decide)) (takes_of rfl rfl rfl rfl) (by rfl) T.g__law_whole T.F__law_whole.kp T.b__law_whole (qa_cons ((q_ix (q_var 0) (q_int) (fun _ _ => rfl))) qa_nil))) (q_one ((q_call (ok__law_whole T) fnSem_len (hr.mono (by decide)) (takes_of rfl rfl rfl rfl) (by rfl) T.g__law_whole T.F__law_whole.kp T.b__law_whole (qa_cons ((q_ix (q_var 0) (q_int) (fun _ _ => rfl))) qa_nil)))))))))
theorem ok__law_divisor (T : Txt K mg c f kk fd) : FnOk P w K mg base (L2.CX P w) 1 (f 8) (fd 8) ["_law_one", "_law_other"] (spOf K c 2 sem__law_divisor) :=
  fn_ok (n := 2) (m := 2) (fB := body__law_divisor) (sem := sem__law_divisor) rfl rfl rfl T.F__law_divisor sc__law_divisor fun cdv A outer s H E hr => by
    unfold body__law_divisor
    exact (qs_cons (q_while (n := 100000) (passes_of rfl) ((qt_ne hr.units (q_var 1) (q_int))) (qs_one (q_par rfl sc__law_divisor.nd (i := 0) (j := 1) rfl rfl (by decide) rfl rfl (qa_cons (q_var 1) (qa_cons ((q_mod (q_var 0) (q_var 1))) qa_nil)) (by rfl)))) (qs_one (q_ret ((q_blt call_abs cd_abs (by rfl) T.z_abs (by decide +kernel) (qa_cons (q_var 0) qa_nil))))))
theorem ok_law (T : Txt K mg c f kk fd) : FnOk P w K mg base (L2.CX P w) 4 (f 9) (fd 9) ["_law_script"] (spOf K c 1 sem_law) :=
  fn_ok (n := 1) (m := 8) (fB := body_law) (sem := sem_law) rfl rfl rfl T.F_law sc_law fun cdv A outer s H E hr => by
    unfold body_law
    exact (qs_cons (q_set (i := 1) ((q_add (q_int) ((q_call (ok__law_cell T) fnSem_len (hr.mono (by decide)) (takes_of rfl rfl rfl rfl) (by rfl) T.g__law_cell T.F__law_cell.kp T.b__law_cell (qa_cons (q_var 0) (qa_cons (q_int) (qa_cons ((q_ix ((q_lst (qa_cons (q_int) (qa_cons (q_int) (qa_cons ((q_pow (q_int) (q_int))) qa_nil))))) ((q_call (ok__law_cell T) fnSem_len (hr.mono (by decide)) (takes_of rfl rfl rfl rfl) (by rfl) T.g__law_cell T.F__law_cell.kp T.b__law_cell (qa_cons (q_var 0) (qa_cons (q_int) (qa_cons (q_int) qa_nil))))) (fun _ _ => rfl))) qa_nil))))))) sc_law.nd rfl (Or.inl rfl)) (qs_cons (q_set (i := 2) ((q_mul ((q_call (ok__law_number T) fnSem_len (hr.mono (by decide)) (takes_of rfl rfl rfl rfl) (by rfl) T.g__law_number T.F__law_number.kp T.b__law_number (qa_cons (q_var 0) (qa_cons (q_int) qa_nil)))) (q_var 1))) sc_law.nd rfl (Or.inl rfl)) (qs_cons (q_set (i := 3) ((q_mul ((q_call (ok__law_number T) fnSem_len (hr.mono (by decide)) (takes_of rfl rfl rfl rfl) (by rfl) T.g__law_number T.F__law_number.kp T.b__law_number (qa_cons (q_var 0) (qa_cons (q_int) qa_nil)))) (q_var 1))) sc_law.nd rfl (Or.inl rfl)) (qs_cons (qs_if ((qt_eq hr.units ((q_call (ok__law_cell T) fnSem_len (hr.mono (by decide)) (takes_of rfl rfl rfl rfl) (by rfl) T.g__law_cell T.F__law_cell.kp T.b__law_cell (qa_cons (q_var 0) (qa_cons (q_int) (qa_cons (q_int) qa_nil))))) (q_int))) (qs_cons (q_set (i := 4) ((q_ix ((q_lst (qa_cons (q_bl) (qa_cons (q_bl) (qa_cons (q_non) (qa_cons (q_str) (qa_cons ((q_tup (qa_cons (q_int) (qa_cons (q_int) qa_nil)))) (qa_cons ((q_lst (qa_cons (q_int) qa_nil))) qa_nil)))))))) ((q_call (ok__law_cell T) fnSem_len (hr.mono (by decide)) (takes_of rfl rfl rfl rfl) (by rfl) T.g__law_cell T.F__law_cell.kp T.b__law_cell (qa_cons (q_var 0) (qa_cons (q_int) (qa_cons (q_int) qa_nil))))) (fun _ _ => rfl))) sc_law.nd rfl (Or.inl rfl)) (qs_cons (qs_if ((qt_eq hr.units ((q_call (ok__law_cell T) fnSem_len (hr.mono (by decide)) (takes_of rfl rfl rfl rfl) (by rfl) T.g__law_cell T.F__law_cell.kp T.b__law_cell (qa_cons (q_var 0) (qa_cons (q_int) (qa_cons (q_int) qa_nil))))) (q_int))) (qs_one (q_ret ((q_call (ok__law_refused T) fnSem_len (hr.mono (by decide)) (takes_of rfl rfl rfl rfl) (by rfl) T.g__law_refused T.F__law_refused.kp T.b__law_refused (qa_cons (q_var 4) (qa_cons (q_var 3) qa_nil)))))) qs_nil) (qs_one (q_ret ((q_call (ok__law_refused T) fnSem_len (hr.mono (by decide)) (takes_of rfl rfl rfl rfl) (by rfl) T.g__law_refused T.F__law_refused.kp T.b__law_refused (qa_cons (q_var 2) (qa_cons (q_var 4) qa_nil)))))))) qs_nil) (qs_cons (qs_if ((qt_eq hr.units (q_var 3) (q_int))) (qs_one (q_ret ((q_call (ok__law_refused T) fnSem_len (hr.mono (by decide)) (takes_of rfl rfl rfl rfl) (by rfl) T.g__law_refused T.F__law_refused.kp T.b__law_refused (qa_cons (q_var 2) (qa_cons (q_var 3) qa_nil)))))) qs_nil) (qs_cons (q_set (i := 5) ((q_call (ok_fraction T) fnSem_len (hr.mono (by decide)) (takes_of rfl rfl rfl rfl) (by rfl) T.g_fraction T.F_fraction.kp T.b_fraction (qa_cons (q_var 2) (qa_cons (q_var 3) qa_nil)))) sc_law.nd rfl (Or.inl rfl)) (qs_cons (qs_if ((qt_of (qw_or ((qt_not ((qt_val ((q_call (ok__law_pair T) fnSem_len (hr.mono (by decide)) (takes_of rfl rfl rfl rfl) (by rfl) T.g__law_pair T.F__law_pair.kp T.b__law_pair (qa_cons (q_var 5) qa_nil))))))) (qw_or ((qt_lt ((q_ix (q_var 5) (q_int) (fun _ _ => rfl))) (q_int))) (qw_or1 ((qt_ne hr.units ((q_mul ((q_ix (q_var 5) (q_int) (fun _ _ => rfl))) (q_var 3))) ((q_mul ((q_ix (q_var 5) (q_int) (fun _ _ => rfl))) (q_var 2)))))))))) (qs_one (q_ret (q_bl))) qs_nil) (qs_cons (qs_if ((qt_of (qw_or ((qt_ne hr.units ((q_call (ok__law_divisor T) fnSem_len (hr.mono (by decide)) (takes_of rfl rfl rfl rfl) (by rfl) T.g__law_divisor T.F__law_divisor.kp T.b__law_divisor (qa_cons ((q_ix (q_var 5) (q_int) (fun _ _ => rfl))) (qa_cons ((q_ix (q_var 5) (q_int) (fun _ _ => rfl))) qa_nil)))) (q_int))) (qw_or ((qt_ne hr.units ((q_glob (by rfl) T.gk_NONE.choose_spec.1 T.gk_NONE.choose_spec.2 T.pk_NONE)) ((q_tup (qa_cons (q_int) (qa_cons (q_int) qa_nil)))))) (qw_or1 ((qt_ne hr.units ((q_glob (by rfl) T.gk_ALL.choose_spec.1 T.gk_ALL.choose_spec.2 T.pk_ALL)) ((q_tup (qa_cons (q_int) (qa_cons (q_int) qa_nil))))))))))) (qs_one (q_ret (q_bl))) qs_nil) (qs_cons (q_set (i := 6) ((q_call (ok_fraction T) fnSem_len (hr.mono (by decide)) (takes_of rfl rfl rfl rfl) (by rfl) T.g_fraction T.F_fraction.kp T.b_fraction (qa_cons (q_int) (qa_cons (q_var 3) qa_nil)))) sc_law.nd rfl (Or.inl rfl)) (qs_cons (q_set (i := 7) ((q_call (ok_fraction T) fnSem_len (hr.mono (by decide)) (takes_of rfl rfl rfl rfl) (by rfl) T.g_fraction T.F_fraction.kp T.b_fraction (qa_cons (q_var 3) (qa_cons (q_var 3) qa_nil)))) sc_law.nd rfl (Or.inl rfl)) (qs_one (q_ret ((q_and ((q_call (ok__law_pair T) fnSem_len (hr.mono (by decide)) (takes_of rfl rfl rfl rfl) (by rfl) T.g__law_pair T.F__law_pair.kp T.b__law_pair (qa_cons (q_var 6) qa_nil))) (q_and ((q_call (ok__law_pair T) fnSem_len (hr.mono (by decide)) (takes_of rfl rfl rfl rfl) (by rfl) T.g__law_pair T.F__law_pair.kp T.b__law_pair (qa_cons (q_var 7) qa_nil))) (q_and ((q_eq hr.units (q_var 6) ((q_glob (by rfl) T.gk_NONE.choose_spec.1 T.gk_NONE.choose_spec.2 T.pk_NONE)))) (q_one ((q_eq hr.units (q_var 7) ((q_glob (by rfl) T.gk_ALL.choose_spec.1 T.gk_ALL.choose_spec.2 T.pk_ALL)))))))))))))))))))))
end
theorem all_mk {P : Program} {w : World} {K : PySem.W.Frag} {h : Heap} {mg : Str → Option Value} {fa : Addr} (X : K.In h) (G : h.Ns mainGlobals mg) (hfa : mg "law" = some (.ref fa))
    {od0 an0 : Option Addr} {sl0 : Array (Option Value)} {oc0 kV0 dc0 pm0 cd0 ct0 : Value} {f0 : Addr}
    {od1 an1 : Option Addr} {sl1 : Array (Option Value)} {oc1 kV1 dc1 pm1 cd1 ct1 : Value} {f1 : Addr}
    {od2 an2 : Option Addr} {sl2 : Array (Option Value)} {oc2 kV2 dc2 pm2 cd2 ct2 : Value} {f2 : Addr}
    {od3 an3 : Option Addr} {sl3 : Array (Option Value)} {oc3 kV3 dc3 pm3 cd3 ct3 : Value} {f3 : Addr}
    {od4 an4 : Option Addr} {sl4 : Array (Option Value)} {oc4 kV4 dc4 pm4 cd4 ct4 : Value} {f4 : Addr}
    {od5 an5 : Option Addr} {sl5 : Array (Option Value)} {oc5 kV5 dc5 pm5 cd5 ct5 : Value} {f5 : Addr}
    {od6 an6 : Option Addr} {sl6 : Array (Option Value)} {oc6 kV6 dc6 pm6 cd6 ct6 : Value} {f6 : Addr}
    {od7 an7 : Option Addr} {sl7 : Array (Option Value)} {oc7 kV7 dc7 pm7 cd7 ct7 : Value} {f7 : Addr}
    {od8 an8 : Option Addr} {sl8 : Array (Option Value)} {oc8 kV8 dc8 pm8 cd8 ct8 : Value} {f8 : Addr}
    {od9 an9 : Option Addr} {sl9 : Array (Option Value)} {oc9 kV9 dc9 pm9 cd9 ct9 : Value} {f9 : Addr}
    {C0 : Addr}
    {C3 : Addr}
    {C4 : Addr}
    {C1 : Addr}
    {C2 : Addr}
    {kq0 : Addr} {kod0 : Option Addr} {kn0 : Nat} {ksl0 : Array (Option Value)} {tk0_0 : Tok} {tk0_1 : Tok}
    {kq1 : Addr} {kod1 : Option Addr} {kn1 : Nat} {ksl1 : Array (Option Value)} {tk1_0 : Tok} {tk1_1 : Tok}
    (a0 : PySem.W.nsIn K mainGlobals "common_divisor" = some (some (.ref f0))) (l0 : K.lookup f0 = some ⟨oc0, od0, .func (PySem.W.fnOf "common_divisor" "common_divisor" (defArgs st_common_divisor) (defBody st_common_divisor) (defScope st_common_divisor) .none kV0 dc0 pm0 an0 cd0 ct0), sl0⟩) (c0 : PySem.W.codeIn K cd0 "common_divisor" = true) (k0 : PySem.W.keepIn K (.ref f0) = true)
    (a1 : PySem.W.nsIn K mainGlobals "is_number" = some (some (.ref f1))) (l1 : K.lookup f1 = some ⟨oc1, od1, .func (PySem.W.fnOf "is_number" "is_number" (defArgs st_is_number) (defBody st_is_number) (defScope st_is_number) .none kV1 dc1 pm1 an1 cd1 ct1), sl1⟩) (c1 : PySem.W.codeIn K cd1 "is_number" = true) (k1 : PySem.W.keepIn K (.ref f1) = true)
    (a2 : PySem.W.nsIn K mainGlobals "fraction" = some (some (.ref f2))) (l2 : K.lookup f2 = some ⟨oc2, od2, .func (PySem.W.fnOf "fraction" "fraction" (defArgs st_fraction) (defBody st_fraction) (defScope st_fraction) .none kV2 dc2 pm2 an2 cd2 ct2), sl2⟩) (c2 : PySem.W.codeIn K cd2 "fraction" = true) (k2 : PySem.W.keepIn K (.ref f2) = true)
    (a3 : PySem.W.nsIn K mainGlobals "_law_cell" = some (some (.ref f3))) (l3 : K.lookup f3 = some ⟨oc3, od3, .func (PySem.W.fnOf "_law_cell" "_law_cell" (defArgs st__law_cell) (defBody st__law_cell) (defScope st__law_cell) .none kV3 dc3 pm3 an3 cd3 ct3), sl3⟩) (c3 : PySem.W.codeIn K cd3 "_law_cell" = true) (k3 : PySem.W.keepIn K (.ref f3) = true)
    (a4 : PySem.W.nsIn K mainGlobals "_law_number" = some (some (.ref f4))) (l4 : K.lookup f4 = some ⟨oc4, od4, .func (PySem.W.fnOf "_law_number" "_law_number" (defArgs st__law_number) (defBody st__law_number) (defScope st__law_number) .none kV4 dc4 pm4 an4 cd4 ct4), sl4⟩) (c4 : PySem.W.codeIn K cd4 "_law_number" = true) (k4 : PySem.W.keepIn K (.ref f4) = true)
    (a5 : PySem.W.nsIn K mainGlobals "_law_refused" = some (some (.ref f5))) (l5 : K.lookup f5 = some ⟨oc5, od5, .func (PySem.W.fnOf "_law_refused" "_law_refused" (defArgs st__law_refused) (defBody st__law_refused) (defScope st__law_refused) .none kV5 dc5 pm5 an5 cd5 ct5), sl5⟩) (c5 : PySem.W.codeIn K cd5 "_law_refused" = true) (k5 : PySem.W.keepIn K (.ref f5) = true)
    (a6 : PySem.W.nsIn K mainGlobals "_law_whole" = some (some (.ref f6))) (l6 : K.lookup f6 = some ⟨oc6, od6, .func (PySem.W.fnOf "_law_whole" "_law_whole" (defArgs st__law_whole) (defBody st__law_whole) (defScope st__law_whole) .none kV6 dc6 pm6 an6 cd6 ct6), sl6⟩) (c6 : PySem.W.codeIn K cd6 "_law_whole" = true) (k6 : PySem.W.keepIn K (.ref f6) = true)
    (a7 : PySem.W.nsIn K mainGlobals "_law_pair" = some (some (.ref f7))) (l7 : K.lookup f7 = some ⟨oc7, od7, .func (PySem.W.fnOf "_law_pair" "_law_pair" (defArgs st__law_pair) (defBody st__law_pair) (defScope st__law_pair) .none kV7 dc7 pm7 an7 cd7 ct7), sl7⟩) (c7 : PySem.W.codeIn K cd7 "_law_pair" = true) (k7 : PySem.W.keepIn K (.ref f7) = true)
    (a8 : PySem.W.nsIn K mainGlobals "_law_divisor" = some (some (.ref f8))) (l8 : K.lookup f8 = some ⟨oc8, od8, .func (PySem.W.fnOf "_law_divisor" "_law_divisor" (defArgs st__law_divisor) (defBody st__law_divisor) (defScope st__law_divisor) .none kV8 dc8 pm8 an8 cd8 ct8), sl8⟩) (c8 : PySem.W.codeIn K cd8 "_law_divisor" = true) (k8 : PySem.W.keepIn K (.ref f8) = true)
    (a9 : PySem.W.nsIn K mainGlobals "law" = some (some (.ref f9))) (l9 : K.lookup f9 = some ⟨oc9, od9, .func (PySem.W.fnOf "law" "law" (defArgs st_law) (defBody st_law) (defScope st_law) .none kV9 dc9 pm9 an9 cd9 ct9), sl9⟩) (c9 : PySem.W.codeIn K cd9 "law" = true) (k9 : PySem.W.keepIn K (.ref f9) = true)
    (aC2 : PySem.W.nsIn K mainGlobals "BadFraction" = some (some (.ref C2))) (xC2 : PySem.W.excIn K C2 [.type "ValueError", .type "Exception", .type "BaseException", .type "object"] "ValueError.__new__" = true) (kC2 : PySem.W.keepIn K (.ref C2) = true) (sC2 : PySem.W.subIn K (.ref C2) (.type "BaseException") = some true) (tC2 : PySem.W.typeIn K (.ref C2) = some (.type "type"))
    (aC0 : PySem.W.nsIn K mainGlobals "LandError" = some (some (.ref C0)))
    (sC0 : PySem.W.subIn K (.ref C0) (.type "BaseException") = some true)
    (tC0 : PySem.W.typeIn K (.ref C0) = some (.type "type"))
    (aC3 : PySem.W.nsIn K mainGlobals "BadShares" = some (some (.ref C3)))
    (sC3 : PySem.W.subIn K (.ref C3) (.type "BaseException") = some true)
    (tC3 : PySem.W.typeIn K (.ref C3) = some (.type "type"))
    (aC4 : PySem.W.nsIn K mainGlobals "TooFine" = some (some (.ref C4)))
    (sC4 : PySem.W.subIn K (.ref C4) (.type "BaseException") = some true)
    (tC4 : PySem.W.typeIn K (.ref C4) = some (.type "type"))
    (aC1 : PySem.W.nsIn K mainGlobals "BadCells" = some (some (.ref C1)))
    (sC1 : PySem.W.subIn K (.ref C1) (.type "BaseException") = some true)
    (tC1 : PySem.W.typeIn K (.ref C1) = some (.type "type"))
    (hC2 : PySem.W.hasDictIn K C2 = true)
    (hC0 : PySem.W.hasDictIn K C0 = true)
    (hC3 : PySem.W.hasDictIn K C3 = true)
    (hC4 : PySem.W.hasDictIn K C4 = true)
    (hC1 : PySem.W.hasDictIn K C1 = true)
    (su2_LandError : PySem.W.subIn K (.ref C2) (.ref C0) = some true)
    (su2_BadShares : PySem.W.subIn K (.ref C2) (.ref C3) = some false)
    (su2_TooFine : PySem.W.subIn K (.ref C2) (.ref C4) = some false)
    (su2_BadCells : PySem.W.subIn K (.ref C2) (.ref C1) = some false)
    (su2_BadFraction : PySem.W.subIn K (.ref C2) (.ref C2) = some true)
    (su2_ValueError : PySem.W.subIn K (.ref C2) (.type "ValueError") = some true)
    (ss2 : PySem.W.subIn K (.ref C2) (.ref C2) = some true)
    (e1_2 : PySem.W.findIn K (.ref C2) "__getattribute__" = some (some (.builtin "BaseException.__getattribute__")))
    (e2_2 : PySem.W.findIn K (.ref C2) "__getattr__" = some none)
    (e3_2 : PySem.W.findIn K (.ref C2) "__class__" = some (some (.builtin "object.__class__")))
    (e4_2 : PySem.W.mroIn K C2 (.type "object") = some true)
    (e5 : PySem.W.specialIn K (.builtin "object.__class__") "__get__" = some (some (.builtin "getset_descriptor.__get__")))
    (e6 : PySem.W.takesIn K (.builtin "object.__class__") = some true)
    (z_abs : PySem.W.nsIn K mainGlobals "abs" = some none)
    (z_int : PySem.W.nsIn K mainGlobals "int" = some none)
    (z_isinstance : PySem.W.nsIn K mainGlobals "isinstance" = some none)
    (z_bool : PySem.W.nsIn K mainGlobals "bool" = some none)
    (z_len : PySem.W.nsIn K mainGlobals "len" = some none)
    (z_ValueError : PySem.W.nsIn K mainGlobals "ValueError" = some none)
    (z_tuple : PySem.W.nsIn K mainGlobals "tuple" = some none)
    (ak0 : PySem.W.nsIn K mainGlobals "NONE" = some (some (.ref kq0))) (lk0 : K.lookup kq0 = some ⟨.type "tuple", kod0, .seq #[.int (0) tk0_0, .int (1) tk0_1] kn0, ksl0⟩)
    (ak1 : PySem.W.nsIn K mainGlobals "ALL" = some (some (.ref kq1))) (lk1 : K.lookup kq1 = some ⟨.type "tuple", kod1, .seq #[.int (1) tk1_0, .int (1) tk1_1] kn1, ksl1⟩)
    : ∃ fd : FuncData, (∀ (s : Shared) (u : Value), BindsTo s fd ⟨[u], []⟩ [("_law_script", u)]) ∧ ∀ base : Heap, K.In base → base.Ns mainGlobals mg → ∃ cl : Nat → Addr, FnOk P w K mg base (L2.CX P w) 4 fa fd ["_law_script"] (spOf K cl 1 sem_law) := by
  have e := hfa.symm.trans (PySem.W.mg_of X G a9)
  cases e
  have F0 := fun_mk (st := st_common_divisor) l0 c0 k0
  have b0 := F0.binds (ps := ["one", "other"]) fun _ _ _ _ _ _ us hl => match us, hl with | [_, _], _ => rfl
  have F1 := fun_mk (st := st_is_number) l1 c1 k1
  have b1 := F1.binds (ps := ["thing"]) fun _ _ _ _ _ _ us hl => match us, hl with | [_], _ => rfl
  have F2 := fun_mk (st := st_fraction) l2 c2 k2
  have b2 := F2.binds (ps := ["top", "bottom"]) fun _ _ _ _ _ _ us hl => match us, hl with | [_, _], _ => rfl
  have F3 := fun_mk (st := st__law_cell) l3 c3 k3
  have b3 := F3.binds (ps := ["_law_script", "_law_k", "_law_many"]) fun _ _ _ _ _ _ us hl => match us, hl with | [_, _, _], _ => rfl
  have F4 := fun_mk (st := st__law_number) l4 c4 k4
  have b4 := F4.binds (ps := ["_law_script", "_law_k"]) fun _ _ _ _ _ _ us hl => match us, hl with | [_, _], _ => rfl
  have F5 := fun_mk (st := st__law_refused) l5 c5 k5
  have b5 := F5.binds (ps := ["_law_top", "_law_bottom"]) fun _ _ _ _ _ _ us hl => match us, hl with | [_, _], _ => rfl
  have F6 := fun_mk (st := st__law_whole) l6 c6 k6
  have b6 := F6.binds (ps := ["_law_found"]) fun _ _ _ _ _ _ us hl => match us, hl with | [_], _ => rfl
  have F7 := fun_mk (st := st__law_pair) l7 c7 k7
  have b7 := F7.binds (ps := ["_law_found"]) fun _ _ _ _ _ _ us hl => match us, hl with | [_], _ => rfl
  have F8 := fun_mk (st := st__law_divisor) l8 c8 k8
  have b8 := F8.binds (ps := ["_law_one", "_law_other"]) fun _ _ _ _ _ _ us hl => match us, hl with | [_, _], _ => rfl
  have F9 := fun_mk (st := st_law) l9 c9 k9
  have b9 := F9.binds (ps := ["_law_script"]) fun _ _ _ _ _ _ us hl => match us, hl with | [_], _ => rfl
  have T : Txt K mg (fun i => match i with | 2 => C2 | 0 => C0 | 3 => C3 | 4 => C4 | 1 => C1 | _ => 0) (fun i => match i with | 0 => f0 | 1 => f1 | 2 => f2 | 3 => f3 | 4 => f4 | 5 => f5 | 6 => f6 | 7 => f7 | 8 => f8 | 9 => fa | _ => 0) (fun i => match i with | 0 => kq0 | 1 => kq1 | _ => 0) (fun i => match i with | 0 => PySem.W.fnOf "common_divisor" "common_divisor" (defArgs st_common_divisor) (defBody st_common_divisor) (defScope st_common_divisor) .none kV0 dc0 pm0 an0 cd0 ct0 | 1 => PySem.W.fnOf "is_number" "is_number" (defArgs st_is_number) (defBody st_is_number) (defScope st_is_number) .none kV1 dc1 pm1 an1 cd1 ct1 | 2 => PySem.W.fnOf "fraction" "fraction" (defArgs st_fraction) (defBody st_fraction) (defScope st_fraction) .none kV2 dc2 pm2 an2 cd2 ct2 | 3 => PySem.W.fnOf "_law_cell" "_law_cell" (defArgs st__law_cell) (defBody st__law_cell) (defScope st__law_cell) .none kV3 dc3 pm3 an3 cd3 ct3 | 4 => PySem.W.fnOf "_law_number" "_law_number" (defArgs st__law_number) (defBody st__law_number) (defScope st__law_number) .none kV4 dc4 pm4 an4 cd4 ct4 | 5 => PySem.W.fnOf "_law_refused" "_law_refused" (defArgs st__law_refused) (defBody st__law_refused) (defScope st__law_refused) .none kV5 dc5 pm5 an5 cd5 ct5 | 6 => PySem.W.fnOf "_law_whole" "_law_whole" (defArgs st__law_whole) (defBody st__law_whole) (defScope st__law_whole) .none kV6 dc6 pm6 an6 cd6 ct6 | 7 => PySem.W.fnOf "_law_pair" "_law_pair" (defArgs st__law_pair) (defBody st__law_pair) (defScope st__law_pair) .none kV7 dc7 pm7 an7 cd7 ct7 | 8 => PySem.W.fnOf "_law_divisor" "_law_divisor" (defArgs st__law_divisor) (defBody st__law_divisor) (defScope st__law_divisor) .none kV8 dc8 pm8 an8 cd8 ct8 | 9 => PySem.W.fnOf "law" "law" (defArgs st_law) (defBody st_law) (defScope st_law) .none kV9 dc9 pm9 an9 cd9 ct9 | _ => PySem.W.fnOf "law" "law" (defArgs st_law) (defBody st_law) (defScope st_law) .none kV9 dc9 pm9 an9 cd9 ct9) := ⟨PySem.W.mg_none_of X G z_abs, PySem.W.mg_none_of X G z_int, PySem.W.mg_none_of X G z_isinstance, PySem.W.mg_none_of X G z_bool, PySem.W.mg_none_of X G z_len, PySem.W.mg_none_of X G z_ValueError, PySem.W.mg_none_of X G z_tuple, PySem.W.mg_of X G a0, F0, b0, PySem.W.mg_of X G a1, F1, b1, PySem.W.mg_of X G a2, F2, b2, PySem.W.mg_of X G a3, F3, b3, PySem.W.mg_of X G a4, F4, b4, PySem.W.mg_of X G a5, F5, b5, PySem.W.mg_of X G a6, F6, b6, PySem.W.mg_of X G a7, F7, b7, PySem.W.mg_of X G a8, F8, b8, PySem.W.mg_of X G a9, F9, b9, PySem.W.mg_of X G aC0, sC0, tC0, PySem.W.mg_of X G aC3, sC3, tC3, PySem.W.mg_of X G aC4, sC4, tC4, PySem.W.mg_of X G aC1, sC1, tC1, hC2, hC0, hC3, hC4, hC1, su2_LandError, su2_BadShares, su2_TooFine, su2_BadCells, su2_BadFraction, su2_ValueError, ss2, e1_2, e2_2, e3_2, e4_2, e5, e6, PySem.W.mg_of X G aC2, xC2, kC2, sC2, tC2, ⟨_, PySem.W.mg_of X G ak0, rfl⟩, (fun J H Q => rep_tupI (vs := [.int (0), .int (1)]) lk0 rfl rfl (by show 2 ≤ sizeLine; decide) (.cons ⟨_, rfl⟩ (.cons ⟨_, rfl⟩ .nil)) (fun _ _ => (.cons (.int _) (.cons (.int _) .nil))) H Q), ⟨_, PySem.W.mg_of X G ak1, rfl⟩, (fun J H Q => rep_tupI (vs := [.int (1), .int (1)]) lk1 rfl rfl (by show 2 ≤ sizeLine; decide) (.cons ⟨_, rfl⟩ (.cons ⟨_, rfl⟩ .nil)) (fun _ _ => (.cons (.int _) (.cons (.int _) .nil))) H Q)⟩
  exact ⟨_, fun s u => .of_eq rfl, fun base _ _ => ⟨_, ok_law T⟩⟩
end K21
open PySem PySem.W PyProof.Rows
set_option maxRecDepth 100000 in
set_option maxHeartbeats 8000000 in
theorem PySem.Challenge.cw_landroll_k21_lowest_fractions_holds : PySem.Challenge.rw_landroll_k21_lowest_fractions.Holds := by
  w_on; o_law; k_head; (case hw => w_witness2)
  k_fill
  refine DV.dv_walk (l := PySem.Challenge.rw_landroll_k21_lowest_fractions) (k := 4) (x := "_law_script") (sem := K21.sem_law) rfl rfl ⟨rfl, by decide, by decide⟩ (fun w h Y => PySem.W.kIn_of Y) ?F K21.law_true
  case F =>
    intro w mg fa h KX G hmg
    refine' K21.all_mk KX G hmg ?a0 ?l0 ?c0 ?k0 ?a1 ?l1 ?c1 ?k1 ?a2 ?l2 ?c2 ?k2 ?a3 ?l3 ?c3 ?k3 ?a4 ?l4 ?c4 ?k4 ?a5 ?l5 ?c5 ?k5 ?a6 ?l6 ?c6 ?k6 ?a7 ?l7 ?c7 ?k7 ?a8 ?l8 ?c8 ?k8 ?a9 ?l9 ?c9 ?k9 ?aC2 ?xC2 ?kC2 ?sC2 ?tC2 ?aC0 ?sC0 ?tC0 ?aC3 ?sC3 ?tC3 ?aC4 ?sC4 ?tC4 ?aC1 ?sC1 ?tC1 ?hC2 ?hC0 ?hC3 ?hC4 ?hC1 ?su2_LandError ?su2_BadShares ?su2_TooFine ?su2_BadCells ?su2_BadFraction ?su2_ValueError ?ss2 ?e1_2 ?e2_2 ?e3_2 ?e4_2 ?e5 ?e6 ?z_abs ?z_int ?z_isinstance ?z_bool ?z_len ?z_ValueError ?z_tuple ?ak0 ?lk0 ?ak1 ?lk1
    (case a0 => k_is)
    (case l0 => k_is)
    (case c0 => k_is)
    (case k0 => k_is)
    (case a1 => k_is)
    (case l1 => k_is)
    (case c1 => k_is)
    (case k1 => k_is)
    (case a2 => k_is)
    (case l2 => k_is)
    (case c2 => k_is)
    (case k2 => k_is)
    (case a3 => k_is)
    (case l3 => k_is)
    (case c3 => k_is)
    (case k3 => k_is)
    (case a4 => k_is)
    (case l4 => k_is)
    (case c4 => k_is)
    (case k4 => k_is)
    (case a5 => k_is)
    (case l5 => k_is)
    (case c5 => k_is)
    (case k5 => k_is)
    (case a6 => k_is)
    (case l6 => k_is)
    (case c6 => k_is)
    (case k6 => k_is)
    (case a7 => k_is)
    (case l7 => k_is)
    (case c7 => k_is)
    (case k7 => k_is)
    (case a8 => k_is)
    (case l8 => k_is)
    (case c8 => k_is)
    (case k8 => k_is)
    (case a9 => k_is)
    (case l9 => k_is)
    (case c9 => k_is)
    (case k9 => k_is)
    (case aC2 => k_is)
    (case xC2 => k_exc)
    (case kC2 => k_is)
    (case sC2 => k_is)
    (case tC2 => k_is)
    (case aC0 => k_is)
    (case sC0 => k_is)
    (case tC0 => k_is)
    (case aC3 => k_is)
    (case sC3 => k_is)
    (case tC3 => k_is)
    (case aC4 => k_is)
    (case sC4 => k_is)
    (case tC4 => k_is)
    (case aC1 => k_is)
    (case sC1 => k_is)
    (case tC1 => k_is)
    (case hC2 => k_is)
    (case hC0 => k_is)
    (case hC3 => k_is)
    (case hC4 => k_is)
    (case hC1 => k_is)
    (case su2_LandError => k_is)
    (case su2_BadShares => k_is)
    (case su2_TooFine => k_is)
    (case su2_BadCells => k_is)
    (case su2_BadFraction => k_is)
    (case su2_ValueError => k_is)
    (case ss2 => k_is)
    (case e1_2 => k_is)
    (case e2_2 => k_is)
    (case e3_2 => k_is)
    (case e4_2 => k_is)
    (case e5 => k_is)
    (case e6 => k_is)
    (case z_abs => k_is)
    (case z_int => k_is)
    (case z_isinstance => k_is)
    (case z_bool => k_is)
    (case z_len => k_is)
    (case z_ValueError => k_is)
    (case z_tuple => k_is)
    (case ak0 => k_is)
    (case lk0 => k_is)
    (case ak1 => k_is)
    (case lk1 => k_is)

