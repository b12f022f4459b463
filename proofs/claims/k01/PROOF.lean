import PyProof.Rows.All
import Wide.All
import OpenK.AllK
import Wide.FinOn
import PyProof.EqAt
import PyProof.EqKinds
import PyProof.TupleCall
import HandS.ForMost
import HandS.ForExc
import HandS.Walk
import HandS.Wide
import HandS.CallSlots
import HandS.WideBits
import HandS.IsInst
import HandS.TupAny
import HandS.Strs
import HandS.EndBits
import PySem.Challenge.RW_oddsnet_k01_a_divisor
set_option Elab.async false
set_option linter.all false
set_option maxRecDepth 100000
set_option maxHeartbeats 4000000
namespace L2.VL
open PySem PySem.Spec PyProof.Rows

/-! ## data and answers -/
inductive D where
  | non | bl (b : Bool) | int (i : Int) | str (x : Str) | tup (ds : List D) | lst (ds : List D) | dic (kvs : List (Key × D))
inductive R (α : Type) where
  | ok (a : α) | ex (c : Str) | bad
def R.bind {α β : Type} : R α → (α → R β) → R β
  | .ok a, f => f a
  | .ex c, _ => .ex c
  | .bad, _ => .bad
@[simp] theorem R.bind_ok {α β : Type} (a : α) (f : α → R β) : (R.ok a).bind f = f a := rfl
@[simp] theorem R.bind_ex {α β : Type} (c : Str) (f : α → R β) : (R.ex c : R α).bind f = .ex c := rfl
@[simp] theorem R.bind_bad {α β : Type} (f : α → R β) : (R.bad : R α).bind f = .bad := rfl

/-! ## how a heap bears data -/
mutual
inductive Rep (c : Bool) (K : PySem.W.Frag) (B : Hp) : V → D → Prop
  | non : Rep c K B .non .non
  | bl (b : Bool) : Rep c K B (.bl b) (.bl b)
  | int (i : Int) : Rep c K B (.int i) (.int i)
  | str (x : Str) : Rep c K B (.str x) (.str x)
  | lst {a : Addr} {vs : List V} {ds : List D} : Rd B a (.lst vs) → Reps c K B vs ds → Rep c K B (.ref a) (.lst ds)
  | kls {a : Addr} {vs : List V} {ds : List D} : c = true → SqL K B a vs → Reps c K B vs ds → Rep c K B (.ref a) (.lst ds)
  | tup {a : Addr} {vs : List V} {ds : List D} : Rd B a (.tup vs) → Reps c K B vs ds → Rep c K B (.ref a) (.tup ds)
  | dic {a : Addr} {kvs : List (Key × V)} {kds : List (Key × D)} : Rd B a (.dK kvs) → RepKs c K B kvs kds → Rep c K B (.ref a) (.dic kds)
inductive Reps (c : Bool) (K : PySem.W.Frag) (B : Hp) : List V → List D → Prop
  | nil : Reps c K B [] []
  | cons {v : V} {vs : List V} {d : D} {ds : List D} : Rep c K B v d → Reps c K B vs ds → Reps c K B (v :: vs) (d :: ds)
inductive RepKs (c : Bool) (K : PySem.W.Frag) (B : Hp) : List (Key × V) → List (Key × D) → Prop
  | nil : RepKs c K B [] []
  | cons {k : Key} {v : V} {kvs : List (Key × V)} {d : D} {kds : List (Key × D)} : Rep c K B v d → RepKs c K B kvs kds → RepKs c K B ((k, v) :: kvs) ((k, d) :: kds)
end

theorem same_sqT {K : PySem.W.Frag} {H H' : Hp} {a : Addr} {xs : List V} (e : Same H H') (h : SqT K H a xs) : SqT K H' a xs := by
  rcases h with (h | ⟨o, h⟩) | h
  · exact .inl (.inl (e _ _ h))
  · exact .inl (.inr ⟨o, e _ _ h⟩)
  · exact .inr h
theorem same_rd {H H' : Hp} {a : Addr} {u : HO} (e : Same H H') (h : Rd H a u) : Rd H' a u := by
  rcases h with h | ⟨o, h⟩
  · exact .inl (e _ _ h)
  · exact .inr ⟨o, e _ _ h⟩
mutual
theorem Rep.mono {c : Bool} {K : PySem.W.Frag} {B B' : Hp} (s : Same B B') : ∀ {v : V} {d : D}, Rep c K B v d → Rep c K B' v d
  | _, _, .non => .non
  | _, _, .bl b => .bl b
  | _, _, .int i => .int i
  | _, _, .str x => .str x
  | _, _, .lst h r => .lst (same_rd s h) (Reps.mono s r)
  | _, _, .kls hc h r => .kls hc (s.seq h) (Reps.mono s r)
  | _, _, .tup h r => .tup (same_rd s h) (Reps.mono s r)
  | _, _, .dic h r => .dic (same_rd s h) (RepKs.mono s r)
theorem Reps.mono {c : Bool} {K : PySem.W.Frag} {B B' : Hp} (s : Same B B') : ∀ {vs : List V} {ds : List D}, Reps c K B vs ds → Reps c K B' vs ds
  | _, _, .nil => .nil
  | _, _, .cons h r => .cons (Rep.mono s h) (Reps.mono s r)
theorem RepKs.mono {c : Bool} {K : PySem.W.Frag} {B B' : Hp} (s : Same B B') : ∀ {vs : List (Key × V)} {ds : List (Key × D)}, RepKs c K B vs ds → RepKs c K B' vs ds
  | _, _, .nil => .nil
  | _, _, .cons h r => .cons (Rep.mono s h) (RepKs.mono s r)
end
mutual
theorem Rep.wide {K : PySem.W.Frag} {B : Hp} : ∀ {v : V} {d : D}, Rep false K B v d → Rep true K B v d
  | _, _, .non => .non
  | _, _, .bl b => .bl b
  | _, _, .int i => .int i
  | _, _, .str x => .str x
  | _, _, .lst h r => .lst h (Reps.wide r)
  | _, _, .tup h r => .tup h (Reps.wide r)
  | _, _, .dic h r => .dic h (RepKs.wide r)
theorem Reps.wide {K : PySem.W.Frag} {B : Hp} : ∀ {vs : List V} {ds : List D}, Reps false K B vs ds → Reps true K B vs ds
  | _, _, .nil => .nil
  | _, _, .cons h r => .cons (Rep.wide h) (Reps.wide r)
theorem RepKs.wide {K : PySem.W.Frag} {B : Hp} : ∀ {vs : List (Key × V)} {ds : List (Key × D)}, RepKs false K B vs ds → RepKs true K B vs ds
  | _, _, .nil => .nil
  | _, _, .cons h r => .cons (Rep.wide h) (RepKs.wide r)
end
theorem Rep.sq {c : Bool} {K : PySem.W.Frag} {B : Hp} {v : V} {ds : List D} (r : Rep c K B v (.lst ds)) : ∃ a vs, v = .ref a ∧ SqL K B a vs ∧ Reps c K B vs ds := by
  cases r with
  | lst h q => exact ⟨_, _, rfl, .inl h, q⟩
  | kls _ h q => exact ⟨_, _, rfl, h, q⟩
theorem Rep.rd {K : PySem.W.Frag} {B : Hp} {v : V} {ds : List D} (r : Rep false K B v (.lst ds)) : ∃ a vs, v = .ref a ∧ Rd B a (.lst vs) ∧ Reps false K B vs ds := by
  cases r with
  | lst h q => exact ⟨_, _, rfl, h, q⟩
  | kls z _ _ => cases z
section
variable {c : Bool} {K : PySem.W.Frag} {B B' : Hp}
theorem Reps.length : ∀ {vs : List V} {ds : List D}, Reps c K B vs ds → vs.length = ds.length
  | _, _, .nil => rfl
  | _, _, .cons _ r => congrArg (· + 1) r.length
theorem Reps.get : ∀ {vs : List V} {ds : List D} {i : Nat} {d : D}, Reps c K B vs ds → ds[i]? = some d → ∃ v, vs[i]? = some v ∧ Rep c K B v d
  | _, _, _, _, .nil, h => by simp at h
  | _, _, 0, _, .cons q _, h => by
    have e := Option.some.inj (show some _ = some _ from h)
    subst e
    exact ⟨_, rfl, q⟩
  | _, _, i + 1, _, .cons _ r, h => Reps.get (i := i) r (by simpa using h)
theorem Reps.getV : ∀ {vs : List V} {ds : List D} {i : Nat} {v : V}, Reps c K B vs ds → vs[i]? = some v → ∃ d, ds[i]? = some d ∧ Rep c K B v d
  | _, _, _, _, .nil, h => by simp at h
  | _, _, 0, _, .cons q _, h => by
    have e := Option.some.inj (show some _ = some _ from h)
    subst e
    exact ⟨_, rfl, q⟩
  | _, _, i + 1, _, .cons _ r, h => Reps.getV (i := i) r (by simpa using h)
theorem Reps.append : ∀ {vs us : List V} {ds es : List D}, Reps c K B vs ds → Reps c K B us es → Reps c K B (vs ++ us) (ds ++ es)
  | _, _, _, _, .nil, s => s
  | _, _, _, _, .cons q r, s => .cons q (Reps.append r s)
theorem Reps.take : ∀ {vs : List V} {ds : List D} (n : Nat), Reps c K B vs ds → Reps c K B (vs.take n) (ds.take n)
  | _, _, 0, _ => .nil
  | _, _, _ + 1, .nil => .nil
  | _, _, n + 1, .cons q r => .cons q (Reps.take n r)
theorem Reps.drop : ∀ {vs : List V} {ds : List D} (n : Nat), Reps c K B vs ds → Reps c K B (vs.drop n) (ds.drop n)
  | _, _, 0, r => r
  | _, _, _ + 1, .nil => .nil
  | _, _, n + 1, .cons _ r => Reps.drop n r
theorem Reps.set {v : V} {d : D} (h : Rep c K B v d) : ∀ {vs : List V} {ds : List D} (n : Nat), Reps c K B vs ds → Reps c K B (vs.set n v) (ds.set n d)
  | _, _, _, .nil => .nil
  | _, _, 0, .cons _ r => .cons h r
  | _, _, n + 1, .cons q r => .cons q (Reps.set h n r)
theorem Reps.reverse : ∀ {vs : List V} {ds : List D}, Reps c K B vs ds → Reps c K B vs.reverse ds.reverse
  | _, _, .nil => .nil
  | _, _, .cons q r => by
    rw [List.reverse_cons, List.reverse_cons]
    exact (Reps.reverse r).append (.cons q .nil)
end

/-! ## two heaps: what stays for good (B), all that is tracked (H) -/
structure Ext (B H B' H' : Hp) : Prop where
  b : Same B B'
  h : Same H H'
  s : Same B' H'
  n : ∀ p, H p ≠ none → B' p = B p
theorem Ext.refl {B H : Hp} (s : Same B H) : Ext B H B H := ⟨Same.refl _, Same.refl _, s, fun _ _ => rfl⟩
theorem Ext.trans {B H B1 H1 B2 H2 : Hp} (x : Ext B H B1 H1) (y : Ext B1 H1 B2 H2) : Ext B H B2 H2 :=
  ⟨x.b.trans y.b, x.h.trans y.h, y.s, fun p hp => by
    have e1 := x.n p hp
    have e2 : H1 p ≠ none := by
      cases e : H p with
      | none => exact absurd e hp
      | some o => rw [x.h p o e]; exact fun z => by cases z
    rw [y.n p e2, e1]⟩
theorem same_upd {H : Hp} {p : Addr} {o : HO} (h : H p = none) : Same H (upd H p o) := fun b x e => by
  rw [upd_ne (ne_of_none e h)]
  exact e
theorem same_upd2 {B H : Hp} {p : Addr} {o : HO} (s : Same B H) : Same (upd B p o) (upd H p o) := fun b x e => by
  by_cases hb : b = p
  · subst hb
    rw [upd_same] at e ⊢
    exact e
  · rw [upd_ne hb] at e ⊢
    exact s b x e
theorem same_updH {B H : Hp} {p : Addr} {o : HO} (s : Same B H) (h : B p = none) : Same B (upd H p o) := fun b x e => by
  rw [upd_ne (ne_of_none e h)]
  exact s b x e
/-- a new thing that stays -/
theorem Ext.newB {B H : Hp} {p : Addr} {o : HO} (s : Same B H) (h : H p = none) : Ext B H (upd B p o) (upd H p o) :=
  ⟨same_upd (s.free h), same_upd h, same_upd2 s, fun q hq => by
    rw [upd_ne]
    intro z
    subst z
    exact hq h⟩
/-- a new thing that may be changed -/
theorem Ext.newH {B H : Hp} {p : Addr} {o : HO} (s : Same B H) (h : H p = none) : Ext B H B (upd H p o) :=
  ⟨Same.refl _, same_upd h, same_updH s (s.free h), fun q hq => rfl⟩

/-- a list or dict of one's own at p; what it holds stays -/
def Own (K : PySem.W.Frag) (B H : Hp) (p : Addr) : D → Prop
  | .lst ds => ∃ vs, H p = some (.lst vs) ∧ Reps false K B vs ds
  | .dic kds => ∃ kvs, H p = some (.dK kvs) ∧ RepKs false K B kvs kds
  | _ => False
theorem Own.mono {K : PySem.W.Frag} {B H B' H' : Hp} {p : Addr} : ∀ {d : D}, Own K B H p d → Same B B' → Same H H' → Own K B' H' p d
  | .lst _, ⟨vs, h, r⟩, sb, sh => ⟨vs, sh _ _ h, r.mono sb⟩
  | .dic _, ⟨vs, h, r⟩, sb, sh => ⟨vs, sh _ _ h, r.mono sb⟩
theorem Own.isSome {K : PySem.W.Frag} {B H : Hp} {p : Addr} : ∀ {d : D}, Own K B H p d → H p ≠ none
  | .lst _, ⟨vs, h, r⟩ => by rw [h]; exact fun z => by cases z
  | .dic _, ⟨vs, h, r⟩ => by rw [h]; exact fun z => by cases z
/-- it is made to stay -/
theorem Own.freeze {K : PySem.W.Frag} {B H : Hp} {p : Addr} (s : Same B H) (hb : B p = none) : ∀ {d : D}, Own K B H p d → ∃ o, H p = some o ∧ Same (upd B p o) H ∧ Same B (upd B p o) ∧ Rep false K (upd B p o) (.ref p) d
  | .lst _, ⟨vs, h, r⟩ => ⟨_, h, fun b x e => by
      by_cases z : b = p
      · subst z
        rw [upd_same] at e
        rw [h, e]
      · rw [upd_ne z] at e
        exact s _ _ e, same_upd hb, .lst (.inl upd_same) (r.mono (same_upd hb))⟩
  | .dic _, ⟨vs, h, r⟩ => ⟨_, h, fun b x e => by
      by_cases z : b = p
      · subst z
        rw [upd_same] at e
        rw [h, e]
      · rw [upd_ne z] at e
        exact s _ _ e, same_upd hb, .dic (.inl upd_same) (r.mono (same_upd hb))⟩
theorem Own.rep {K : PySem.W.Frag} {B H : Hp} {p : Addr} (s : Same B H) : ∀ {d : D}, Own K B H p d → Rep false K H (.ref p) d
  | .lst _, ⟨vs, h, r⟩ => .lst (.inl h) (r.mono s)
  | .dic _, ⟨vs, h, r⟩ => .dic (.inl h) (r.mono s)

/-! ## slots -/
inductive Md where
  | un | im | ar | ow
def Slot (K : PySem.W.Frag) (H0 B H : Hp) : Md → Option V → D → Prop
  | .un, _, _ => True
  | .im, some v, d => Rep false K B v d
  | .ar, some v, d => Rep true K H0 v d
  | .ow, some (.ref p), d => H0 p = none ∧ B p = none ∧ Own K B H p d
  | _, _, _ => False
def Slots (K : PySem.W.Frag) (H0 B H : Hp) : List Md → List (Option V) → List D → Prop
  | [], [], [] => True
  | m :: ms, x :: xs, d :: ds => Slot K H0 B H m x d ∧ Slots K H0 B H ms xs ds
  | _, _, _ => False
structure Sta (K : PySem.W.Frag) (G : List Md) (B0 H0 : Hp) (sg : St) (e : List D) (B H : Hp) : Prop where
  ext : Ext B0 H0 B H
  sl : Slots K H0 B H G sg e
  dis : ∀ (i j : Nat) (p : Addr), G[i]? = some Md.ow → G[j]? = some Md.ow → sg[i]? = some (some (V.ref p)) → sg[j]? = some (some (V.ref p)) → i = j
section
variable {K : PySem.W.Frag} {H0 B0 B H B' H' : Hp} {G : List Md} {sg : St} {e : List D}
theorem Slot.mono (sb : Same B B') (sh : Same H H') (hn : ∀ p, H p ≠ none → B' p = B p) : ∀ {m : Md} {x : Option V} {d : D}, Slot K H0 B H m x d → Slot K H0 B' H' m x d
  | .un, _, _, _ => trivial
  | .im, some _, _, h => Rep.mono sb h
  | .ar, some _, _, h => h
  | .ow, some (.ref p), _, ⟨h1, h2, h3⟩ => ⟨h1, (hn p h3.isSome).trans h2, h3.mono sb sh⟩
theorem Slots.mono (sb : Same B B') (sh : Same H H') (hn : ∀ p, H p ≠ none → B' p = B p) : ∀ {ms : List Md} {xs : List (Option V)} {ds : List D}, Slots K H0 B H ms xs ds → Slots K H0 B' H' ms xs ds
  | [], [], [], _ => trivial
  | _ :: _, _ :: _, _ :: _, ⟨h, r⟩ => ⟨Slot.mono sb sh hn h, Slots.mono sb sh hn r⟩
theorem Sta.later (s : Sta K G B0 H0 sg e B H) (x : Ext B H B' H') : Sta K G B0 H0 sg e B' H' := ⟨s.ext.trans x, Slots.mono x.b x.h x.n s.sl, s.dis⟩
theorem Slots.get : ∀ {ms : List Md} {xs : List (Option V)} {ds : List D} {i : Nat} {m : Md}, Slots K H0 B H ms xs ds → ms[i]? = some m → ∃ x d, xs[i]? = some x ∧ ds[i]? = some d ∧ Slot K H0 B H m x d
  | [], [], [], _, _, _, h => by simp at h
  | _ :: _, _ :: _, _ :: _, 0, _, ⟨q, _⟩, h => by
    have e := Option.some.inj (show some _ = some _ from h)
    subst e
    exact ⟨_, _, rfl, rfl, q⟩
  | _ :: _, _ :: _, _ :: _, i + 1, _, ⟨_, r⟩, h => by
    obtain ⟨x, d, h1, h2, h3⟩ := Slots.get (i := i) r (by simpa using h)
    exact ⟨x, d, by simpa using h1, by simpa using h2, h3⟩
theorem Slots.set {m : Md} {x : Option V} {d : D} (h : Slot K H0 B H m x d) : ∀ {ms : List Md} {xs : List (Option V)} {ds : List D} (i : Nat), Slots K H0 B H ms xs ds → Slots K H0 B H (ms.set i m) (xs.set i x) (ds.set i d)
  | [], [], [], _, _ => trivial
  | _ :: _, _ :: _, _ :: _, 0, ⟨_, r⟩ => ⟨h, r⟩
  | _ :: _, _ :: _, _ :: _, i + 1, ⟨q, r⟩ => ⟨q, Slots.set h i r⟩
theorem Slots.len : ∀ {ms : List Md} {xs : List (Option V)} {ds : List D}, Slots K H0 B H ms xs ds → xs.length = ms.length ∧ ds.length = ms.length
  | [], [], [], _ => ⟨rfl, rfl⟩
  | _ :: _, _ :: _, _ :: _, ⟨_, r⟩ => ⟨congrArg (· + 1) r.len.1, congrArg (· + 1) r.len.2⟩
end
end L2.VL
set_option Elab.async false
set_option linter.all false
set_option maxRecDepth 100000
set_option maxHeartbeats 4000000
namespace L2.VL
open PySem PySem.Spec PyProof.Rows

/-! ## what an expression is worth -/
inductive Tg where
  | im | ar | lo | fr | oc
def RepT (K : PySem.W.Frag) (H0 H B' H' : Hp) : Tg → V → D → Prop
  | .im, v, d => Rep false K B' v d
  | .ar, v, d => Rep true K H0 v d
  | .lo, v, d => Rep true K H' v d
  | .fr, v, d => ∃ p, v = .ref p ∧ H p = none ∧ B' p = none ∧ Own K B' H' p d
  | .oc, v, d => ∃ p, v = .ref p ∧ Own K B' H' p d
section
variable {K : PySem.W.Frag} {H0 H H1 B1 B2 H2 : Hp} {m : Tg} {v : V} {d : D}
theorem RepT.later (r : RepT K H0 H B1 H1 m v d) (x : Ext B1 H1 B2 H2) : RepT K H0 H B2 H2 m v d := by
  cases m with
  | im => exact Rep.mono x.b r
  | ar => exact r
  | lo => exact Rep.mono x.h r
  | fr =>
    obtain ⟨p, h1, h2, h3, h4⟩ := r
    exact ⟨p, h1, h2, (x.n p h4.isSome).trans h3, h4.mono x.b x.h⟩
  | oc =>
    obtain ⟨p, h1, h4⟩ := r
    exact ⟨p, h1, h4.mono x.b x.h⟩
theorem RepT.earlier (r : RepT K H0 H1 B2 H2 m v d) (x : Same H H1) : RepT K H0 H B2 H2 m v d := by
  cases m with
  | im => exact r
  | ar => exact r
  | lo => exact r
  | fr =>
    obtain ⟨p, h1, h2, h3, h4⟩ := r
    exact ⟨p, h1, x.free h2, h3, h4⟩
  | oc => exact r
theorem RepT.all (r : RepT K H0 H B2 H2 m v d) (s : Same B2 H2) (s0 : Same H0 H2) : Rep true K H2 v d := by
  cases m with
  | im => exact (Rep.mono s r).wide
  | ar => exact Rep.mono s0 r
  | lo => exact r
  | fr =>
    obtain ⟨p, h1, h2, h3, h4⟩ := r
    subst h1
    exact (h4.rep s).wide
  | oc =>
    obtain ⟨p, h1, h4⟩ := r
    subst h1
    exact (h4.rep s).wide
end
def KE (K : PySem.W.Frag) (mg : Str → Option Value) (W : WX) (sg : St) (H0 B H : Hp) (Q : VK) (m : Tg) : R D → Prop
  | .ok d => ∀ B' H' v, Ext B H B' H' → RepT K H0 H B' H' m v d → Q v H'
  | .ex c => ∀ B' H' a, Ext B H B' H' → mg c = some (.ref a) → W (.ref a) none sg H'
  | .bad => False
def vE (K : PySem.W.Frag) (mg : Str → Option Value) (G : List Md) (W : WX) (m : Tg) (f : List D → R D) : TE := fun sg H Q =>
  ∃ B0 H0 B e, Sta K G B0 H0 sg e B H ∧ KE K mg W sg H0 B H Q m (f e)
def KT (mg : Str → Option Value) (W : WX) (sg : St) (B H : Hp) (Q : Bool → Hp → Prop) : R Bool → Prop
  | .ok b => ∀ B' H', Ext B H B' H' → Q b H'
  | .ex c => ∀ B' H' a, Ext B H B' H' → mg c = some (.ref a) → W (.ref a) none sg H'
  | .bad => False
def vT (K : PySem.W.Frag) (mg : Str → Option Value) (G : List Md) (W : WX) (f : List D → R Bool) : TT := fun sg H Q =>
  ∃ B0 H0 B e, Sta K G B0 H0 sg e B H ∧ KT mg W sg B H Q (f e)
def RepTs (K : PySem.W.Frag) (H0 H B' H' : Hp) : List Tg → List V → List D → Prop
  | [], [], [] => True
  | m :: ms, v :: vs, d :: ds => RepT K H0 H B' H' m v d ∧ RepTs K H0 H B' H' ms vs ds
  | _, _, _ => False
def KA (K : PySem.W.Frag) (mg : Str → Option Value) (W : WX) (sg : St) (H0 B H : Hp) (Q : List V → Hp → Prop) (ms : List Tg) : R (List D) → Prop
  | .ok ds => ∀ B' H' vs, Ext B H B' H' → RepTs K H0 H B' H' ms vs ds → Q vs H'
  | .ex c => ∀ B' H' a, Ext B H B' H' → mg c = some (.ref a) → W (.ref a) none sg H'
  | .bad => False
def vA (K : PySem.W.Frag) (mg : Str → Option Value) (G : List Md) (W : WX) (ms : List Tg) (f : List D → R (List D)) : TA := fun sg H Q =>
  ∃ B0 H0 B e, Sta K G B0 H0 sg e B H ∧ KA K mg W sg H0 B H Q ms (f e)
theorem RepTs.later {K : PySem.W.Frag} {H0 H H1 B1 B2 H2 : Hp} (x : Ext B1 H1 B2 H2) : ∀ {ms : List Tg} {vs : List V} {ds : List D}, RepTs K H0 H B1 H1 ms vs ds → RepTs K H0 H B2 H2 ms vs ds
  | [], [], [], _ => trivial
  | _ :: _, _ :: _, _ :: _, ⟨h, r⟩ => ⟨h.later x, RepTs.later x r⟩
theorem RepTs.earlier {K : PySem.W.Frag} {H0 H H1 B2 H2 : Hp} (x : Same H H1) : ∀ {ms : List Tg} {vs : List V} {ds : List D}, RepTs K H0 H1 B2 H2 ms vs ds → RepTs K H0 H B2 H2 ms vs ds
  | [], [], [], _ => trivial
  | _ :: _, _ :: _, _ :: _, ⟨h, r⟩ => ⟨h.earlier x, RepTs.earlier x r⟩

theorem pe_weak {X : Cx} {e : Expr} {t t' : TE} (h : PE X e t) (w : ∀ sg H Q, t' sg H Q → t sg H Q) : PE X e t' := ⟨fun pins s σ H Q I q => h.run pins s σ H Q I (w σ H Q q)⟩
theorem pt_weak {X : Cx} {e : Expr} {t t' : TT} (h : PT X e t) (w : ∀ sg H Q, t' sg H Q → t sg H Q) : PT X e t' := ⟨fun pins s σ H Q I q => h.run pins s σ H Q I (w σ H Q q)⟩
theorem pw_weak {X : Cx} {e : Expr} {t t' : TT} (h : PW X e t) (w : ∀ sg H Q, t' sg H Q → t sg H Q) : PW X e t' := ⟨fun wh pins s σ H Q I q => h.run wh pins s σ H Q I (w σ H Q q)⟩
theorem pa_weak {X : Cx} {es : List Expr} {t t' : TA} (h : PA X es t) (w : ∀ sg H Q, t' sg H Q → t sg H Q) : PA X es t' := ⟨fun pos pins s σ H Q I q => h.run pos pins s σ H Q I (w σ H Q q)⟩
theorem ps_weak {X : Cx} {st : Stmt} {t t' : TS} (h : PS X st t) (w : ∀ D sg H, t' D sg H → t D sg H) : PS X st t' := ⟨fun pins s σ H D I q => h.run pins s σ H D I (w D σ H q)⟩
theorem pss_weak {X : Cx} {st : List Stmt} {t t' : TS} (h : PSs X st t) (w : ∀ D sg H, t' D sg H → t D sg H) : PSs X st t' := ⟨fun pins s σ H D I q => h.run pins s σ H D I (w D σ H q)⟩

section
variable {K : PySem.W.Frag} {mg : Str → Option Value} {G : List Md} {W : WX} {sg : St} {H H0 B0 B B1 H1 : Hp} {Q : VK} {e : List D}
/-- the same continuation, later -/
theorem KE.later {m : Tg} {r : R D} (k : KE K mg W sg H0 B H Q m r) (x : Ext B H B1 H1) : KE K mg W sg H0 B1 H1 Q m r := by
  cases r with
  | ok d => exact fun B' H' v y r => k B' H' v (x.trans y) (r.earlier x.h)
  | ex c => exact fun B' H' a y hm => k B' H' a (x.trans y) hm
  | bad => exact k
/-- one expression, then what hangs on it -/
theorem seq1 {α : Type} {fa : List D → R D} {kk : D → R α} {ma : Tg} {P : R α → Prop} (S : Sta K G B0 H0 sg e B H) {Rr : V → Hp → Prop}
    (h : P ((fa e).bind kk)) (hx : ∀ c, P (.ex c) → ∀ B' H' a, Ext B H B' H' → mg c = some (.ref a) → W (.ref a) none sg H') (hb : ¬ P .bad)
    (fin : ∀ B1 H1 x d, Ext B H B1 H1 → Sta K G B0 H0 sg e B1 H1 → RepT K H0 H B1 H1 ma x d → P (kk d) → Rr x H1) :
    vE K mg G W ma fa sg H Rr := by
  refine ⟨B0, H0, B, e, S, ?_⟩
  cases ea : fa e with
  | bad => rw [ea] at h; exact (hb h).elim
  | ex c => rw [ea] at h; exact hx c h
  | ok d =>
    rw [ea] at h
    exact fun B1 H1 x x1 r => fin B1 H1 x d x1 (S.later x1) r h
theorem KE.ex_of {m : Tg} {c : Str} (k : KE K mg W sg H0 B H Q m (.ex c)) : ∀ B' H' a, Ext B H B' H' → mg c = some (.ref a) → W (.ref a) none sg H' := k
end

/-! ### names, constants -/
def ofO {α : Type} : Option α → R α
  | some a => .ok a
  | none => .bad
@[simp] theorem ofO_some {α : Type} (a : α) : ofO (some a) = .ok a := rfl
@[simp] theorem ofO_none {α : Type} : ofO (none : Option α) = .bad := rfl
@[simp] def eVar (i : Nat) (e : List D) : R D := ofO e[i]?
@[simp] def eC (d : D) (_ : List D) : R D := .ok d
def flatD : D → Bool
  | .tup _ => false | .lst _ => false | .dic _ => false | _ => true
@[simp] theorem flatD_non : flatD .non = true := rfl
@[simp] theorem flatD_bl (b : Bool) : flatD (.bl b) = true := rfl
@[simp] theorem flatD_int (i : Int) : flatD (.int i) = true := rfl
@[simp] theorem flatD_str (x : Str) : flatD (.str x) = true := rfl
@[simp] def eFlat (f : List D → R D) (e : List D) : R D := (f e).bind fun d => if flatD d then .ok d else .bad
section
variable {X : Cx} {G : List Md} {W : WX} {pos : Pos} {e : Expr} {f : List D → R D} {m : Tg}
theorem flat_rep {c c' : Bool} {K : PySem.W.Frag} {B B' : Hp} {v : V} {d : D} (r : Rep c K B v d) (h : flatD d = true) : Rep c' K B' v d := by
  cases r with
  | non => exact .non
  | bl b => exact .bl b
  | int i => exact .int i
  | str x => exact .str x
  | lst _ _ => cases h
  | kls _ _ _ => cases h
  | tup _ _ => cases h
  | dic _ _ => cases h
theorem ve_im {i : Nat} {x : Str} (hG : G[i]? = some .im := by rfl) (hN : X.N[i]? = some x := by rfl) (hv : Vis X.env.scope x := by first | exact Or.inl rfl | exact Or.inr (Or.inl rfl) | exact Or.inr (Or.inr rfl)) (hd : (x == ("__debug__" : Str)) = false := by decide)
    (hcd : (x == ("__classdict__" : Str)) = false := by decide) : PE X (.Name x pos) (vE X.K X.mg G W .im (eVar i)) := by
  refine pe_weak (pe_var hN hv hd hcd) fun sg H Q ⟨B0, H0, B, e, S, k⟩ => ?_
  obtain ⟨v, d, h1, h2, h3⟩ := S.sl.get hG
  unfold eVar at k
  rw [h2] at k
  cases v with
  | none => exact h3.elim
  | some v => exact ⟨v, h1, k B H v (.refl S.ext.s) h3⟩
theorem ve_ar {i : Nat} {x : Str} (hG : G[i]? = some .ar := by rfl) (hN : X.N[i]? = some x := by rfl) (hv : Vis X.env.scope x := by first | exact Or.inl rfl | exact Or.inr (Or.inl rfl) | exact Or.inr (Or.inr rfl)) (hd : (x == ("__debug__" : Str)) = false := by decide)
    (hcd : (x == ("__classdict__" : Str)) = false := by decide) : PE X (.Name x pos) (vE X.K X.mg G W .ar (eVar i)) := by
  refine pe_weak (pe_var hN hv hd hcd) fun sg H Q ⟨B0, H0, B, e, S, k⟩ => ?_
  obtain ⟨v, d, h1, h2, h3⟩ := S.sl.get hG
  unfold eVar at k
  rw [h2] at k
  cases v with
  | none => exact h3.elim
  | some v => exact ⟨v, h1, k B H v (.refl S.ext.s) h3⟩
theorem Slot.own {K : PySem.W.Frag} {H0 B H : Hp} {x : Option V} {d : D} (h : Slot K H0 B H .ow x d) : ∃ p, x = some (.ref p) ∧ H0 p = none ∧ B p = none ∧ Own K B H p d := by
  cases x with
  | none => exact h.elim
  | some v =>
    cases v with
    | ref p => exact ⟨p, rfl, h⟩
    | _ => exact h.elim
theorem ve_ow {i : Nat} {x : Str} (hG : G[i]? = some .ow := by rfl) (hN : X.N[i]? = some x := by rfl) (hv : Vis X.env.scope x := by first | exact Or.inl rfl | exact Or.inr (Or.inl rfl) | exact Or.inr (Or.inr rfl)) (hd : (x == ("__debug__" : Str)) = false := by decide)
    (hcd : (x == ("__classdict__" : Str)) = false := by decide) : PE X (.Name x pos) (vE X.K X.mg G W .oc (eVar i)) := by
  refine pe_weak (pe_var hN hv hd hcd) fun sg H Q ⟨B0, H0, B, e, S, k⟩ => ?_
  obtain ⟨v, d, h1, h2, h3⟩ := S.sl.get hG
  unfold eVar at k
  rw [h2] at k
  obtain ⟨p, rfl, _, hb, ho⟩ := h3.own
  exact ⟨.ref p, h1, k B H _ (.refl S.ext.s) ⟨p, rfl, ho⟩⟩
theorem ve_flatC {v : V} {d : D} (h : PE X e (tC v)) (hr : ∀ B, Rep false X.K B v d) : PE X e (vE X.K X.mg G W .im (eC d)) :=
  pe_weak h fun sg H Q ⟨B0, H0, B, e, S, k⟩ => k B H v (.refl S.ext.s) (hr _)
theorem ve_int {i : Int} {j} : PE X (.Constant (.int i) j pos) (vE X.K X.mg G W .im (eC (.int i))) := ve_flatC pe_int fun _ => .int i
theorem ve_bl {b : Bool} {j} : PE X (.Constant (.bool b) j pos) (vE X.K X.mg G W .im (eC (.bl b))) := ve_flatC pe_bl fun _ => .bl b
theorem ve_non {j} : PE X (.Constant .none j pos) (vE X.K X.mg G W .im (eC .non)) := ve_flatC pe_non fun _ => .non
theorem ve_str {x : Str} {j} : PE X (.Constant (.str x) j pos) (vE X.K X.mg G W .im (eC (.str x))) := ve_flatC pe_str fun _ => .str x
/-- a module's constant that is flat -/
theorem ve_glob {x : Str} {v : V} {d : D} {u : Value} (hg : Gl X x) (hm : X.mg x = some u) (r : RelV v u) (hr : ∀ B, Rep false X.K B v d) (hd : (x == ("__debug__" : Str)) = false := by decide) : PE X (.Name x pos) (vE X.K X.mg G W .im (eC d)) := ve_flatC (pe_glob hg hm r hd) hr
/-- weaker tags -/
theorem ve_lo (h : PE X e (vE X.K X.mg G W m f)) : PE X e (vE X.K X.mg G W .lo f) := by
  refine pe_weak h fun sg H Q ⟨B0, H0, B, e, S, k⟩ => ⟨B0, H0, B, e, S, ?_⟩
  cases ef : f e with
  | bad => rw [ef] at k; exact k
  | ex c => rw [ef] at k; exact k
  | ok d =>
    rw [ef] at k
    exact fun B' H' v x r => k B' H' v x (r.all x.s (S.ext.h.trans x.h))
/-- a new list or dict, made to stay -/
theorem ve_frz (h : PE X e (vE X.K X.mg G W .fr f)) : PE X e (vE X.K X.mg G W .im f) := by
  refine pe_weak h fun sg H Q ⟨B0, H0, B, e, S, k⟩ => ⟨B0, H0, B, e, S, ?_⟩
  cases ef : f e with
  | bad => rw [ef] at k; exact k
  | ex c => rw [ef] at k; exact k
  | ok d =>
    rw [ef] at k
    intro B' H' v x r
    obtain ⟨p, h1, h2, h3, h4⟩ := r
    subst h1
    obtain ⟨o, e1, s1, s2, r1⟩ := h4.freeze x.s h3
    refine k (upd B' p o) H' _ ⟨x.b.trans s2, x.h, s1, fun q hq => ?_⟩ r1
    rw [upd_ne (fun z => by subst z; exact hq h2)]
    exact x.n q hq
/-- what is flat stays -/
theorem ve_flat (h : PE X e (vE X.K X.mg G W m f)) : PE X e (vE X.K X.mg G W .im (eFlat f)) := by
  refine pe_weak h fun sg H Q ⟨B0, H0, B, e, S, k⟩ => ⟨B0, H0, B, e, S, ?_⟩
  unfold eFlat at k
  cases ef : f e with
  | bad => rw [ef] at k; exact k
  | ex c => rw [ef] at k; exact k
  | ok d =>
    rw [ef] at k
    have k : KE X.K X.mg W sg H0 B H Q .im (if flatD d then .ok d else .bad) := k
    by_cases hf : flatD d = true
    · rw [if_pos hf] at k
      exact fun B' H' v x r => k B' H' v x (flat_rep (r.all x.s (S.ext.h.trans x.h)) hf)
    · rw [if_neg hf] at k
      exact k.elim
end

/-! ### operations of two -/
@[simp] def eOp (g : D → D → Option D) (fa fb : List D → R D) (e : List D) : R D := (fa e).bind fun x => (fb e).bind fun y => ofO (g x y)
/-- what an operation on values asks, by data: any heap -/
def Does2 (K : PySem.W.Frag) (r : R2) (g : D → D → Option D) : Prop := ∀ (H : Hp) (x y : V) (d1 d2 d : D) (Q : VK), Rep true K H x d1 → Rep true K H y d2 → g d1 d2 = some d → (∀ v, (∀ B, Rep false K B v d) → Q v H) → r x y H Q
section
variable {K : PySem.W.Frag} {mg : Str → Option Value} {G : List Md} {W : WX} {sg : St} {H : Hp} {Q : VK} {ma mb m : Tg} {fa fb : List D → R D} {r : R2} {g : D → D → Option D}
theorem seq2 {kk : D → D → R D} {Rr : V → V → Hp → Prop} (h : vE K mg G W m (fun e => (fa e).bind fun x => (fb e).bind fun y => kk x y) sg H Q)
    (fin : ∀ B0 H0 B e B2 H2 x y d1 d2, Sta K G B0 H0 sg e B H → Sta K G B0 H0 sg e B2 H2 → Ext B H B2 H2 → RepT K H0 H B2 H2 ma x d1 → RepT K H0 H B2 H2 mb y d2 → KE K mg W sg H0 B H Q m (kk d1 d2) → Rr x y H2) :
    vE K mg G W ma fa sg H fun x H1 => vE K mg G W mb fb sg H1 fun y H2 => Rr x y H2 := by
  obtain ⟨B0, H0, B, e, S, k⟩ := h
  refine seq1 (P := KE K mg W sg H0 B H Q m) S k (fun c k => k.ex_of) (fun k => k) fun B1 H1 x d1 x1 S1 r1 k1 => ?_
  refine seq1 (P := KE K mg W sg H0 B H Q m) S1 k1 (fun c k B' H' a y hm => k B' H' a (x1.trans y) hm) (fun k => k) fun B2 H2 y d2 x2 S2 r2 k2 => ?_
  exact fin B0 H0 B e B2 H2 x y d1 d2 S S2 (x1.trans x2) (r1.later x2) (r2.earlier x1.h) k2
theorem op2_flat (hd : Does2 K r g) : ∀ (sg : St) (H : Hp) (Q : VK), vE K mg G W .im (eOp g fa fb) sg H Q → tOp r (vE K mg G W ma fa) (vE K mg G W mb fb) sg H Q := fun sg H Q h => by
  refine seq2 (kk := fun x y => ofO (g x y)) h fun B0 H0 B e B2 H2 x y d1 d2 S S2 x2 r1 r2 k => ?_
  have s0 : Same H0 H2 := S2.ext.h
  cases eg : g d1 d2 with
  | none => rw [eg] at k; exact k.elim
  | some d =>
    rw [eg] at k
    exact hd H2 x y d1 d2 d Q (r1.all x2.s s0) (r2.all x2.s s0) eg fun v hv => k B2 H2 v x2 (hv _)
end
section
variable {X : Cx} {G : List Md} {W : WX} {pos : Pos} {a b : Expr} {fa fb : List D → R D} {ma mb : Tg} {r : R2} {g : D → D → Option D}
theorem ve_bin {op : Operator} (ho : OpR X (binaryOp op) r) (hd : Does2 X.K r g) (ha : PE X a (vE X.K X.mg G W ma fa)) (hb : PE X b (vE X.K X.mg G W mb fb)) : PE X (.BinOp a op b pos) (vE X.K X.mg G W .im (eOp g fa fb)) := pe_weak (pe_op ho ha hb) (op2_flat hd)
theorem ve_cmp {op : CmpOp} (ho : OpR X (compareOp op) r) (hd : Does2 X.K r g) (ha : PE X a (vE X.K X.mg G W ma fa)) (hb : PE X b (vE X.K X.mg G W mb fb)) (hm : behindInMarks op b = false := by first | exact nomark _ | rfl) : PE X (.Compare a [op] [b] pos) (vE X.K X.mg G W .im (eOp g fa fb)) :=
  pe_weak (pe_cmpR ho ha hb hm) (op2_flat hd)
theorem ve_ix {rr : R2} (ho : IxR X rr) (hd : Does2 X.K rr g) (ha : PE X a (vE X.K X.mg G W ma fa)) (hb : PE X b (vE X.K X.mg G W mb fb)) (hp : PlainIx b := by exact fun _ _ => rfl) : PE X (.Subscript a b pos) (vE X.K X.mg G W .im (eOp g fa fb)) :=
  pe_weak (pe_ix ho ha hb hp) (op2_flat hd)
end
/-! ### tests -/
def asB : D → R Bool
  | .bl b => .ok b
  | _ => .bad
@[simp] theorem asB_bl (b : Bool) : asB (.bl b) = .ok b := rfl
@[simp] def tVal (f : List D → R D) (e : List D) : R Bool := (f e).bind asB
section
variable {X : Cx} {G : List Md} {W : WX} {pos : Pos} {a b : Expr} {f : List D → R D} {m : Tg} {rest : List Expr} {c1 c2 : List D → R Bool}
theorem tval_of {K : PySem.W.Frag} {mg : Str → Option Value} (sg : St) (H : Hp) (Q : Bool → Hp → Prop) (h : vT K mg G W (tVal f) sg H Q) : vE K mg G W m f sg H fun x H1 => ∃ c, x = .bl c ∧ Q c H1 := by
  obtain ⟨B0, H0, B, e, S, k⟩ := h
  refine seq1 (P := KT mg W sg B H Q) S k (fun c k => k) (fun k => k) fun B1 H1 x d x1 S1 r1 k1 => ?_
  have r := r1.all x1.s S1.ext.h
  cases r with
  | bl b => exact ⟨b, rfl, k1 B1 H1 x1⟩
  | _ => exact k1.elim
theorem vt_val (h : PE X a (vE X.K X.mg G W m f)) (he : ∀ whole, isTrue a X.env whole = (do let v ← whole; standAt a.pos; holding [v] (truthy v)) := by intro _; rfl) : PT X a (vT X.K X.mg G W (tVal f)) := pt_weak (pt_val h he) tval_of
theorem vt_cmp {op : CmpOp} {r : R2} {g : D → D → Option D} {fa fb : List D → R D} {ma mb : Tg} (ho : OpR X (compareOp op) r) (hd : Does2 X.K r g) (ha : PE X a (vE X.K X.mg G W ma fa)) (hb : PE X b (vE X.K X.mg G W mb fb)) (hm : behindInMarks op b = false := by first | exact nomark _ | rfl) :
    PT X (.Compare a [op] [b] pos) (vT X.K X.mg G W (tVal (eOp g fa fb))) := by
  refine pt_weak (pt_cmpR ho ha hb hm) fun sg H Q h => ?_
  exact op2_flat hd sg H _ (tval_of sg H Q h)
@[simp] def tNotB (c : List D → R Bool) (e : List D) : R Bool := (c e).bind fun b => .ok (!b)
@[simp] def tAndB (c d : List D → R Bool) (e : List D) : R Bool := (c e).bind fun b => if b then d e else .ok false
@[simp] def tOrB (c d : List D → R Bool) (e : List D) : R Bool := (c e).bind fun b => if b then .ok true else d e
theorem seqT {α : Type} {K : PySem.W.Frag} {mg : Str → Option Value} {sg : St} {H H0 B0 B : Hp} {e : List D} {fa : List D → R Bool} {kk : Bool → R α} {P : R α → Prop} (S : Sta K G B0 H0 sg e B H) {Rr : Bool → Hp → Prop}
    (h : P ((fa e).bind kk)) (hx : ∀ c, P (.ex c) → ∀ B' H' a, Ext B H B' H' → mg c = some (.ref a) → W (.ref a) none sg H') (hb : ¬ P .bad)
    (fin : ∀ B1 H1 b, Ext B H B1 H1 → Sta K G B0 H0 sg e B1 H1 → P (kk b) → Rr b H1) : vT K mg G W fa sg H Rr := by
  refine ⟨B0, H0, B, e, S, ?_⟩
  cases ea : fa e with
  | bad => rw [ea] at h; exact (hb h).elim
  | ex c => rw [ea] at h; exact hx c h
  | ok d =>
    rw [ea] at h
    exact fun B1 H1 x1 => fin B1 H1 d x1 (S.later x1) h
theorem KT.later {mg : Str → Option Value} {sg : St} {B H B1 H1 : Hp} {Q : Bool → Hp → Prop} {r : R Bool} (k : KT mg W sg B H Q r) (x : Ext B H B1 H1) : KT mg W sg B1 H1 Q r := by
  cases r with
  | ok d => exact fun B' H' y => k B' H' (x.trans y)
  | ex c => exact fun B' H' a y hm => k B' H' a (x.trans y) hm
  | bad => exact k
theorem vt_not (h : PT X a (vT X.K X.mg G W c1)) : PT X (.UnaryOp .Not a pos) (vT X.K X.mg G W (tNotB c1)) := by
  refine pt_weak (pt_not h) fun sg H Q ⟨B0, H0, B, e, S, k⟩ => ?_
  exact seqT (P := KT X.mg W sg B H Q) S k (fun c k => k) (fun k => k) fun B1 H1 b x1 S1 k1 => k1 B1 H1 x1
theorem and_of {K : PySem.W.Frag} {mg : Str → Option Value} (sg : St) (H : Hp) (Q : Bool → Hp → Prop) (h : vT K mg G W (tAndB c1 c2) sg H Q) : tAnd (vT K mg G W c1) (vT K mg G W c2) sg H Q := by
  obtain ⟨B0, H0, B, e, S, k⟩ := h
  refine seqT (P := KT mg W sg B H Q) S k (fun c k => k) (fun k => k) fun B1 H1 b x1 S1 k1 => ?_
  cases b with
  | true => exact iteT ⟨B0, H0, B1, e, S1, KT.later k1 x1⟩
  | false => exact iteF (k1 B1 H1 x1)
theorem or_of {K : PySem.W.Frag} {mg : Str → Option Value} (sg : St) (H : Hp) (Q : Bool → Hp → Prop) (h : vT K mg G W (tOrB c1 c2) sg H Q) : tOr (vT K mg G W c1) (vT K mg G W c2) sg H Q := by
  obtain ⟨B0, H0, B, e, S, k⟩ := h
  refine seqT (P := KT mg W sg B H Q) S k (fun c k => k) (fun k => k) fun B1 H1 b x1 S1 k1 => ?_
  cases b with
  | true => exact iteT (k1 B1 H1 x1)
  | false => exact iteF ⟨B0, H0, B1, e, S1, KT.later k1 x1⟩
theorem vw_and1 (h : PT X a (vT X.K X.mg G W c1)) : PW X (.BoolOp .And [a] pos) (vT X.K X.mg G W c1) := pw_and1 h
theorem vw_or1 (h : PT X a (vT X.K X.mg G W c1)) : PW X (.BoolOp .Or [a] pos) (vT X.K X.mg G W c1) := pw_or1 h
theorem vw_and (h : PT X a (vT X.K X.mg G W c1)) (h2 : PW X (.BoolOp .And (b :: rest) pos) (vT X.K X.mg G W c2)) : PW X (.BoolOp .And (a :: b :: rest) pos) (vT X.K X.mg G W (tAndB c1 c2)) := pw_weak (pw_and h h2) and_of
theorem vw_or (h : PT X a (vT X.K X.mg G W c1)) (h2 : PW X (.BoolOp .Or (b :: rest) pos) (vT X.K X.mg G W c2)) : PW X (.BoolOp .Or (a :: b :: rest) pos) (vT X.K X.mg G W (tOrB c1 c2)) := pw_weak (pw_or h h2) or_of
/-- and, or, not as values of bools -/
@[simp] def eNot (f : List D → R D) (e : List D) : R D := (f e).bind fun d => (asB d).bind fun b => .ok (.bl (!b))
@[simp] def eAnd (f g : List D → R D) (e : List D) : R D := (f e).bind fun d => (asB d).bind fun b => if b then g e else .ok (.bl false)
@[simp] def eOr (f g : List D → R D) (e : List D) : R D := (f e).bind fun d => (asB d).bind fun b => if b then .ok (.bl true) else g e
variable {f1 f2 : List D → R D} {m1 m2 : Tg}
theorem ve_not (h : PE X a (vE X.K X.mg G W m1 f1)) : PE X (.UnaryOp .Not a pos) (vE X.K X.mg G W .im (eNot f1)) := by
  refine pe_weak (pe_not h) fun sg H Q ⟨B0, H0, B, e, S, k⟩ => ?_
  refine seq1 (P := KE X.K X.mg W sg H0 B H Q .im) S k (fun c k => k) (fun k => k) fun B1 H1 x d x1 S1 r1 k1 => ?_
  have r := r1.all x1.s S1.ext.h
  cases r with
  | bl b => exact ⟨b, rfl, k1 B1 H1 _ x1 (.bl _)⟩
  | _ => exact k1.elim
theorem ve_one {op} (h : PE X a (vE X.K X.mg G W m1 f1)) : PE X (.BoolOp op [a] pos) (vE X.K X.mg G W m1 f1) := pe_one h
theorem ve_and (h : PE X a (vE X.K X.mg G W m1 f1)) (h2 : PE X (.BoolOp .And (b :: rest) pos) (vE X.K X.mg G W .im f2)) : PE X (.BoolOp .And (a :: b :: rest) pos) (vE X.K X.mg G W .im (eAnd f1 f2)) := by
  refine pe_weak (pe_and h h2) fun sg H Q ⟨B0, H0, B, e, S, k⟩ => ?_
  refine seq1 (P := KE X.K X.mg W sg H0 B H Q .im) S k (fun c k => k) (fun k => k) fun B1 H1 x d x1 S1 r1 k1 => ?_
  have r := r1.all x1.s S1.ext.h
  cases r with
  | bl b =>
    refine ⟨b, rfl, ?_⟩
    cases b with
    | true => exact iteT ⟨B0, H0, B1, e, S1, KE.later k1 x1⟩
    | false => exact iteF (k1 B1 H1 _ x1 (.bl _))
  | _ => exact k1.elim
theorem ve_or (h : PE X a (vE X.K X.mg G W m1 f1)) (h2 : PE X (.BoolOp .Or (b :: rest) pos) (vE X.K X.mg G W .im f2)) : PE X (.BoolOp .Or (a :: b :: rest) pos) (vE X.K X.mg G W .im (eOr f1 f2)) := by
  refine pe_weak (pe_or h h2) fun sg H Q ⟨B0, H0, B, e, S, k⟩ => ?_
  refine seq1 (P := KE X.K X.mg W sg H0 B H Q .im) S k (fun c k => k) (fun k => k) fun B1 H1 x d x1 S1 r1 k1 => ?_
  have r := r1.all x1.s S1.ext.h
  cases r with
  | bl b =>
    refine ⟨b, rfl, ?_⟩
    cases b with
    | true => exact iteT (k1 B1 H1 _ x1 (.bl _))
    | false => exact iteF ⟨B0, H0, B1, e, S1, KE.later k1 x1⟩
  | _ => exact k1.elim
@[simp] def eIf (c : List D → R Bool) (f g : List D → R D) (e : List D) : R D := (c e).bind fun b => if b then f e else g e
theorem ve_ifExp {c : Expr} (hc : PT X c (vT X.K X.mg G W c1)) (h : PE X a (vE X.K X.mg G W m f1)) (h2 : PE X b (vE X.K X.mg G W m f2)) : PE X (.IfExp c a b pos) (vE X.K X.mg G W m (eIf c1 f1 f2)) := by
  refine pe_weak (pe_ifExp hc h h2) fun sg H Q ⟨B0, H0, B, e, S, k⟩ => ?_
  refine seqT (P := KE X.K X.mg W sg H0 B H Q m) S k (fun c k => k) (fun k => k) fun B1 H1 b x1 S1 k1 => ?_
  cases b with
  | true => exact iteT ⟨B0, H0, B1, e, S1, KE.later k1 x1⟩
  | false => exact iteF ⟨B0, H0, B1, e, S1, KE.later k1 x1⟩
end

/-! ### argument lists -/
@[simp] def aNil (_ : List D) : R (List D) := .ok []
@[simp] def aCons (f : List D → R D) (r : List D → R (List D)) (e : List D) : R (List D) := (f e).bind fun d => (r e).bind fun ds => .ok (d :: ds)
section
variable {X : Cx} {G : List Md} {W : WX} {pos : Pos} {a : Expr} {es : List Expr} {f : List D → R D} {fs : List D → R (List D)} {m : Tg} {ms : List Tg}
theorem va_nil : PA X [] (vA X.K X.mg G W [] aNil) := pa_weak pa_nil fun sg H Q ⟨B0, H0, B, e, S, k⟩ => k B H [] (.refl S.ext.s) trivial
theorem va_cons (ha : PE X a (vE X.K X.mg G W m f)) (hr : PA X es (vA X.K X.mg G W ms fs)) (hs : starEach (a :: es) X.env = (false, eval a X.env) :: starEach es X.env := by rfl) : PA X (a :: es) (vA X.K X.mg G W (m :: ms) (aCons f fs)) := by
  refine pa_weak (pa_cons ha hr hs) fun sg H Q ⟨B0, H0, B, e, S, k⟩ => ?_
  refine seq1 (P := KA X.K X.mg W sg H0 B H Q (m :: ms)) S k (fun c k => k) (fun k => k) fun B1 H1 x d x1 S1 r1 k1 => ?_
  refine ⟨B0, H0, B1, e, S1, ?_⟩
  cases er : fs e with
  | bad => rw [er] at k1; exact k1.elim
  | ex c => rw [er] at k1; exact fun B' H' a y hm => k1 B' H' a (x1.trans y) hm
  | ok ds =>
    rw [er] at k1
    exact fun B2 H2 vs x2 r2 => k1 B2 H2 (x :: vs) (x1.trans x2) ⟨r1.later x2, RepTs.earlier x1.h r2⟩
end
end L2.VL
set_option Elab.async false
set_option linter.all false
set_option maxRecDepth 100000
set_option maxHeartbeats 4000000
namespace L2.VL
open PySem PySem.Spec PyProof.Rows

/-! ## promises and calls -/
inductive Pm where
  | im | ar
def Pm.md : Pm → Md
  | .im => .im
  | .ar => .ar
def Args (K : PySem.W.Frag) (B H : Hp) : List Pm → List V → List D → Prop
  | [], [], [] => True
  | .im :: ms, v :: vs, d :: ds => Rep false K B v d ∧ Args K B H ms vs ds
  | .ar :: ms, v :: vs, d :: ds => Rep true K H v d ∧ Args K B H ms vs ds
  | _, _, _ => False
inductive Rm where
  | im | fr
def Rm.tg : Rm → Tg
  | .im => .im
  | .fr => .fr
def RetT (K : PySem.W.Frag) (H B' H' : Hp) : Rm → V → D → Prop
  | .im, v, d => Rep false K B' v d
  | .fr, v, d => ∃ p, v = .ref p ∧ H p = none ∧ B' p = none ∧ Own K B' H' p d
def KF (K : PySem.W.Frag) (mg : Str → Option Value) (rm : Rm) (B H : Hp) (Q : VK) (E : XK) : R D → Prop
  | .ok d => ∀ B' H' v, Ext B H B' H' → RetT K H B' H' rm v d → Q v H'
  | .ex c => ∀ B' H' a, Ext B H B' H' → mg c = some (.ref a) → E (.ref a) none H'
  | .bad => False
def spF (K : PySem.W.Frag) (mg : Str → Option Value) (ms : List Pm) (rm : Rm) (F : List D → R D) : Sp := fun vs H Q E =>
  ∃ B ds, Same B H ∧ Args K B H ms vs ds ∧ KF K mg rm B H Q E (F ds)
theorem Args.len {K : PySem.W.Frag} {B H : Hp} : ∀ {ms : List Pm} {vs : List V} {ds : List D}, Args K B H ms vs ds → vs.length = ms.length ∧ ds.length = ms.length
  | [], [], [], _ => ⟨rfl, rfl⟩
  | .im :: _, _ :: _, _ :: _, ⟨_, r⟩ => ⟨congrArg (· + 1) r.len.1, congrArg (· + 1) r.len.2⟩
  | .ar :: _, _ :: _, _ :: _, ⟨_, r⟩ => ⟨congrArg (· + 1) r.len.1, congrArg (· + 1) r.len.2⟩
def Fit : List Tg → List Pm → Bool
  | [], [] => true
  | .im :: ts, .im :: ms => Fit ts ms
  | _ :: ts, .ar :: ms => Fit ts ms
  | _, _ => false
theorem args_of {K : PySem.W.Frag} {H0 H B' H' : Hp} (s : Same B' H') (s0 : Same H0 H') : ∀ {ts : List Tg} {ms : List Pm} {vs : List V} {ds : List D}, Fit ts ms = true → RepTs K H0 H B' H' ts vs ds → Args K B' H' ms vs ds
  | [], [], [], [], _, _ => trivial
  | .im :: _, .im :: _, _ :: _, _ :: _, f, ⟨h, r⟩ => ⟨h, args_of s s0 f r⟩
  | .im :: _, .ar :: _, _ :: _, _ :: _, f, ⟨h, r⟩ => ⟨h.all s s0, args_of s s0 f r⟩
  | .ar :: _, .ar :: _, _ :: _, _ :: _, f, ⟨h, r⟩ => ⟨h.all s s0, args_of s s0 f r⟩
  | .lo :: _, .ar :: _, _ :: _, _ :: _, f, ⟨h, r⟩ => ⟨h.all s s0, args_of s s0 f r⟩
  | .fr :: _, .ar :: _, _ :: _, _ :: _, f, ⟨h, r⟩ => ⟨h.all s s0, args_of s s0 f r⟩
  | .oc :: _, .ar :: _, _ :: _, _ :: _, f, ⟨h, r⟩ => ⟨h.all s s0, args_of s s0 f r⟩
@[simp] def eCall (F : List D → R D) (fs : List D → R (List D)) (e : List D) : R D := (fs e).bind F
section
variable {X : Cx} {G : List Md} {W : WX} {pos p : Pos} {a : Expr} {es : List Expr} {fs : List D → R (List D)} {ts : List Tg} {ms : List Pm} {rm : Rm} {F : List D → R D} {k : Nat} {f : Addr} {fd : FuncData} {ps : List Str} {x : Str}
theorem ret_tg {K : PySem.W.Frag} {H0 H B' H' : Hp} {v : V} {d : D} (r : RetT K H B' H' rm v d) : RepT K H0 H B' H' rm.tg v d := by
  cases rm with
  | im => exact r
  | fr => exact r
theorem ve_call (Fk : FnOk X.prog X.w X.K X.mg X.base (L2.CX X.prog X.w) k f fd ps (spF X.K X.mg ms rm F)) (hr : Room k X.A) (hm : X.mg x = some (.ref f)) (hk : PySem.W.keepIn X.K (.ref f) = true) (hb : Binds X.K fd ps []) (tk : Takes X W)
    (ha : PA X (a :: es) (vA X.K X.mg G W ts fs)) (hf : Fit ts ms = true := by rfl) (hg : Gl X x := by rfl) (hdb : (x == ("__debug__" : Str)) = false := by decide) (he : starEach (a :: es) X.env = (false, eval a X.env) :: starEach es X.env := by rfl) (hpl : (backTo pos (starEach es X.env)).any (·.1) = false := by rfl) :
    PE X (.Call (.Name x p) (a :: es) [] pos) (vE X.K X.mg G W rm.tg (eCall F fs)) := by
  refine pe_weak (pe_callS Fk hr hg hm hk hb (fun σ => passAt tk σ) ha hdb he hpl) fun sg H Q ⟨B0, H0, B, e, S, k⟩ => ?_
  refine ⟨B0, H0, B, e, S, ?_⟩
  unfold eCall at k
  cases ef : fs e with
  | bad => rw [ef] at k; exact k.elim
  | ex c => rw [ef] at k; exact k
  | ok ds =>
    rw [ef] at k
    intro B1 H1 vs x1 r1
    refine ⟨B1, ds, x1.s, args_of x1.s (S.ext.h.trans x1.h) hf r1, ?_⟩
    have k : KE X.K X.mg W sg H0 B H Q rm.tg (F ds) := k
    cases eF : F ds with
    | bad => rw [eF] at k; exact k
    | ex c => rw [eF] at k; exact fun B' H' a y hm => k B' H' a (x1.trans y) hm
    | ok d =>
      rw [eF] at k
      exact fun B' H' v y r => k B' H' v (x1.trans y) ((ret_tg r).earlier x1.h)
end

/-! ## statements -/
inductive Fl where
  | nx (e : List D) | rt (d : D)
def KS (K : PySem.W.Frag) (mg : Str → Option Value) (G' : List Md) (W : WX) (rm : Rm) (B0 H0 : Hp) (Dn : Ends) : R Fl → Prop
  | .ok (.nx e') => ∀ sg' B' H', Sta K G' B0 H0 sg' e' B' H' → Dn.nx sg' H'
  | .ok (.rt d) => ∀ B' H' v, Ext B0 H0 B' H' → RetT K H0 B' H' rm v d → Dn.rt v H'
  | .ex c => ∀ B' H' a sg', Ext B0 H0 B' H' → mg c = some (.ref a) → W (.ref a) none sg' H'
  | .bad => False
def vS (K : PySem.W.Frag) (mg : Str → Option Value) (G G' : List Md) (W : WX) (rm : Rm) (g : List D → R Fl) : TS := fun Dn sg H =>
  ∃ B0 H0 B e, Sta K G B0 H0 sg e B H ∧ KS K mg G' W rm B0 H0 Dn (g e)
@[simp] def sNil (e : List D) : R Fl := .ok (.nx e)
def Fl.thn : Fl → (List D → R Fl) → R Fl
  | .nx e, g => g e
  | .rt d, _ => .ok (.rt d)
@[simp] theorem Fl.thn_nx (e : List D) (g : List D → R Fl) : (Fl.nx e).thn g = g e := rfl
@[simp] theorem Fl.thn_rt (d : D) (g : List D → R Fl) : (Fl.rt d).thn g = .ok (.rt d) := rfl
@[simp] def sSeq (g1 g2 : List D → R Fl) (e : List D) : R Fl := (g1 e).bind fun fl => fl.thn g2
@[simp] def sAsg (i : Nat) (f : List D → R D) (e : List D) : R Fl := (f e).bind fun d => .ok (.nx (e.set i d))
@[simp] def sRet (f : List D → R D) (e : List D) : R Fl := (f e).bind fun d => .ok (.rt d)
@[simp] def sDrop (f : List D → R D) (e : List D) : R Fl := (f e).bind fun _ => .ok (.nx e)
@[simp] def sIf (c : List D → R Bool) (g1 g2 : List D → R Fl) (e : List D) : R Fl := (c e).bind fun b => if b then g1 e else g2 e
@[simp] def sRaise (c : Str) (_ : List D) : R Fl := .ex c
section
variable {K : PySem.W.Frag} {G G' : List Md} {B0 H0 B H : Hp} {sg : St} {e : List D}
theorem get_set {α : Type} {l : List α} {i j : Nat} {x y : α} (h : (l.set i x)[j]? = some y) : (i = j ∧ x = y) ∨ l[j]? = some y := by
  by_cases e : i = j
  · subst e
    by_cases hi : i < l.length
    · rw [List.getElem?_set_self hi] at h
      exact .inl ⟨rfl, Option.some.inj h⟩
    · rw [List.set_eq_of_length_le (by omega)] at h
      exact .inr h
  · rw [List.getElem?_set_ne e] at h
    exact .inr h
theorem Sta.set (S : Sta K G B0 H0 sg e B H) (i : Nat) {m : Md} {v : V} {d : D} (h : Slot K H0 B H m (some v) d)
    (hd : m = .ow → ∀ j p, v = .ref p → G[j]? = some .ow → sg[j]? = some (some (.ref p)) → i = j) : Sta K (G.set i m) B0 H0 (sg.set i (some v)) (e.set i d) B H := by
  refine ⟨S.ext, S.sl.set h i, fun j1 j2 p g1 g2 s1 s2 => ?_⟩
  have l : i < G.length → i < sg.length := fun z => by rw [S.sl.len.1]; exact z
  by_cases e1 : i = j1
  · subst e1
    by_cases e2 : i = j2
    · exact e2
    · rw [List.getElem?_set_ne e2] at g2 s2
      have hi : i < G.length := by
        by_cases hi : i < G.length
        · exact hi
        · rw [List.set_eq_of_length_le (by omega)] at g1
          have := (List.getElem?_eq_some_iff.mp g1).1
          exact absurd this hi
      rw [List.getElem?_set_self hi] at g1
      rw [List.getElem?_set_self (l hi)] at s1
      have em : m = .ow := Option.some.inj g1
      have ev : v = .ref p := Option.some.inj (Option.some.inj s1)
      exact hd em j2 p ev g2 s2
  · by_cases e2 : i = j2
    · subst e2
      rw [List.getElem?_set_ne e1] at g1 s1
      have hi : i < G.length := by
        by_cases hi : i < G.length
        · exact hi
        · rw [List.set_eq_of_length_le (by omega)] at g2
          have := (List.getElem?_eq_some_iff.mp g2).1
          exact absurd this hi
      rw [List.getElem?_set_self hi] at g2
      rw [List.getElem?_set_self (l hi)] at s2
      have em : m = .ow := Option.some.inj g2
      have ev : v = .ref p := Option.some.inj (Option.some.inj s2)
      exact (hd em j1 p ev g1 s1).symm
    · rw [List.getElem?_set_ne e1] at g1 s1
      rw [List.getElem?_set_ne e2] at g2 s2
      exact S.dis j1 j2 p g1 g2 s1 s2
theorem Sta.own_some (S : Sta K G B0 H0 sg e B H) {j : Nat} {p : Addr} (g : G[j]? = some .ow) (s : sg[j]? = some (some (.ref p))) : H p ≠ none := by
  obtain ⟨x, d, h1, h2, h3⟩ := S.sl.get g
  rw [s] at h1
  cases h1
  exact h3.2.2.isSome
/-- fewer slots are known -/
def leM : Md → Md → Bool
  | _, .un => true
  | .im, .im => true
  | .ar, .ar => true
  | .ow, .ow => true
  | _, _ => false
def leG : List Md → List Md → Bool
  | [], [] => true
  | m :: ms, n :: ns => leM m n && leG ms ns
  | _, _ => false
theorem Slot.le : ∀ {m n : Md} {x : Option V} {d : D}, leM m n = true → Slot K H0 B H m x d → Slot K H0 B H n x d := fun {m n x d} h s => by
  cases n with
  | un => exact trivial
  | _ => cases m <;> first | exact s | exact absurd h Bool.false_ne_true
theorem Slots.le : ∀ {ms ns : List Md} {xs : List (Option V)} {ds : List D}, leG ms ns = true → Slots K H0 B H ms xs ds → Slots K H0 B H ns xs ds
  | [], [], [], [], _, _ => trivial
  | _ :: _, _ :: _, _ :: _, _ :: _, h, ⟨s, r⟩ => by
    have h : (leM _ _ && leG _ _) = true := h
    rw [Bool.and_eq_true] at h
    exact ⟨Slot.le h.1 s, Slots.le h.2 r⟩
theorem leG_ow : ∀ {ms ns : List Md} {i : Nat}, leG ms ns = true → ns[i]? = some .ow → ms[i]? = some .ow
  | [], [], _, _, h => h
  | m :: _, n :: _, 0, h, g => by
    have h : (leM _ _ && leG _ _) = true := h
    rw [Bool.and_eq_true] at h
    have e : n = .ow := Option.some.inj g
    subst e
    cases m <;> first | rfl | exact absurd h.1 Bool.false_ne_true
  | _ :: _, _ :: _, i + 1, h, g => by
    have h : (leM _ _ && leG _ _) = true := h
    rw [Bool.and_eq_true] at h
    exact leG_ow (i := i) h.2 (by simpa using g)
theorem Sta.le (S : Sta K G B0 H0 sg e B H) (h : leG G G' = true) : Sta K G' B0 H0 sg e B H := ⟨S.ext, S.sl.le h, fun i j p g1 g2 s1 s2 => S.dis i j p (leG_ow h g1) (leG_ow h g2) s1 s2⟩
end
section
variable {X : Cx} {G G1 G' : List Md} {W : WX} {rm : Rm} {pos : Pos} {a : Expr} {st : Stmt} {rest : List Stmt} {f : List D → R D} {g g1 g2 : List D → R Fl} {c : List D → R Bool}
theorem vs_nil : PSs X [] (vS X.K X.mg G G W rm sNil) := pss_weak pss_nil fun Dn sg H ⟨B0, H0, B, e, S, k⟩ => k sg B H S
theorem vs_cons (h1 : PS X st (vS X.K X.mg G G1 W rm g1)) (h2 : PSs X rest (vS X.K X.mg G1 G' W rm g2)) : PSs X (st :: rest) (vS X.K X.mg G G' W rm (sSeq g1 g2)) := by
  refine pss_weak (pss_cons h1 h2) fun Dn sg H ⟨B0, H0, B, e, S, k⟩ => ⟨B0, H0, B, e, S, ?_⟩
  unfold sSeq at k
  cases eg : g1 e with
  | bad => rw [eg] at k; exact k
  | ex c => rw [eg] at k; exact k
  | ok fl =>
    rw [eg] at k
    cases fl with
    | nx e1 => exact fun sg' B' H' S' => ⟨B0, H0, B', e1, S', k⟩
    | rt d => exact k
theorem vs_one (h1 : PS X st (vS X.K X.mg G G' W rm g1)) : PSs X [st] (vS X.K X.mg G G' W rm g1) := pss_one h1
/-- fewer slots known behind -/
theorem vs_le (hl : leG G1 G' = true) (h : PSs X rest (vS X.K X.mg G G1 W rm g)) : PSs X rest (vS X.K X.mg G G' W rm g) := by
  refine pss_weak h fun Dn sg H ⟨B0, H0, B, e, S, k⟩ => ⟨B0, H0, B, e, S, ?_⟩
  cases eg : g e with
  | bad => rw [eg] at k; exact k
  | ex c => rw [eg] at k; exact k
  | ok fl =>
    rw [eg] at k
    cases fl with
    | nx e1 => exact fun sg' B' H' S' => k sg' B' H' (S'.le hl)
    | rt d => exact k
theorem vs_le1 (hl : leG G1 G' = true) (h : PS X st (vS X.K X.mg G G1 W rm g)) : PS X st (vS X.K X.mg G G' W rm g) := by
  refine ps_weak h fun Dn sg H ⟨B0, H0, B, e, S, k⟩ => ⟨B0, H0, B, e, S, ?_⟩
  cases eg : g e with
  | bad => rw [eg] at k; exact k
  | ex c => rw [eg] at k; exact k
  | ok fl =>
    rw [eg] at k
    cases fl with
    | nx e1 => exact fun sg' B' H' S' => k sg' B' H' (S'.le hl)
    | rt d => exact k
/-- fewer slots known ahead -/
theorem vs_pre (hl : leG G G1 = true) (h : PSs X rest (vS X.K X.mg G1 G' W rm g)) : PSs X rest (vS X.K X.mg G G' W rm g) :=
  pss_weak h fun Dn sg H ⟨B0, H0, B, e, S, k⟩ => ⟨B0, H0, B, e, S.le hl, k⟩
/-- one's own list in slot i is made to stay -/
theorem Sta.freeze {K : PySem.W.Frag} {B0 H0 B H : Hp} {sg : St} {e : List D} (S : Sta K G B0 H0 sg e B H) {i : Nat} (hG : G[i]? = some .ow) : ∃ B', Sta K (G.set i .im) B0 H0 sg e B' H := by
  obtain ⟨x, d, h1, h2, h3⟩ := S.sl.get hG
  obtain ⟨p, rfl, hp0, hpb, ho⟩ := h3.own
  obtain ⟨o, e1, s1, s2, r1⟩ := ho.freeze S.ext.s hpb
  have nb : ∀ q, q ≠ p → upd B p o q = B q := fun q hq => upd_ne hq
  refine ⟨upd B p o, ⟨S.ext.b.trans s2, S.ext.h, s1, fun q hq => ?_⟩, ?_, fun j1 j2 q g1 g2 t1 t2 => ?_⟩
  · rw [nb q (fun z => by subst z; exact hq hp0)]
    exact S.ext.n q hq
  · -- every slot
    have go : ∀ {ms : List Md} {xs : List (Option V)} {ds : List D} (n : Nat), Slots K H0 B H ms xs ds → ms[n]? = some .ow → xs[n]? = some (some (.ref p)) → (∀ j : Nat, ms[j]? = some Md.ow → xs[j]? = some (some (V.ref p)) → j = n) → Slots K H0 (upd B p o) H (ms.set n .im) xs ds := by
      intro ms
      induction ms with
      | nil => intro xs ds n s hm; simp at hm
      | cons m ms ih =>
        intro xs ds n s hm hx hu
        cases xs with
        | nil => exact s.elim
        | cons x xs =>
          cases ds with
          | nil => exact s.elim
          | cons d ds =>
            obtain ⟨s, r⟩ := s
            cases n with
            | zero =>
              have em : m = .ow := Option.some.inj hm
              have ex : x = some (.ref p) := Option.some.inj hx
              subst em ex
              obtain ⟨_, _, ho'⟩ := s
              obtain ⟨o', e1', _, _, r1'⟩ := ho'.freeze S.ext.s hpb
              have eo : o' = o := Option.some.inj (e1'.symm.trans e1)
              subst eo
              refine ⟨r1', ?_⟩
              -- the rest has no p
              have rest : ∀ {ms : List Md} {xs : List (Option V)} {ds : List D}, Slots K H0 B H ms xs ds → (∀ j : Nat, ms[j]? = some Md.ow → xs[j]? = some (some (V.ref p)) → False) → Slots K H0 (upd B p o') H ms xs ds := by
                intro ms
                induction ms with
                | nil => intro xs ds s _; cases xs <;> cases ds <;> first | trivial | exact s.elim
                | cons m ms ih2 =>
                  intro xs ds s hu
                  cases xs with
                  | nil => exact s.elim
                  | cons x xs =>
                    cases ds with
                    | nil => exact s.elim
                    | cons d ds =>
                      obtain ⟨s, r⟩ := s
                      refine ⟨?_, ih2 r fun j a b => hu (j + 1) (by simpa using a) (by simpa using b)⟩
                      cases m with
                      | un => trivial
                      | im =>
                        cases x with
                        | none => exact s.elim
                        | some v => exact Rep.mono s2 s
                      | ar =>
                        cases x with
                        | none => exact s.elim
                        | some v => exact s
                      | ow =>
                        obtain ⟨q, rfl, q1, q2, q3⟩ := Slot.own s
                        exact ⟨q1, by rw [nb q (fun z => by subst z; exact (hu 0 rfl rfl).elim)]; exact q2, q3.mono s2 (Same.refl _)⟩
              exact rest r fun j a b => by
                have z := hu (j + 1) (by simpa using a) (by simpa using b)
                cases z
            | succ n =>
              refine ⟨?_, ih n r (by simpa using hm) (by simpa using hx) fun j a b => by
                have z := hu (j + 1) (by simpa using a) (by simpa using b)
                omega⟩
              cases m with
              | un => trivial
              | im =>
                cases x with
                | none => exact s.elim
                | some v => exact Rep.mono s2 s
              | ar =>
                cases x with
                | none => exact s.elim
                | some v => exact s
              | ow =>
                obtain ⟨q, rfl, q1, q2, q3⟩ := Slot.own s
                exact ⟨q1, by rw [nb q (fun z => by subst z; have z2 := hu 0 rfl rfl; cases z2)]; exact q2, q3.mono s2 (Same.refl _)⟩
    exact go i S.sl hG h1 fun j a b => S.dis j i p a hG b h1
  · rcases get_set g1 with ⟨_, z⟩ | g1
    · cases z
    · rcases get_set g2 with ⟨_, z⟩ | g2
      · cases z
      · exact S.dis j1 j2 q g1 g2 t1 t2
theorem vs_freeze (i : Nat) (hG : G[i]? = some .ow) (h : PSs X rest (vS X.K X.mg (G.set i .im) G' W rm g)) : PSs X rest (vS X.K X.mg G G' W rm g) :=
  pss_weak h fun Dn sg H ⟨B0, H0, B, e, S, k⟩ => by
    obtain ⟨B', S'⟩ := S.freeze hG
    exact ⟨B0, H0, B', e, S', k⟩
theorem vs_freezeEnd (i : Nat) (hG : G1[i]? = some .ow) (h : PSs X rest (vS X.K X.mg G G1 W rm g)) : PSs X rest (vS X.K X.mg G (G1.set i .im) W rm g) := by
  refine pss_weak h fun Dn sg H ⟨B0, H0, B, e, S, k⟩ => ⟨B0, H0, B, e, S, ?_⟩
  cases eg : g e with
  | bad => rw [eg] at k; exact k
  | ex c => rw [eg] at k; exact k
  | ok fl =>
    rw [eg] at k
    cases fl with
    | nx e1 =>
      intro sg' B' H' S'
      obtain ⟨B2, S2⟩ := S'.freeze hG
      exact k sg' B2 H' S2
    | rt d => exact k

/-! ### assignments of names -/
variable {i : Nat} {x : Str} {pos' : Pos} {m : Tg}
theorem ks_ex {K : PySem.W.Frag} {mg : Str → Option Value} {B0 H0 B H : Hp} {sg : St} {e : List D} {Dn : Ends} {c : Str} (S : Sta K G B0 H0 sg e B H) (k : KS K mg G' W rm B0 H0 Dn (.ex c)) : ∀ B' H' a, Ext B H B' H' → mg c = some (.ref a) → W (.ref a) none sg H' :=
  fun B' H' a y hm => k B' H' a sg (S.ext.trans y) hm
theorem asg_im {K : PySem.W.Frag} {mg : Str → Option Value} (Dn : Ends) (sg : St) (H : Hp) (h : vS K mg G (G.set i .im) W rm (sAsg i f) Dn sg H) : tAsg (vE K mg G W .im f) (gName i) Dn sg H := by
  obtain ⟨B0, H0, B, e, S, k⟩ := h
  refine seq1 (P := KS K mg (G.set i .im) W rm B0 H0 Dn) S k (fun c k => ks_ex S k) (fun k => k) fun B1 H1 x d x1 S1 r1 k1 => ?_
  exact k1 _ B1 H1 (S1.set i (m := .im) r1 (fun z => by cases z))
theorem asg_ar {K : PySem.W.Frag} {mg : Str → Option Value} (Dn : Ends) (sg : St) (H : Hp) (h : vS K mg G (G.set i .ar) W rm (sAsg i f) Dn sg H) : tAsg (vE K mg G W .ar f) (gName i) Dn sg H := by
  obtain ⟨B0, H0, B, e, S, k⟩ := h
  refine seq1 (P := KS K mg (G.set i .ar) W rm B0 H0 Dn) S k (fun c k => ks_ex S k) (fun k => k) fun B1 H1 x d x1 S1 r1 k1 => ?_
  exact k1 _ B1 H1 (S1.set i (m := .ar) r1 (fun z => by cases z))
theorem asg_ow {K : PySem.W.Frag} {mg : Str → Option Value} (Dn : Ends) (sg : St) (H : Hp) (h : vS K mg G (G.set i .ow) W rm (sAsg i f) Dn sg H) : tAsg (vE K mg G W .fr f) (gName i) Dn sg H := by
  obtain ⟨B0, H0, B, e, S, k⟩ := h
  refine seq1 (P := KS K mg (G.set i .ow) W rm B0 H0 Dn) S k (fun c k => ks_ex S k) (fun k => k) fun B1 H1 x d x1 S1 r1 k1 => ?_
  obtain ⟨p, rfl, hp, hb, ho⟩ := r1
  refine k1 _ B1 H1 (S1.set i (m := .ow) ⟨S.ext.h.free hp, hb, ho⟩ fun _ j q eq hj hs => ?_)
  cases eq
  exact absurd hp (S.own_some hj hs)
theorem vs_set (he : PE X a (vE X.K X.mg G W .im f)) (hN : X.N.Nodup) (hi : X.N[i]? = some x := by rfl) (hx : Loc X.env.scope x := by first | exact Or.inl rfl | exact Or.inr rfl) (hs : swapsWith a (some (.Name x pos')) pos.line X.env = pure false := by rfl)
    (hf : X.fn x = true ∨ X.env.scope.names.lookup x = some .local := by first | exact .inl rfl | exact .inr rfl) : PS X (.Assign [.Name x pos'] a pos) (vS X.K X.mg G (G.set i .im) W rm (sAsg i f)) := ps_weak (ps_set hN hi hx he hs hf) asg_im
theorem vs_setAr (he : PE X a (vE X.K X.mg G W .ar f)) (hN : X.N.Nodup) (hi : X.N[i]? = some x := by rfl) (hx : Loc X.env.scope x := by first | exact Or.inl rfl | exact Or.inr rfl) (hs : swapsWith a (some (.Name x pos')) pos.line X.env = pure false := by rfl)
    (hf : X.fn x = true ∨ X.env.scope.names.lookup x = some .local := by first | exact .inl rfl | exact .inr rfl) : PS X (.Assign [.Name x pos'] a pos) (vS X.K X.mg G (G.set i .ar) W rm (sAsg i f)) := ps_weak (ps_set hN hi hx he hs hf) asg_ar
theorem vs_setOw (he : PE X a (vE X.K X.mg G W .fr f)) (hN : X.N.Nodup) (hi : X.N[i]? = some x := by rfl) (hx : Loc X.env.scope x := by first | exact Or.inl rfl | exact Or.inr rfl) (hs : swapsWith a (some (.Name x pos')) pos.line X.env = pure false := by rfl)
    (hf : X.fn x = true ∨ X.env.scope.names.lookup x = some .local := by first | exact .inl rfl | exact .inr rfl) : PS X (.Assign [.Name x pos'] a pos) (vS X.K X.mg G (G.set i .ow) W rm (sAsg i f)) := ps_weak (ps_set hN hi hx he hs hf) asg_ow
/-! ### return, drop, if, raise -/
theorem vs_ret (he : PE X a (vE X.K X.mg G W .im f)) : PS X (.Return (some a) pos) (vS X.K X.mg G G' W .im (sRet f)) := by
  refine ps_weak (ps_ret he) fun Dn sg H ⟨B0, H0, B, e, S, k⟩ => ?_
  exact seq1 (P := KS X.K X.mg G' W .im B0 H0 Dn) S k (fun c k => ks_ex S k) (fun k => k) fun B1 H1 x d x1 S1 r1 k1 => k1 B1 H1 x S1.ext r1
theorem vs_retFr (he : PE X a (vE X.K X.mg G W .fr f)) : PS X (.Return (some a) pos) (vS X.K X.mg G G' W .fr (sRet f)) := by
  refine ps_weak (ps_ret he) fun Dn sg H ⟨B0, H0, B, e, S, k⟩ => ?_
  exact seq1 (P := KS X.K X.mg G' W .fr B0 H0 Dn) S k (fun c k => ks_ex S k) (fun k => k) fun B1 H1 x d x1 S1 r1 k1 => by
    obtain ⟨p, rfl, hp, hb, ho⟩ := r1
    exact k1 B1 H1 _ S1.ext ⟨p, rfl, S.ext.h.free hp, hb, ho⟩
/-- return of one's own list in slot i -/
theorem vs_retOw {pn : Pos} (hG : G[i]? = some .ow := by rfl) (hN : X.N[i]? = some x := by rfl) (hv : Vis X.env.scope x := by first | exact Or.inl rfl | exact Or.inr (Or.inl rfl) | exact Or.inr (Or.inr rfl)) (hd : (x == ("__debug__" : Str)) = false := by decide)
    (hcd : (x == ("__classdict__" : Str)) = false := by decide) : PS X (.Return (some (.Name x pn)) pos) (vS X.K X.mg G G' W .fr (sRet (eVar i))) := by
  refine ps_weak (ps_ret (pe_var hN hv hd hcd)) fun Dn sg H ⟨B0, H0, B, e, S, k⟩ => ?_
  obtain ⟨v, d, h1, h2, h3⟩ := S.sl.get hG
  unfold sRet eVar at k
  rw [h2] at k
  obtain ⟨p, rfl, hp, hb, ho⟩ := h3.own
  exact ⟨.ref p, h1, k B H _ S.ext ⟨p, rfl, hp, hb, ho⟩⟩
theorem vs_expr (he : PE X a (vE X.K X.mg G W m f)) (hs : swapsWith a none pos.line X.env = pure false := by rfl) : PS X (.Expr a pos) (vS X.K X.mg G G W rm (sDrop f)) := by
  refine ps_weak (ps_expr he hs) fun Dn sg H ⟨B0, H0, B, e, S, k⟩ => ?_
  exact seq1 (P := KS X.K X.mg G W rm B0 H0 Dn) S k (fun c k => ks_ex S k) (fun k => k) fun B1 H1 x d x1 S1 r1 k1 => k1 sg B1 H1 S1
theorem vs_if {cc : Expr} {sa sb : List Stmt} (hc : PT X cc (vT X.K X.mg G W c)) (ha : PSs X sa (vS X.K X.mg G G' W rm g1)) (hb : PSs X sb (vS X.K X.mg G G' W rm g2)) : PS X (.If cc sa sb pos) (vS X.K X.mg G G' W rm (sIf c g1 g2)) := by
  refine ps_weak (ps_if hc ha hb) fun Dn sg H ⟨B0, H0, B, e, S, k⟩ => ?_
  refine seqT (P := KS X.K X.mg G' W rm B0 H0 Dn) S k (fun c k => ks_ex S k) (fun k => k) fun B1 H1 b x1 S1 k1 => ?_
  cases b with
  | true => exact iteT ⟨B0, H0, B1, e, S1, k1⟩
  | false => exact iteF ⟨B0, H0, B1, e, S1, k1⟩
theorem vs_raise {C : Addr} {n : Str} {nm ms' : Str} {jj : Nat} {bmB : List Value} {Bn newId initId : String} {p1 p2 p3 : Pos} (hc : X.calm = true) (tk : Takes X W) (F : ExcBaseFacts Bn newId initId bmB) (q : PySem.W.excIn X.K C bmB newId = true) (gC : X.mg n = some (.ref C)) (kC : PySem.W.keepIn X.K (.ref C) = true) (r : Raises X (.ref C)) (hg : Gl X n := by rfl)
    (hdb : (n == ("__debug__" : Str)) = false := by decide) : PS X (.Raise (some (.Call (.Name n p1) [.Constant (.str ms') jj p2] [] p3)) none pos) (vS X.K X.mg G G' W rm (sRaise n)) :=
  ps_weak (ps_raise hc tk (pmk_own F q gC kC r hg hdb)) fun Dn sg H ⟨B0, H0, B, e, S, k⟩ => k B H C sg S.ext gC
theorem vs_pass : PS X (.Pass pos) (vS X.K X.mg G G W rm sNil) := ps_weak ps_pass fun Dn sg H ⟨B0, H0, B, e, S, k⟩ => k sg B H S
/-! ### while -/
def whileN (c : List D → R Bool) (g : List D → R Fl) : Nat → List D → R Fl
  | 0, _ => .bad
  | n + 1, e => (c e).bind fun b => if b then (g e).bind fun fl => fl.thn (whileN c g n) else .ok (.nx e)
theorem vs_while {cc : Expr} {body : List Stmt} (n : Nat) (hp : PassesOwn (model X.prog X.w) X.A X.env X.xe) (hc : PT X cc (vT X.K X.mg G W c)) (hb : PSs X body (vS X.K X.mg G G1 W rm g)) (hl : leG G1 G = true) :
    PS X (.While cc body [] pos) (vS X.K X.mg G G W rm (whileN c g n)) := by
  refine ps_weak (ps_while hp hc hb) fun Dn sg H ⟨B0, H0, B, e, S, k⟩ => ?_
  refine ⟨fun m sg H => ∃ B e, Sta X.K G B0 H0 sg e B H ∧ KS X.K X.mg G W rm B0 H0 Dn (whileN c g m e), ⟨n, B, e, S, k⟩, ?_⟩
  rintro m sg H ⟨B, e, S, k⟩
  cases m with
  | zero => exact k.elim
  | succ m =>
    unfold whileN at k
    refine seqT (P := KS X.K X.mg G W rm B0 H0 Dn) S k (fun c k => ks_ex S k) (fun k => k) fun B1 H1 b x1 S1 k1 => ?_
    cases b with
    | false => exact iteF (k1 sg B1 H1 S1)
    | true =>
      refine iteT ⟨fun sg' H' => ∃ B e, Sta X.K G B0 H0 sg' e B H' ∧ KS X.K X.mg G W rm B0 H0 Dn (whileN c g m e), fun sg' H' ⟨B2, e2, S2, k2⟩ => ⟨m, Nat.lt_succ_self m, B2, e2, S2, k2⟩, B0, H0, B1, e, S1, ?_⟩
      have k1 : KS X.K X.mg G W rm B0 H0 Dn ((g e).bind fun fl => fl.thn (whileN c g m)) := k1
      cases eg : g e with
      | bad => rw [eg] at k1; exact k1
      | ex c => rw [eg] at k1; exact k1
      | ok fl =>
        rw [eg] at k1
        cases fl with
        | nx e2 => exact fun sg' B' H' S' => ⟨B', e2, S'.le hl, k1⟩
        | rt d => exact k1
end

/-! ## a def -/
def startG (ms : List Pm) (n : Nat) : List Md := ms.map Pm.md ++ List.replicate (n - ms.length) .un
def Fl.fin : Fl → R D
  | .nx _ => .ok .non
  | .rt d => .ok d
def Fl.finr : Fl → R D
  | .nx _ => .bad
  | .rt d => .ok d
@[simp] theorem Fl.fin_nx (e : List D) : (Fl.nx e).fin = .ok .non := rfl
@[simp] theorem Fl.fin_rt (d : D) : (Fl.rt d).fin = .ok d := rfl
@[simp] theorem Fl.finr_nx (e : List D) : (Fl.nx e).finr = .bad := rfl
@[simp] theorem Fl.finr_rt (d : D) : (Fl.rt d).finr = .ok d := rfl
@[simp] def runF (n : Nat) (g : List D → R Fl) (ds : List D) : R D := (g (ds ++ List.replicate (n - ds.length) .non)).bind Fl.fin
@[simp] def runFr (n : Nat) (g : List D → R Fl) (ds : List D) : R D := (g (ds ++ List.replicate (n - ds.length) .non)).bind Fl.finr
theorem slots_args {K : PySem.W.Frag} {B H : Hp} : ∀ {ms : List Pm} {vs : List V} {ds : List D}, Args K B H ms vs ds → ∀ (n : Nat), Slots K H B H (ms.map Pm.md ++ List.replicate n .un) (vs.map some ++ List.replicate n none) (ds ++ List.replicate n .non)
  | [], [], [], _, n => by
    induction n with
    | zero => trivial
    | succ n ih => exact ⟨trivial, ih⟩
  | .im :: _, _ :: _, _ :: _, ⟨h, r⟩, n => ⟨h, slots_args r n⟩
  | .ar :: _, _ :: _, _ :: _, ⟨h, r⟩, n => ⟨h, slots_args r n⟩
theorem startG_noow {ms : List Pm} {n i : Nat} (h : (startG ms n)[i]? = some .ow) : False := by
  have hm := List.mem_of_getElem? h
  unfold startG at hm
  rcases List.mem_append.mp hm with z | z
  · obtain ⟨p, _, e⟩ := List.mem_map.mp z
    cases p <;> cases e
  · have := List.eq_of_mem_replicate z
    cases this
section
variable {P : Program} {w : World} {K : PySem.W.Frag} {mg : Str → Option Value} {base : Heap} {x qual : Str} {st : Stmt} {f : Addr} {fd : FuncData} {N ps : List Str} {k : Nat} {ms : List Pm} {G' : List Md} {g : List D → R Fl}
theorem okV {M : List D → R D} (F : Fun K x qual st f fd) (S : FnScope N ps (defScope st)) (hl : ms.length = ps.length) (hM : M = runF N.length g)
    (hbody : ∀ (cdv : Value) (A : Around) (outer : List Env) (s : Shared) (H : Hp) (E : XK), Room k (A.deeper (envOfC qual (defScope st) s.heap.objs.size f cdv)) →
      PSs (cxOf (L2.CX P w) P w K mg base N qual (defScope st) f cdv A outer s H E) (defBody st) (vS K mg (startG ms N.length) G' (fun cls d _ H => E cls d H) .im g)) :
    FnOk P w K mg base (L2.CX P w) (k + 1) f fd ps (spF K mg ms .im M) := by
  subst hM
  refine F.okX S (fun vs H Q E h => ?_) (fun cdv A outer s H vs Q E hr h => ⟨_, hbody cdv A outer s H E hr, ?_⟩)
  · obtain ⟨B, ds, _, ha, _⟩ := h
    rw [ha.len.1, hl]
  · obtain ⟨B, ds, sb, ha, kf⟩ := h
    have e1 : vs.length = ds.length := by rw [ha.len.1, ha.len.2]
    have hS := slots_args ha (N.length - ms.length)
    refine ⟨B, H, B, ds ++ List.replicate (N.length - ds.length) .non, ⟨.refl sb, ?_, fun i j p g1 => (startG_noow g1).elim⟩, ?_⟩
    · rw [show N.length - ds.length = N.length - ms.length by rw [ha.len.2]]
      unfold start startG
      rw [show N.length - vs.length = N.length - ms.length by rw [ha.len.1]]
      exact hS
    · unfold runF at kf
      cases eg : g (ds ++ List.replicate (N.length - ds.length) .non) with
      | bad => rw [eg] at kf; exact kf
      | ex c => rw [eg] at kf; exact fun B' H' a sg' y hm => kf B' H' a y hm
      | ok fl =>
        rw [eg] at kf
        cases fl with
        | nx e' => exact fun sg' B' H' S' => kf B' H' _ S'.ext .non
        | rt d => exact kf
theorem okVr {M : List D → R D} (F : Fun K x qual st f fd) (S : FnScope N ps (defScope st)) (hl : ms.length = ps.length) (hM : M = runFr N.length g)
    (hbody : ∀ (cdv : Value) (A : Around) (outer : List Env) (s : Shared) (H : Hp) (E : XK), Room k (A.deeper (envOfC qual (defScope st) s.heap.objs.size f cdv)) →
      PSs (cxOf (L2.CX P w) P w K mg base N qual (defScope st) f cdv A outer s H E) (defBody st) (vS K mg (startG ms N.length) G' (fun cls d _ H => E cls d H) .fr g)) :
    FnOk P w K mg base (L2.CX P w) (k + 1) f fd ps (spF K mg ms .fr M) := by
  subst hM
  refine F.okX S (fun vs H Q E h => ?_) (fun cdv A outer s H vs Q E hr h => ⟨_, hbody cdv A outer s H E hr, ?_⟩)
  · obtain ⟨B, ds, _, ha, _⟩ := h
    rw [ha.len.1, hl]
  · obtain ⟨B, ds, sb, ha, kf⟩ := h
    have hS := slots_args ha (N.length - ms.length)
    refine ⟨B, H, B, ds ++ List.replicate (N.length - ds.length) .non, ⟨.refl sb, ?_, fun i j p g1 => (startG_noow g1).elim⟩, ?_⟩
    · rw [show N.length - ds.length = N.length - ms.length by rw [ha.len.2]]
      unfold start startG
      rw [show N.length - vs.length = N.length - ms.length by rw [ha.len.1]]
      exact hS
    · unfold runFr at kf
      cases eg : g (ds ++ List.replicate (N.length - ds.length) .non) with
      | bad => rw [eg] at kf; exact kf
      | ex c => rw [eg] at kf; exact fun B' H' a sg' y hm => kf B' H' a y hm
      | ok fl =>
        rw [eg] at kf
        cases fl with
        | nx e' => exact kf.elim
        | rt d => exact kf
/-- the promise by another function that says the same where it says something -/
theorem FnOk.spec {rm : Rm} {ps : List Str} {k : Nat} {F : Nat → List D → R D} {F' : List D → R D} (h : ∀ n, FnOk P w K mg base (L2.CX P w) k f fd ps (spF K mg ms rm (F n))) (hs : ∀ ds, F' ds = .bad ∨ ∃ n, F n ds = F' ds) :
    FnOk P w K mg base (L2.CX P w) k f fd ps (spF K mg ms rm F') := by
  have pick : ∀ vs H Q E, spF K mg ms rm F' vs H Q E → ∃ n, spF K mg ms rm (F n) vs H Q E := fun vs H Q E ⟨B, ds, sb, ha, kf⟩ => by
    rcases hs ds with e | ⟨n, e⟩
    · rw [e] at kf; exact kf.elim
    · exact ⟨n, B, ds, sb, ha, by rw [e]; exact kf⟩
  refine ⟨fun vs H Q E q => ?_, fun A outer s H args us vs Q E hr he hb hv hsp => ?_⟩
  · obtain ⟨n, q⟩ := pick vs H Q E q
    exact (h n).len vs H Q E q
  · obtain ⟨n, q⟩ := pick vs H Q E hsp
    exact (h n).run A outer s H args us vs Q E hr he hb hv q
theorem FnOk.spec1 {rm : Rm} {ps : List Str} {k : Nat} {F F' : List D → R D} (h : FnOk P w K mg base (L2.CX P w) k f fd ps (spF K mg ms rm F)) (hs : ∀ ds, F' ds = .bad ∨ F ds = F' ds) :
    FnOk P w K mg base (L2.CX P w) k f fd ps (spF K mg ms rm F') := FnOk.spec (F := fun _ => F) (fun _ => h) fun ds => (hs ds).elim .inl fun e => .inr ⟨0, e⟩
end
end L2.VL
set_option Elab.async false
set_option linter.all false
set_option maxRecDepth 100000
set_option maxHeartbeats 4000000
namespace L2.VL
open PySem PySem.Spec PyProof.Rows

theorem or_op {X : Cx} {f : Value → Value → Sem Value} {r r' : R2} (h : OpR X f r) (h' : OpR X f r') : OpR X f (fun x y H Q => r x y H Q ∨ r' x y H Q) := by
  intro pins s σ H x y v u Q I rx ry q
  rcases q with q | q
  · exact h pins s σ H x y v u Q I rx ry q
  · exact h' pins s σ H x y v u Q I rx ry q
/-! ### whole numbers -/
def gI (h : Int → Int → Option D) : D → D → Option D
  | .int i, .int j => h i j
  | _, _ => none
section
variable {K : PySem.W.Frag}
theorem does_I {C : Int → Int → Prop} {gv : Int → Int → V} {h : Int → Int → Option D} (hh : ∀ i j d, h i j = some d → C i j ∧ ∀ B, Rep false K B (gv i j) d) : Does2 K (rI C gv) (gI h) := by
  intro H x y d1 d2 d Q r1 r2 e q
  cases r1 with
  | int i =>
    cases r2 with
    | int j =>
      obtain ⟨hc, hr⟩ := hh i j d e
      exact ⟨i, j, rfl, rfl, hc, q _ hr⟩
    | _ => exact absurd e (by simp [gI])
  | _ => exact absurd e (by simp [gI])
theorem does_I0 {gv : Int → Int → V} {h : Int → Int → Option D} (hh : ∀ i j d, h i j = some d → ∀ B, Rep false K B (gv i j) d) : Does2 K (rI0 gv) (gI h) := by
  intro H x y d1 d2 d Q r1 r2 e q
  cases r1 with
  | int i =>
    cases r2 with
    | int j => exact ⟨i, j, rfl, rfl, q _ (hh i j d e)⟩
    | _ => exact absurd e (by simp [gI])
  | _ => exact absurd e (by simp [gI])
end
instance decMulOk (i j : Int) : Decidable (IntMulOk i j) := by
  unfold IntMulOk
  infer_instance
instance decCPow (i j : Int) : Decidable (CPow i j) := by
  unfold CPow
  infer_instance
instance decCShl (i j : Int) : Decidable (CShl i j) := by
  unfold CShl
  infer_instance
instance decCDivP (i j : Int) : Decidable (CDivP i j) := by
  unfold CDivP
  infer_instance
def gSub : D → D → Option D := gI fun i j => some (.int (i - j))
def gMul : D → D → Option D := gI fun i j => if IntMulOk i j then some (.int (i * j)) else none
def gFdiv : D → D → Option D := gI fun i j => if CDivP i j then some (.int (i / j)) else none
def gMod : D → D → Option D := gI fun i j => if 0 < j then some (.int (i % j)) else none
def gPow : D → D → Option D := gI fun i j => if CPow i j then some (.int (i ^ j.toNat)) else none
def gShl : D → D → Option D := gI fun i j => if CShl i j then some (.int (i * 2 ^ j.toNat)) else none
def gShr : D → D → Option D := gI fun i j => if 0 ≤ j then some (.int (i / 2 ^ j.toNat)) else none
def gBitAnd : D → D → Option D := gI fun i j => some (.int (Builtin.bitAnd i j))
def gLt : D → D → Option D := gI fun i j => some (.bl (decide (i < j)))
def gLe : D → D → Option D := gI fun i j => some (.bl (decide (i ≤ j)))
def gGt : D → D → Option D := gI fun i j => some (.bl (decide (j < i)))
def gGe : D → D → Option D := gI fun i j => some (.bl (decide (j ≤ i)))
/-- + of whole numbers and of texts -/
def gAdd : D → D → Option D
  | .int i, .int j => some (.int (i + j))
  | .str x, .str y => if x.length + y.length ≤ sizeLine then some (.str (x ++ y)) else none
  | _, _ => none
@[simp] theorem gSub_int (i j : Int) : gSub (.int i) (.int j) = some (.int (i - j)) := rfl
@[simp] theorem gMul_int (i j : Int) : gMul (.int i) (.int j) = if IntMulOk i j then some (.int (i * j)) else none := rfl
@[simp] theorem gFdiv_int (i j : Int) : gFdiv (.int i) (.int j) = if CDivP i j then some (.int (i / j)) else none := rfl
@[simp] theorem gMod_int (i j : Int) : gMod (.int i) (.int j) = if 0 < j then some (.int (i % j)) else none := rfl
@[simp] theorem gPow_int (i j : Int) : gPow (.int i) (.int j) = if CPow i j then some (.int (i ^ j.toNat)) else none := rfl
@[simp] theorem gShl_int (i j : Int) : gShl (.int i) (.int j) = if CShl i j then some (.int (i * 2 ^ j.toNat)) else none := rfl
@[simp] theorem gShr_int (i j : Int) : gShr (.int i) (.int j) = if 0 ≤ j then some (.int (i / 2 ^ j.toNat)) else none := rfl
@[simp] theorem gBitAnd_int (i j : Int) : gBitAnd (.int i) (.int j) = some (.int (Builtin.bitAnd i j)) := rfl
@[simp] theorem gLt_int (i j : Int) : gLt (.int i) (.int j) = some (.bl (decide (i < j))) := rfl
@[simp] theorem gLe_int (i j : Int) : gLe (.int i) (.int j) = some (.bl (decide (i ≤ j))) := rfl
@[simp] theorem gGt_int (i j : Int) : gGt (.int i) (.int j) = some (.bl (decide (j < i))) := rfl
@[simp] theorem gGe_int (i j : Int) : gGe (.int i) (.int j) = some (.bl (decide (j ≤ i))) := rfl
@[simp] theorem gAdd_int (i j : Int) : gAdd (.int i) (.int j) = some (.int (i + j)) := rfl
@[simp] theorem gAdd_str (x y : Str) : gAdd (.str x) (.str y) = if x.length + y.length ≤ sizeLine then some (.str (x ++ y)) else none := rfl
section
variable {X : Cx}
theorem op_mulOk : OpR X (binaryOp .Mult) (rI IntMulOk fun i j => .int (i * j)) := opI fun _ _ _ _ _ _ _ hc q => mul_int q hc
theorem iop_mulOk : OpR X (inplaceOp .Mult) (rI IntMulOk fun i j => .int (i * j)) := opI fun _ _ _ _ _ _ _ hc q => imul_int q hc
theorem op_fdivP : OpR X (binaryOp .FloorDiv) (rI CDivP fun i j => .int (i / j)) := opI fun i j _ _ _ _ _ hc q => by
  have h1 : (0 : Int) < j := hc.1
  exact floordiv_int (by omega) (by rw [Int.fdiv_eq_ediv_of_nonneg i (by omega)]; exact q) (.inl hc.2)
variable {K : PySem.W.Frag}
theorem d_sub : Does2 K (rI0 fun i j => .int (i - j)) gSub := does_I0 fun i j d e B => by cases e; exact .int _
theorem d_mul : Does2 K (rI IntMulOk fun i j => .int (i * j)) gMul := does_I fun i j d e => by
  by_cases h : IntMulOk i j
  · rw [if_pos h] at e; cases e; exact ⟨h, fun _ => .int _⟩
  · rw [if_neg h] at e; cases e
theorem d_fdiv : Does2 K (rI CDivP fun i j => .int (i / j)) gFdiv := does_I fun i j d e => by
  by_cases h : CDivP i j
  · rw [if_pos h] at e; cases e; exact ⟨h, fun _ => .int _⟩
  · rw [if_neg h] at e; cases e
theorem d_mod : Does2 K (rI (fun _ j => 0 < j) fun i j => .int (i % j)) gMod := does_I fun i j d e => by
  by_cases h : 0 < j
  · rw [if_pos h] at e; cases e; exact ⟨h, fun _ => .int _⟩
  · rw [if_neg h] at e; cases e
theorem d_pow : Does2 K (rI CPow fun i j => .int (i ^ j.toNat)) gPow := does_I fun i j d e => by
  by_cases h : CPow i j
  · rw [if_pos h] at e; cases e; exact ⟨h, fun _ => .int _⟩
  · rw [if_neg h] at e; cases e
theorem d_shl : Does2 K (rI CShl fun i j => .int (i * 2 ^ j.toNat)) gShl := does_I fun i j d e => by
  by_cases h : CShl i j
  · rw [if_pos h] at e; cases e; exact ⟨h, fun _ => .int _⟩
  · rw [if_neg h] at e; cases e
theorem d_shr : Does2 K (rI (fun _ j => 0 ≤ j) fun i j => .int (i / 2 ^ j.toNat)) gShr := does_I fun i j d e => by
  by_cases h : 0 ≤ j
  · rw [if_pos h] at e; cases e; exact ⟨h, fun _ => .int _⟩
  · rw [if_neg h] at e; cases e
theorem d_and : Does2 K (rI0 fun i j => .int (Builtin.bitAnd i j)) gBitAnd := does_I0 fun i j d e B => by cases e; exact .int _
theorem d_lt : Does2 K (rI0 fun i j => .bl (decide (i < j))) gLt := does_I0 fun i j d e B => by cases e; exact .bl _
theorem d_le : Does2 K (rI0 fun i j => .bl (decide (i ≤ j))) gLe := does_I0 fun i j d e B => by cases e; exact .bl _
theorem d_gt : Does2 K (rI0 fun i j => .bl (decide (j < i))) gGt := does_I0 fun i j d e B => by cases e; exact .bl _
theorem d_ge : Does2 K (rI0 fun i j => .bl (decide (j ≤ i))) gGe := does_I0 fun i j d e B => by cases e; exact .bl _
def rAddF : R2 := fun x y H Q => rI0 (fun i j => .int (i + j)) x y H Q ∨ ∃ a b, x = .str a ∧ y = .str b ∧ a.length + b.length ≤ sizeLine ∧ Q (.str (a ++ b)) H
theorem op_addF : OpR X (binaryOp .Add) rAddF := or_op op_add (by
  intro pins s σ H x y v u Q I rx ry h
  obtain ⟨a, b, e1, e2, hz, q⟩ := h
  exact op_add_str pins s σ H x y v u Q I rx ry ⟨a, b, e1, e2, hz, q⟩)
theorem d_add : Does2 K rAddF gAdd := by
  intro H x y d1 d2 d Q r1 r2 e q
  cases r1 with
  | int i =>
    cases r2 with
    | int j => cases e; exact .inl ⟨i, j, rfl, rfl, q _ fun _ => .int _⟩
    | _ => exact absurd e (by simp [gAdd])
  | str a =>
    cases r2 with
    | str b =>
      have e : (if a.length + b.length ≤ sizeLine then some (D.str (a ++ b)) else none) = some d := e
      by_cases h : a.length + b.length ≤ sizeLine
      · rw [if_pos h] at e; cases e; exact .inr ⟨a, b, rfl, rfl, h, q _ fun _ => .str _⟩
      · rw [if_neg h] at e; cases e
    | _ => exact absurd e (by simp [gAdd])
  | _ => exact absurd e (by simp [gAdd])
/-! ### minus -/
def negD : D → R D
  | .int i => .ok (.int (-i))
  | _ => .bad
@[simp] theorem negD_int (i : Int) : negD (.int i) = .ok (.int (-i)) := rfl
@[simp] def eNeg (f : List D → R D) (e : List D) : R D := (f e).bind fun d => negD d
theorem ve_neg {G : List Md} {W : WX} {pos : Pos} {a : Expr} {f : List D → R D} {m : Tg} (ha : PE X a (vE X.K X.mg G W m f)) : PE X (.UnaryOp .USub a pos) (vE X.K X.mg G W .im (eNeg f)) := by
  refine pe_weak (pe_un un_neg ha) fun sg H Q ⟨B0, H0, B, e, S, k⟩ => ?_
  refine seq1 (P := KE X.K X.mg W sg H0 B H Q .im) S k (fun c k => k) (fun k => k) fun B1 H1 x d x1 S1 r1 k1 => ?_
  have r := r1.all x1.s S1.ext.h
  cases r with
  | int i => exact ⟨i, rfl, k1 B1 H1 _ x1 (.int _)⟩
  | _ => exact k1.elim
/-! ### == and != -/
mutual
def D.py : D → PyData
  | .non => .none
  | .bl b => .bool b
  | .int i => .int i
  | .str x => .str x
  | .tup ds => .tuple (D.pys ds)
  | .lst ds => .list (D.pys ds)
  | .dic _ => .dict []
def D.pys : List D → List PyData
  | [] => []
  | d :: ds => D.py d :: D.pys ds
end
mutual
theorem rep_dp {K : PySem.W.Frag} {H : Hp} : ∀ {v : V} {d : D}, Rep true K H v d → d.py.canLay0 = true → Dp K H v d.py
  | _, _, .non, _ => .non
  | _, _, .bl b, _ => .bl b
  | _, _, .int i, _ => .int i
  | _, _, .str x, _ => .str x
  | _, _, .lst h r, c => .lst (.inl h) (reps_dp r (by simpa [D.py, PyData.canLay0] using c))
  | _, _, .kls _ h r, c => .lst h (reps_dp r (by simpa [D.py, PyData.canLay0] using c))
  | _, _, .tup h r, c => .tup (.inl h) (reps_dp r (by simpa [D.py, PyData.canLay0] using c))
  | _, _, .dic _ _, c => by simp [D.py, PyData.canLay0] at c
theorem reps_dp {K : PySem.W.Frag} {H : Hp} : ∀ {vs : List V} {ds : List D}, Reps true K H vs ds → PyData.canLayAll0 (D.pys ds) = true → DpAll K H vs (D.pys ds)
  | _, _, .nil, _ => .nil
  | _, _, .cons h r, c => by
    rw [D.pys, PyData.canLayAll0, Bool.and_eq_true] at c
    rw [D.pys]
    exact .cons (rep_dp h c.1) (reps_dp r c.2)
end
def scalD : D → D → Bool
  | .non, .non => true | .non, .int _ => true | .int _, .non => true | .non, .bl _ => true | .bl _, .non => true | .non, .str _ => true | .str _, .non => true
  | .int _, .int _ => true | .bl _, .bl _ => true | .str _, .str _ => true
  | .int _, .str _ => true | .str _, .int _ => true | .bl _, .str _ => true | .str _, .bl _ => true
  | _, _ => false
def eqF : D → D → Bool
  | .non, .non => true
  | .int i, .int j => decide (i = j)
  | .bl i, .bl j => decide (i = j)
  | .str i, .str j => decide (i = j)
  | _, _ => false
def eqD (a b : D) : Option Bool := if scalD a b then some (eqF a b) else if SeqAt.shaped a.py && SeqAt.shaped b.py then some (PyData.eqv a.py b.py) else none
@[simp] theorem eqD_int (i j : Int) : eqD (.int i) (.int j) = some (decide (i = j)) := rfl
@[simp] theorem eqD_str (i j : Str) : eqD (.str i) (.str j) = some (decide (i = j)) := rfl
@[simp] theorem eqD_bl (i j : Bool) : eqD (.bl i) (.bl j) = some (decide (i = j)) := rfl
@[simp] def gEq (a b : D) : Option D := (eqD a b).map .bl
@[simp] def gNe (a b : D) : Option D := (eqD a b).map fun c => .bl (!c)
def rEqA (K : PySem.W.Frag) : R2 := fun x y H Q => rEq x y H Q ∨ rEqD K x y H Q
def rNeA (K : PySem.W.Frag) : R2 := fun x y H Q => rNe x y H Q ∨ rNeD K x y H Q
theorem op_eqA {k : Nat} (hr : Room k X.A) : OpR X (compareOp .Eq) (rEqA X.K) := or_op op_eq (op_eqD hr.units)
theorem op_neA {k : Nat} (hr : Room k X.A) : OpR X (compareOp .NotEq) (rNeA X.K) := or_op op_ne (op_neD hr.units)
theorem scal_of {H : Hp} {x y : V} {a b : D} (r1 : Rep true K H x a) (r2 : Rep true K H y b) (h : scalD a b = true) : scal x y = true ∧ decide (x = y) = eqF a b := by
  cases r1 <;> cases r2 <;> first
    | exact (Bool.false_ne_true h).elim
    | (refine ⟨rfl, ?_⟩; simp [eqF])
theorem d_eq : Does2 K (rEqA K) gEq := by
  intro H x y a b d Q r1 r2 e q
  unfold gEq eqD at e
  by_cases h : scalD a b = true
  · rw [if_pos h] at e
    obtain ⟨h1, h2⟩ := scal_of r1 r2 h
    cases e
    refine .inl ⟨h1, ?_⟩
    rw [h2]
    exact q _ fun _ => .bl _
  · rw [if_neg h] at e
    by_cases h2 : (SeqAt.shaped a.py && SeqAt.shaped b.py) = true
    · rw [if_pos h2] at e
      rw [Bool.and_eq_true] at h2
      cases e
      exact .inr ⟨_, _, rep_dp r1 (SeqAt.canLay_of_shaped h2.1), rep_dp r2 (SeqAt.canLay_of_shaped h2.2), h2.1, h2.2, q _ fun _ => .bl _⟩
    · rw [if_neg h2] at e; cases e
theorem d_ne : Does2 K (rNeA K) gNe := by
  intro H x y a b d Q r1 r2 e q
  unfold gNe eqD at e
  by_cases h : scalD a b = true
  · rw [if_pos h] at e
    obtain ⟨h1, h2⟩ := scal_of r1 r2 h
    cases e
    refine .inl ⟨h1, ?_⟩
    rw [h2]
    exact q _ fun _ => .bl _
  · rw [if_neg h] at e
    by_cases h2 : (SeqAt.shaped a.py && SeqAt.shaped b.py) = true
    · rw [if_pos h2] at e
      rw [Bool.and_eq_true] at h2
      cases e
      exact .inr ⟨_, _, rep_dp r1 (SeqAt.canLay_of_shaped h2.1), rep_dp r2 (SeqAt.canLay_of_shaped h2.2), h2.1, h2.2, q _ fun _ => .bl _⟩
    · rw [if_neg h2] at e; cases e
/-! ### is None, is not None; is False .. -/
def isNonD : D → Bool
  | .non => true
  | _ => false
def gIs : D → D → Option D
  | a, .non => some (.bl (isNonD a))
  | _, _ => none
def gIsnt : D → D → Option D
  | a, .non => some (.bl (!isNonD a))
  | _, _ => none
@[simp] theorem gIs_non : gIs .non .non = some (.bl true) := rfl
@[simp] theorem gIs_int (i : Int) : gIs (.int i) .non = some (.bl false) := rfl
@[simp] theorem gIs_tup (i : List D) : gIs (.tup i) .non = some (.bl false) := rfl
@[simp] theorem gIs_lst (i : List D) : gIs (.lst i) .non = some (.bl false) := rfl
@[simp] theorem gIs_str (i : Str) : gIs (.str i) .non = some (.bl false) := rfl
@[simp] theorem gIsnt_non : gIsnt .non .non = some (.bl false) := rfl
@[simp] theorem gIsnt_int (i : Int) : gIsnt (.int i) .non = some (.bl true) := rfl
@[simp] theorem gIsnt_tup (i : List D) : gIsnt (.tup i) .non = some (.bl true) := rfl
@[simp] theorem gIsnt_lst (i : List D) : gIsnt (.lst i) .non = some (.bl true) := rfl
@[simp] theorem gIsnt_str (i : Str) : gIsnt (.str i) .non = some (.bl true) := rfl
theorem non_of {H : Hp} {x : V} {a : D} (r : Rep true K H x a) : decide (x = .non) = isNonD a := by
  cases r <;> simp [isNonD]
theorem d_is : Does2 K (fun x y H Q => y = .non ∧ Q (.bl (decide (x = .non))) H) gIs := by
  intro H x y a b d Q r1 r2 e q
  cases r2 with
  | non =>
    have e : some (D.bl (isNonD a)) = some d := by cases a <;> exact e
    cases e
    refine ⟨rfl, ?_⟩
    rw [non_of r1]
    exact q _ fun _ => .bl _
  | _ => exact absurd e (by cases a <;> simp [gIs])
theorem d_isnt : Does2 K (fun x y H Q => y = .non ∧ Q (.bl (!decide (x = .non))) H) gIsnt := by
  intro H x y a b d Q r1 r2 e q
  cases r2 with
  | non =>
    have e : some (D.bl (!isNonD a)) = some d := by cases a <;> exact e
    cases e
    refine ⟨rfl, ?_⟩
    rw [non_of r1]
    exact q _ fun _ => .bl _
  | _ => exact absurd e (by cases a <;> simp [gIsnt])
end

/-! ### items -/
def elT : Tg → Tg
  | .im => .im | .ar => .ar | .lo => .lo | .fr => .im | .oc => .im
def atD : D → D → R D
  | .lst ds, .int k => ofO (atI ds k)
  | .tup ds, .int k => ofO (atI ds k)
  | .str z, .int k => if z.length ≤ sizeLine then ofO ((atI z.cps.toList k).map fun c => .str ⟨#[c]⟩) else .bad
  | _, _ => .bad
@[simp] theorem atD_lst (ds : List D) (k : Int) : atD (.lst ds) (.int k) = ofO (atI ds k) := rfl
@[simp] theorem atD_tup (ds : List D) (k : Int) : atD (.tup ds) (.int k) = ofO (atI ds k) := rfl
@[simp] theorem atD_str (z : Str) (k : Int) : atD (.str z) (.int k) = if z.length ≤ sizeLine then ofO ((atI z.cps.toList k).map fun c => .str ⟨#[c]⟩) else .bad := rfl
@[simp] def eIx (fa fb : List D → R D) (e : List D) : R D := (fa e).bind fun d => (fb e).bind fun i => atD d i
section
variable {K : PySem.W.Frag} {H0 H B H' : Hp}
/-- a list's or tuple's items, by their tag -/
theorem RepT.lst_at {m : Tg} {v : V} {ds : List D} (r : RepT K H0 H B H' m v (.lst ds)) (s : Same B H') (s0 : Same H0 H') : ∃ p vs, v = .ref p ∧ SqL K H' p vs ∧ vs.length = ds.length ∧ ∀ (j : Nat) d, ds[j]? = some d → ∃ x, vs[j]? = some x ∧ RepT K H0 H B H' (elT m) x d := by
  cases m with
  | im =>
    obtain ⟨a, vs, rfl, h, q⟩ := Rep.sq r
    exact ⟨_, _, rfl, s.seq h, q.length, fun j d e => q.get e⟩
  | ar =>
    obtain ⟨a, vs, rfl, h, q⟩ := Rep.sq r
    exact ⟨_, _, rfl, s0.seq h, q.length, fun j d e => q.get e⟩
  | lo =>
    obtain ⟨a, vs, rfl, h, q⟩ := Rep.sq r
    exact ⟨_, _, rfl, h, q.length, fun j d e => q.get e⟩
  | fr =>
    obtain ⟨p, rfl, _, _, vs, h, q⟩ := r
    exact ⟨p, vs, rfl, SqL.of h, q.length, fun j d e => q.get e⟩
  | oc =>
    obtain ⟨p, rfl, vs, h, q⟩ := r
    exact ⟨p, vs, rfl, SqL.of h, q.length, fun j d e => q.get e⟩
theorem RepT.tup_at {m : Tg} {v : V} {ds : List D} (r : RepT K H0 H B H' m v (.tup ds)) (s : Same B H') (s0 : Same H0 H') : ∃ p vs, v = .ref p ∧ Rd H' p (.tup vs) ∧ vs.length = ds.length ∧ ∀ (j : Nat) d, ds[j]? = some d → ∃ x, vs[j]? = some x ∧ RepT K H0 H B H' (elT m) x d := by
  cases m with
  | im =>
    cases r with
    | tup h q => exact ⟨_, _, rfl, same_rd s h, q.length, fun j d e => q.get e⟩
  | ar =>
    cases r with
    | tup h q => exact ⟨_, _, rfl, same_rd s0 h, q.length, fun j d e => q.get e⟩
  | lo =>
    cases r with
    | tup h q => exact ⟨_, _, rfl, h, q.length, fun j d e => q.get e⟩
  | fr =>
    obtain ⟨p, rfl, _, _, h⟩ := r
    exact h.elim
  | oc =>
    obtain ⟨p, rfl, h⟩ := r
    exact h.elim
theorem atI_of {α β : Type} {xs : List α} {ys : List β} {k : Int} {y : β} (hl : xs.length = ys.length) (h : atI ys k = some y) : ∃ j : Nat, ys[j]? = some y ∧ ∀ x, xs[j]? = some x → atI xs k = some x := by
  unfold atI at h ⊢
  cases e : ixN ys.length k with
  | none => rw [e] at h; cases h
  | some j =>
    rw [e] at h
    refine ⟨j, h, fun x hx => ?_⟩
    rw [hl, e]
    exact hx
theorem RepT.flat {m : Tg} {v : V} {d : D} (hm : m = .im ∨ m = .ar ∨ m = .lo) (h : ∀ B, Rep false K B v d) : RepT K H0 H B H' m v d := by
  rcases hm with rfl | rfl | rfl
  · exact h _
  · exact (h _).wide
  · exact (h _).wide
end
section
variable {X : Cx} {G : List Md} {W : WX} {pos : Pos} {a b : Expr} {fa fb : List D → R D} {ma mb : Tg}
theorem ve_item (ha : PE X a (vE X.K X.mg G W ma fa)) (hb : PE X b (vE X.K X.mg G W mb fb)) (hp : PlainIx b := by exact fun _ _ => rfl) : PE X (.Subscript a b pos) (vE X.K X.mg G W (elT ma) (eIx fa fb)) := by
  refine pe_weak (pe_ix ix_seq ha hb hp) fun sg H Q h => ?_
  refine seq2 (kk := fun d i => atD d i) h fun B0 H0 B e B2 H2 x y d1 d2 S S2 x2 r1 r2 k => ?_
  have s0 : Same H0 H2 := S2.ext.h
  have q2 := r2.all x2.s s0
  cases d2 with
  | int i =>
    cases q2
    cases d1 with
    | lst ds =>
      obtain ⟨p, vs, rfl, hp, hl, hi⟩ := r1.lst_at x2.s s0
      cases ea : atI ds i with
      | none => simp only [atD, ea, ofO] at k; exact k.elim
      | some d =>
        simp only [atD, ea, ofO] at k
        obtain ⟨j, hj, hx⟩ := atI_of hl ea
        obtain ⟨v, hv, rv⟩ := hi j d hj
        exact .inl ⟨p, vs, i, v, rfl, rfl, hp, hx v hv, k B2 H2 v x2 rv⟩
    | tup ds =>
      obtain ⟨p, vs, rfl, hp, hl, hi⟩ := r1.tup_at x2.s s0
      cases ea : atI ds i with
      | none => simp only [atD, ea, ofO] at k; exact k.elim
      | some d =>
        simp only [atD, ea, ofO] at k
        obtain ⟨j, hj, hx⟩ := atI_of hl ea
        obtain ⟨v, hv, rv⟩ := hi j d hj
        exact .inr (.inl ⟨p, vs, i, v, rfl, rfl, .inl hp, hx v hv, k B2 H2 v x2 rv⟩)
    | str z =>
      have q1 := r1.all x2.s s0
      cases q1
      simp only [atD] at k
      by_cases hz : z.length ≤ sizeLine
      · rw [if_pos hz] at k
        cases ea : atI z.cps.toList i with
        | none => rw [ea] at k; exact k.elim
        | some c =>
          rw [ea] at k
          refine .inr (.inr ⟨z, i, c, rfl, rfl, hz, ea, k B2 H2 _ x2 (RepT.flat ?_ fun _ => .str _)⟩)
          cases ma <;> simp [elT]
      · rw [if_neg hz] at k; exact k.elim
    | _ => simp only [atD] at k; exact k.elim
  | _ =>
    cases d1 <;> (simp only [atD] at k; exact k.elim)
end

/-! ### displays -/
@[simp] def eTup (fs : List D → R (List D)) (e : List D) : R D := (fs e).bind fun ds => if ds.length ≤ sizeLine then .ok (.tup ds) else .bad
@[simp] def eLst (fs : List D → R (List D)) (e : List D) : R D := (fs e).bind fun ds => if ds.length ≤ sizeLine then .ok (.lst ds) else .bad
def allIm : List Tg → Bool
  | [] => true
  | .im :: ts => allIm ts
  | _ => false
theorem reps_im {K : PySem.W.Frag} {H0 H B H' : Hp} : ∀ {ts : List Tg} {vs : List V} {ds : List D}, allIm ts = true → RepTs K H0 H B H' ts vs ds → Reps false K B vs ds
  | [], [], [], _, _ => .nil
  | .im :: ts, _ :: _, _ :: _, h, ⟨r, rs⟩ => .cons r (reps_im (ts := ts) h rs)
section
variable {X : Cx} {G : List Md} {W : WX} {pos : Pos} {es : List Expr} {fs : List D → R (List D)} {ts : List Tg}
theorem ve_tup {x1} (h : PA X es (vA X.K X.mg G W ts fs)) (hi : allIm ts = true := by rfl) : PE X (.Tuple es x1 pos) (vE X.K X.mg G W .im (eTup fs)) := by
  refine pe_weak (pe_tup h) fun sg H Q ⟨B0, H0, B, e, S, k⟩ => ⟨B0, H0, B, e, S, ?_⟩
  unfold eTup at k
  cases ef : fs e with
  | bad => rw [ef] at k; exact k.elim
  | ex c => rw [ef] at k; exact k
  | ok ds =>
    rw [ef, R.bind_ok] at k
    intro B1 H1 vs x1 r1
    have rs := reps_im hi r1
    by_cases hz : ds.length ≤ sizeLine
    · rw [if_pos hz] at k
      refine ⟨by rw [rs.length]; exact hz, fun p hp => ?_⟩
      have x2 : Ext B1 H1 (upd B1 p (.tup vs)) (upd H1 p (.tup vs)) := .newB x1.s hp
      exact k _ _ _ (x1.trans x2) (.tup (.inl upd_same) (rs.mono x2.b))
    · rw [if_neg hz] at k; exact k.elim
theorem ve_lst (h : PA X es (vA X.K X.mg G W ts fs)) (hi : allIm ts = true := by rfl) : PE X (.List es pos) (vE X.K X.mg G W .fr (eLst fs)) := by
  refine pe_weak (pe_lst h) fun sg H Q ⟨B0, H0, B, e, S, k⟩ => ⟨B0, H0, B, e, S, ?_⟩
  unfold eLst at k
  cases ef : fs e with
  | bad => rw [ef] at k; exact k.elim
  | ex c => rw [ef] at k; exact k
  | ok ds =>
    rw [ef, R.bind_ok] at k
    intro B1 H1 vs x1 r1
    have rs := reps_im hi r1
    by_cases hz : ds.length ≤ sizeLine
    · rw [if_pos hz] at k
      refine ⟨by rw [rs.length]; exact hz, fun p hp => ?_⟩
      have x2 : Ext B1 H1 B1 (upd H1 p (.lst vs)) := .newH x1.s hp
      exact k _ _ _ (x1.trans x2) ⟨p, rfl, x1.h.free hp, x1.s.free hp, vs, upd_same, rs⟩
    · rw [if_neg hz] at k; exact k.elim
end

/-! ### calls of built-ins with flat answers -/
def DoesN (K : PySem.W.Frag) (r : List V → Hp → VK → Prop) (g : List D → Option D) : Prop := ∀ (H : Hp) (vs : List V) (ds : List D) (d : D) (Q : VK), Reps true K H vs ds → g ds = some d → (∀ v, (∀ B, Rep false K B v d) → Q v H) → r vs H Q
theorem reps_all {K : PySem.W.Frag} {H0 H B H' : Hp} (s : Same B H') (s0 : Same H0 H') : ∀ {ts : List Tg} {vs : List V} {ds : List D}, RepTs K H0 H B H' ts vs ds → Reps true K H' vs ds
  | [], [], [], _ => .nil
  | _ :: _, _ :: _, _ :: _, ⟨r, rs⟩ => .cons (r.all s s0) (reps_all s s0 rs)
@[simp] def eB (g : List D → Option D) (fs : List D → R (List D)) (e : List D) : R D := (fs e).bind fun ds => ofO (g ds)
section
variable {X : Cx} {G : List Md} {W : WX} {p pos : Pos} {a : Expr} {es : List Expr} {fs : List D → R (List D)} {ts : List Tg} {r : List V → Hp → VK → Prop} {g : List D → Option D} {x : Str}
theorem callN_flat {K : PySem.W.Frag} {mg : Str → Option Value} (hd : DoesN K r g) (sg : St) (H : Hp) (Q : VK) (h : vE K mg G W .im (eB g fs) sg H Q) : vA K mg G W ts fs sg H fun vs H1 => r vs H1 Q := by
  obtain ⟨B0, H0, B, e, S, k⟩ := h
  refine ⟨B0, H0, B, e, S, ?_⟩
  unfold eB at k
  cases ef : fs e with
  | bad => rw [ef] at k; exact k.elim
  | ex c => rw [ef] at k; exact k
  | ok ds =>
    rw [ef, R.bind_ok] at k
    intro B1 H1 vs x1 r1
    cases eg : g ds with
    | none => rw [eg] at k; exact k.elim
    | some d =>
      rw [eg] at k
      exact hd H1 vs ds d Q (reps_all x1.s (S.ext.h.trans x1.h) r1) eg fun v hv => k B1 H1 v x1 (hv _)
theorem ve_blt {id : String} (hc : CallR X (.builtin id) r) (hd : DoesN X.K r g) (hm : X.mg x = none) (hv : bootBuiltins x = some (.builtin id)) (ha : PA X (a :: es) (vA X.K X.mg G W ts fs)) (hg : Gl X x := by rfl) (hn : x ≠ "__name__" := by decide) (hdb : (x == ("__debug__" : Str)) = false := by decide)
    (he : starEach (a :: es) X.env = (false, eval a X.env) :: starEach es X.env := by rfl) (hpl : (backTo pos (starEach es X.env)).any (·.1) = false := by rfl) : PE X (.Call (.Name x p) (a :: es) [] pos) (vE X.K X.mg G W .im (eB g fs)) :=
  pe_weak (pe_callB hc hg hm hv ha hn hdb he hpl) (callN_flat hd)
theorem ve_bty {T : String} (hc : CallR X (.type T) r) (hd : DoesN X.K r g) (hm : X.mg x = none) (hv : bootBuiltins x = some (.type T)) (ha : PA X (a :: es) (vA X.K X.mg G W ts fs)) (hg : Gl X x := by rfl) (hn : x ≠ "__name__" := by decide) (hdb : (x == ("__debug__" : Str)) = false := by decide)
    (he : starEach (a :: es) X.env = (false, eval a X.env) :: starEach es X.env := by rfl) (hpl : (backTo pos (starEach es X.env)).any (·.1) = false := by rfl) : PE X (.Call (.Name x p) (a :: es) [] pos) (vE X.K X.mg G W .im (eB g fs)) :=
  pe_weak (pe_callTy hc hg hm hv ha hn hdb he hpl) (callN_flat hd)
end
/-- len of a list, a tuple, a text -/
def gLen : List D → Option D
  | [.lst ds] => some (.int ds.length)
  | [.tup ds] => some (.int ds.length)
  | [.str z] => if z.length ≤ sizeLine then some (.int z.length) else none
  | _ => none
@[simp] theorem gLen_lst (ds : List D) : gLen [.lst ds] = some (.int ds.length) := rfl
@[simp] theorem gLen_tup (ds : List D) : gLen [.tup ds] = some (.int ds.length) := rfl
@[simp] theorem gLen_str (z : Str) : gLen [.str z] = if z.length ≤ sizeLine then some (.int z.length) else none := rfl
section
variable {K : PySem.W.Frag}
theorem reps1 {c : Bool} {H : Hp} {vs : List V} {d : D} (h : Reps c K H vs [d]) : ∃ v, vs = [v] ∧ Rep c K H v d := by
  cases h with
  | cons h r =>
    cases r
    exact ⟨_, rfl, h⟩
theorem reps2 {c : Bool} {H : Hp} {vs : List V} {d d' : D} (h : Reps c K H vs [d, d']) : ∃ v v', vs = [v, v'] ∧ Rep c K H v d ∧ Rep c K H v' d' := by
  cases h with
  | cons h r =>
    obtain ⟨v', rfl, h'⟩ := reps1 r
    exact ⟨_, _, rfl, h, h'⟩
theorem d_len : DoesN K (fun xs H Q => ∃ x n, xs = [x] ∧ LenV K x H n ∧ Q (.int n) H) gLen := by
  intro H vs ds d Q r e q
  unfold gLen at e
  split at e
  · cases e
    obtain ⟨v, rfl, h⟩ := reps1 r
    obtain ⟨a, us, rfl, h, q'⟩ := h.sq
    exact ⟨_, _, rfl, .inl ⟨_, h, rfl⟩, by rw [q'.length]; exact q _ fun _ => .int _⟩
  · cases e
    obtain ⟨v, rfl, h⟩ := reps1 r
    cases h with
    | tup h q' => exact ⟨_, _, rfl, .inr ⟨_, .inl h, rfl⟩, by rw [q'.length]; exact q _ fun _ => .int _⟩
  · obtain ⟨v, rfl, h⟩ := reps1 r
    cases h
    split at e
    · cases e
      exact ⟨_, _, rfl, ⟨by assumption, rfl⟩, q _ fun _ => .int _⟩
    · cases e
  · cases e
end
/-! ### divmod -/
def gDivmod : List D → R D
  | [.int i, .int j] => if CDivP i j then .ok (.tup [.int (i / j), .int (i % j)]) else .bad
  | _ => .bad
@[simp] theorem gDivmod_int (i j : Int) : gDivmod [.int i, .int j] = if CDivP i j then .ok (.tup [.int (i / j), .int (i % j)]) else .bad := rfl
section
variable {X : Cx} {G : List Md} {W : WX} {p pos : Pos} {a : Expr} {es : List Expr} {fs : List D → R (List D)} {ts : List Tg}
theorem ve_divmod (hm : X.mg "divmod" = none) (ha : PA X (a :: es) (vA X.K X.mg G W ts fs)) (hg : Gl X "divmod" := by rfl)
    (he : starEach (a :: es) X.env = (false, eval a X.env) :: starEach es X.env := by rfl) (hpl : (backTo pos (starEach es X.env)).any (·.1) = false := by rfl) : PE X (.Call (.Name "divmod" p) (a :: es) [] pos) (vE X.K X.mg G W .im (eCall gDivmod fs)) := by
  refine pe_weak (pe_callB call_divmodW hg hm (by decide +kernel) ha (by decide) (by decide) he hpl) fun sg H Q ⟨B0, H0, B, e, S, k⟩ => ⟨B0, H0, B, e, S, ?_⟩
  unfold eCall at k
  cases ef : fs e with
  | bad => rw [ef] at k; exact k.elim
  | ex c => rw [ef] at k; exact k
  | ok ds =>
    rw [ef, R.bind_ok] at k
    intro B1 H1 vs x1 r1
    have rs := reps_all x1.s (S.ext.h.trans x1.h) r1
    unfold gDivmod at k
    split at k
    · obtain ⟨v, v', rfl, h1, h2⟩ := reps2 rs
      cases h1
      cases h2
      split at k
      · refine ⟨_, _, rfl, by assumption, fun p hp => ?_⟩
        exact k _ _ _ (x1.trans (.newB x1.s hp)) (.tup (.inl upd_same) (.cons (.int _) (.cons (.int _) .nil)))
      · exact k.elim
    · exact k.elim
end
/-! ### a, b = e1, e2 -/
def parD (i j : Nat) (e : List D) : List D → R Fl
  | [d1, d2] => .ok (.nx ((e.set i d1).set j d2))
  | _ => .bad
@[simp] theorem parD_two (i j : Nat) (e : List D) (d1 d2 : D) : parD i j e [d1, d2] = .ok (.nx ((e.set i d1).set j d2)) := rfl
@[simp] def sPar (i j : Nat) (fs : List D → R (List D)) (e : List D) : R Fl := (fs e).bind fun ds => parD i j e ds
section
variable {X : Cx} {G : List Md} {W : WX} {rm : Rm} {pos : Pos} {a b : Expr} {fs : List D → R (List D)} {i j : Nat} {x y : Str} {px py pt : Pos} {kt k2 pt2}
theorem vs_par (hc : X.calm = true) (hN : X.N.Nodup) (ha : PA X [a, b] (vA X.K X.mg G W [.im, .im] fs)) (hij : i ≠ j) (hi : X.N[i]? = some x := by rfl) (hj : X.N[j]? = some y := by rfl)
    (hx : X.env.scope.names.lookup x = some .local := by rfl) (hy : X.env.scope.names.lookup y = some .local := by rfl)
    (hw : swappedStores [.Tuple [.Name x px, .Name y py] kt pt] (.Tuple [a, b] k2 pt2) X.env = pure (some [x, y]) := by rfl)
    (hs : swapsWithSole [.Tuple [.Name x px, .Name y py] kt pt] (.Tuple [a, b] k2 pt2) pos.line X.env = pure false := by rfl) :
    PS X (.Assign [.Tuple [.Name x px, .Name y py] kt pt] (.Tuple [a, b] k2 pt2) pos) (vS X.K X.mg G ((G.set i .im).set j .im) W rm (sPar i j fs)) := by
  refine ps_weak (ps_par hc hN hi hj hij hx hy ha hw hs) fun Dn sg H ⟨B0, H0, B, e, S, k⟩ => ⟨B0, H0, B, e, S, ?_⟩
  unfold sPar at k
  cases ef : fs e with
  | bad => rw [ef] at k; exact k.elim
  | ex c => rw [ef] at k; exact ks_ex S k
  | ok ds =>
    rw [ef, R.bind_ok] at k
    intro B1 H1 vs x1 r1
    unfold parD at k
    split at k
    · match vs, r1 with
      | [v1, v2], ⟨r1, r2, _⟩ =>
        refine ⟨v1, v2, rfl, ?_⟩
        have S1 := S.later x1
        exact k _ B1 H1 ((S1.set i (m := .im) r1 (fun z => by cases z)).set j (m := .im) r2 (fun z => by cases z))
    · exact k.elim
end
/-! ### isinstance of built-in kinds -/
def tyD : D → String
  | .non => "NoneType" | .bl _ => "bool" | .int _ => "int" | .str _ => "str" | .tup _ => "tuple" | .lst _ => "list" | .dic _ => "dict"
theorem tyx_of {c : Bool} {K : PySem.W.Frag} {H : Hp} {v : V} {d : D} (r : Rep c K H v d) : TyX K H v (.type (tyD d)) := by
  cases r with
  | non => exact .base .non
  | bl b => exact .base (.bl b)
  | int i => exact .base (.int i)
  | str x => exact .base (.str x)
  | lst h _ =>
    rcases h with h | ⟨o, h⟩
    · exact .base (.lst h)
    · exact .base (.frz h)
  | kls _ h _ =>
    rcases h with (h | ⟨o, h⟩) | ⟨o, its, n, h, hc, _⟩
    · exact .base (.lst h)
    · exact .base (.frz h)
    · exact .kList h hc
  | tup h _ =>
    rcases h with h | ⟨o, h⟩
    · exact .base (.tup h)
    · exact .fTuple h
  | dic h _ =>
    rcases h with h | ⟨o, h⟩
    · exact .base (.dK h)
    · exact .fDict h
def isiD (T : String) (d : D) : Option Bool := kitB (tyD d) T
@[simp] def eIsi (T : String) (f : List D → R D) (e : List D) : R D := (f e).bind fun d => ofO ((isiD T d).map .bl)
section
variable {X : Cx} {G : List Md} {W : WX} {p p2 pos : Pos} {a : Expr} {f : List D → R D} {m : Tg} {T : Str} {Tn : String}
theorem ve_isi (hm : X.mg "isinstance" = none) (hmT : X.mg T = none) (hT : bootBuiltins T = some (.type Tn)) (ha : PE X a (vE X.K X.mg G W m f)) (hg : Gl X "isinstance" := by rfl) (hgT : Gl X T := by rfl) (hn : T ≠ "__name__" := by decide) (hdT : (T == ("__debug__" : Str)) = false := by decide)
    (he : starEach (a :: [.Name T p2]) X.env = (false, eval a X.env) :: starEach [.Name T p2] X.env := by rfl) (he2 : starEach [.Name T p2] X.env = (false, eval (.Name T p2) X.env) :: starEach [] X.env := by rfl) (hpl : (backTo pos (starEach [.Name T p2] X.env)).any (·.1) = false := by rfl) :
    PE X (.Call (.Name "isinstance" p) [a, .Name T p2] [] pos) (vE X.K X.mg G W .im (eIsi Tn f)) := by
  refine pe_weak (pe_callB call_isi hg hm (by decide +kernel) (pa_cons ha (pa_cons (pe_bltn (v := .ty Tn) hgT hmT hT rfl hn hdT) pa_nil he2) he) (by decide) (by decide) he hpl) fun sg H Q ⟨B0, H0, B, e, S, k⟩ => ?_
  refine seq1 (P := KE X.K X.mg W sg H0 B H Q .im) S k (fun c k => k) (fun k => k) fun B1 H1 x d x1 S1 r1 k1 => ?_
  have r := r1.all x1.s S1.ext.h
  cases ei : isiD Tn d with
  | none => rw [ei] at k1; exact k1.elim
  | some b =>
    rw [ei] at k1
    exact ⟨x, .ty Tn, _, _, b, rfl, .ty Tn, tyx_of r, kit_ty ei, k1 B1 H1 _ x1 (.bl b)⟩
end
end L2.VL
set_option Elab.async false
set_option linter.all false
set_option maxRecDepth 100000
set_option maxHeartbeats 4000000
namespace L2.VL
open PySem PySem.Spec PyProof.Rows
/-! ## the law's end -/
def spLaw (K : PySem.W.Frag) : Sp := fun vs H Q _ => ∃ (a : Addr) (ns : List Int), vs = [.ref a] ∧ ns.length ≤ 63 ∧ (∀ z ∈ ns, Builtin.Int.intBits z ≤ 1048576) ∧ SqL K H a (ns.map V.int) ∧ ∀ H', Q (.bl true) H'
theorem reps_ints {c : Bool} {K : PySem.W.Frag} {B : Hp} : ∀ ns : List Int, Reps c K B (ns.map V.int) (ns.map D.int)
  | [] => .nil
  | n :: ns => .cons (.int n) (reps_ints ns)
theorem law_imp {P : Program} {w : World} {K : PySem.W.Frag} {mg : Str → Option Value} {base : Heap} {k : Nat} {f : Addr} {fd : FuncData} {ps : List Str} {F : List D → R D}
    (hl : ∀ ns : List Int, ns.length ≤ 63 → (∀ z ∈ ns, Builtin.Int.intBits z ≤ 1048576) → F [.lst (ns.map D.int)] = .ok (.bl true))
    (h : FnOk P w K mg base (L2.CX P w) k f fd ps (spF K mg [.ar] .im F)) : FnOk P w K mg base (L2.CX P w) k f fd ps (spLaw K) := by
  refine FnOk.imp h fun vs H Q E hs => ?_
  obtain ⟨a, ns, rfl, h1, h2, hS, q⟩ := hs
  refine ⟨fun _ => none, [.lst (ns.map D.int)], fun b o e => (nomatch e), ⟨.kls rfl hS (reps_ints ns), trivial⟩, ?_⟩
  rw [hl ns h1 h2]
  intro B' H' v x r
  cases r
  exact q H'
theorem cx_false {P : Program} {w : World} {H : Hp} {s : Shared} {e : Value} {s' : Shared} (h : L2.CX P w [] H s (fun _ _ _ => False) e s') : False := by
  obtain ⟨_, _, _, _, _, _, _, _, _, _, _, _, z⟩ := h
  exact z.elim
/-! ## step by step -/
theorem run_seq {g1 g2 : List D → R Fl} {e e' : List D} {r : R D} (h1 : g1 e = .ok (.nx e')) (h2 : (g2 e').bind Fl.fin = r) : (sSeq g1 g2 e).bind Fl.fin = r := by
  unfold sSeq
  rw [h1]
  exact h2
theorem run_ret {g1 g2 : List D → R Fl} {e : List D} {d : D} {r : R D} (h1 : g1 e = .ok (.rt d)) (h2 : R.ok d = r) : (sSeq g1 g2 e).bind Fl.fin = r := by
  unfold sSeq
  rw [h1]
  exact h2
theorem run_end {g1 : List D → R Fl} {e : List D} {d : D} {r : R D} (h1 : g1 e = .ok (.rt d)) (h2 : R.ok d = r) : (g1 e).bind Fl.fin = r := by
  rw [h1]
  exact h2
theorem seq_nx {g1 g2 : List D → R Fl} {e e' : List D} {r : R Fl} (h1 : g1 e = .ok (.nx e')) (h2 : g2 e' = r) : sSeq g1 g2 e = r := by
  unfold sSeq
  rw [h1]
  exact h2
theorem seq_rt {g1 g2 : List D → R Fl} {e : List D} {d : D} {r : R Fl} (h1 : g1 e = .ok (.rt d)) (h2 : .ok (.rt d) = r) : sSeq g1 g2 e = r := by
  unfold sSeq
  rw [h1]
  exact h2
theorem if_t {c : List D → R Bool} {g1 g2 : List D → R Fl} {e : List D} {r : R Fl} (h1 : c e = .ok true) (h2 : g1 e = r) : sIf c g1 g2 e = r := by
  unfold sIf
  rw [h1]
  exact h2
theorem if_f {c : List D → R Bool} {g1 g2 : List D → R Fl} {e : List D} {r : R Fl} (h1 : c e = .ok false) (h2 : g2 e = r) : sIf c g1 g2 e = r := by
  unfold sIf
  rw [h1]
  exact h2
/-! ## data of whole numbers -/
def asInts : List D → Option (List Int)
  | [] => some []
  | .int i :: ds => (asInts ds).map (i :: ·)
  | _ :: _ => none
theorem asInts_map : ∀ ns : List Int, asInts (ns.map D.int) = some ns
  | [] => rfl
  | n :: ns => by
    show (asInts (ns.map D.int)).map (n :: ·) = some (n :: ns)
    rw [asInts_map ns]
    rfl
theorem asInts_eq : ∀ {ds : List D} {ns : List Int}, asInts ds = some ns → ds = ns.map D.int
  | [], ns, h => by cases h; rfl
  | .int i :: ds, ns, h => by
    have h : (asInts ds).map (i :: ·) = some ns := h
    cases e : asInts ds with
    | none => rw [e] at h; cases h
    | some ms =>
      rw [e] at h
      cases h
      rw [asInts_eq e]
      rfl
  | .non :: _, _, h => by cases h
  | .bl _ :: _, _, h => by cases h
  | .str _ :: _, _, h => by cases h
  | .tup _ :: _, _, h => by cases h
  | .lst _ :: _, _, h => by cases h
  | .dic _ :: _, _, h => by cases h
/-! ## sizes -/
theorem mulOk_left {a b : Int} (h1 : -(2 ^ 64) < a) (h2 : a < 2 ^ 64) : IntMulOk a b := .of_left (intBits_le_64 h1 h2)
theorem mulOk_right {a b : Int} (h1 : -(2 ^ 64) < b) (h2 : b < 2 ^ 64) : IntMulOk a b := .of_right (intBits_le_64 h1 h2)
theorem intBits_lt {z : Int} {n : Nat} (h : z.natAbs < 2 ^ n) : Builtin.Int.intBits z ≤ n := PyProof.Rows.intBits_le h
theorem mulOk_bits {a b : Int} {n m : Nat} (ha : a.natAbs < 2 ^ n) (hb : b.natAbs < 2 ^ m) (h : n + m ≤ 134217728) : IntMulOk a b := by
  have h1 := intBits_lt ha
  have h2 := intBits_lt hb
  unfold IntMulOk
  intro z
  rw [Bool.and_eq_true] at z
  have z2 := z.2
  unfold Builtin.Int.intTooBig at z2
  have z3 := of_decide_eq_true z2
  have e : bitsLine = 134217728 := by decide
  rw [e] at z3
  omega
theorem divP_of {a b : Int} (h : 0 < b) (hb : b.natAbs < 2 ^ 9000) : CDivP a b := ⟨h, PyProof.noPylong_of_log2 (PySem.Flt.log2_lt_of (by decide) hb)⟩
theorem divP_small {a b : Int} (h : 0 < b) (hb : b < 1073741824) : CDivP a b := ⟨h, PyProof.noPylong_small (by omega)⟩
end L2.VL
set_option Elab.async false
set_option linter.all false
set_option maxRecDepth 100000
set_option maxHeartbeats 4000000
namespace OD
open PySem PySem.Spec PyProof.Rows L2 L2.VL
/-! ### a cell of the script -/
def cell (ns : List Int) (k : Nat) : Int := match ns[k]? with
  | some z => z
  | none => 40009 + 613 * k * k + (match ns with | [] => 0 | x :: _ => x % 99991 * (k + 3))
def G_law_cell : List D → R Fl := (sSeq (sIf (tVal (eOp gLt (eVar 1) (eB gLen (aCons (eVar 0) aNil)))) (sRet (eFlat (eIx (eVar 0) (eVar 1)))) sNil) (sSeq (sAsg 2 (eOp gAdd (eC (.int 40009)) (eOp gMul (eOp gMul (eC (.int 613)) (eVar 1)) (eVar 1)))) (sSeq (sIf (tVal (eOp gGt (eB gLen (aCons (eVar 0) aNil)) (eC (.int 0)))) (sAsg 2 (eOp gAdd (eVar 2) (eOp gMul (eOp gMod (eIx (eVar 0) (eC (.int 0))) (eC (.int 99991))) (eOp gAdd (eVar 1) (eC (.int 3)))))) sNil) (sRet (eVar 2)))))
def M_law_cell : List D → R D := runF 3 (G_law_cell)
def F_law_cell : List D → R D
  | [.lst ds, .int k] => match asInts ds with
    | some ns => if 0 ≤ k ∧ k < 4294967296 then .ok (.int (cell ns k.toNat)) else .bad
    | none => .bad
  | _ => .bad
theorem F_law_cell_eq (ns : List Int) (k : Int) (h0 : 0 ≤ k) (h1 : k < 4294967296) : F_law_cell [.lst (ns.map .int), .int k] = .ok (.int (cell ns k.toNat)) := by
  unfold F_law_cell
  simp only [asInts_map]
  rw [if_pos ⟨h0, h1⟩]
theorem atI_ints {ns : List Int} {k : Nat} {z : Int} (h : ns[k]? = some z) : atI (ns.map D.int) (k : Int) = some (.int z) := atI_nat (by rw [List.getElem?_map, h]; rfl)
theorem M_law_cell_eq (ns : List Int) (k : Nat) (h1 : k < 4294967296) : M_law_cell [.lst (ns.map .int), .int k] = .ok (.int (cell ns k)) := by
  unfold M_law_cell G_law_cell cell
  cases e : ns[k]? with
  | some z =>
    have hk : k < ns.length := (List.getElem?_eq_some_iff.mp e).1
    have hk' : (k : Int) < (ns.length : Int) := by omega
    simp [hk, atI_ints e]
  | none =>
    have hk : ¬ k < ns.length := fun z => by rw [List.getElem?_eq_getElem z] at e; cases e
    have m1 : IntMulOk 613 (k : Int) := mulOk_left (by decide) (by decide)
    have m2 : IntMulOk (613 * (k : Int)) (k : Int) := mulOk_right (by omega) (by omega)
    cases ns with
    | nil =>
      have hk0 : ¬ (k : Int) < 0 := by omega
      simp [m1, m2, hk0]
    | cons x r =>
      have m3 : IntMulOk (x % 99991) ((k : Int) + 3) := mulOk_left (by omega) (by omega)
      have a0 : atI (D.int x :: r.map D.int) 0 = some (.int x) := atI_nat (j := 0) rfl
      have hk2 : ¬ k < r.length + 1 := by simpa using hk
      have hk3 : ¬ (k : Int) < (r.length : Int) + 1 := by omega
      have hp : (0 : Int) < (r.length : Int) + 1 := by omega
      simp [m1, m2, m3, a0, hk3, hp]
theorem spec_law_cell (ds : List D) : F_law_cell ds = .bad ∨ M_law_cell ds = F_law_cell ds := by
  unfold F_law_cell
  split
  · rename_i ds k
    cases e : asInts ds with
    | none => exact .inl rfl
    | some ns =>
      rw [asInts_eq e]
      simp only []
      by_cases h : 0 ≤ k ∧ k < 4294967296
      · rw [if_pos h]
        obtain ⟨m, rfl⟩ : ∃ m : Nat, k = m := ⟨k.toNat, by omega⟩
        exact .inr (M_law_cell_eq ns m (by omega))
      · rw [if_neg h]
        exact .inl rfl
  · exact .inl rfl
/-! ### is it a whole number -/
def G_law_is_whole : List D → R Fl := (sRet (eAnd (eIsi "int" (eVar 0)) (eNot (eIsi "bool" (eVar 0)))))
def M_law_is_whole : List D → R D := runF 1 (G_law_is_whole)
theorem isi_int_int (i : Int) : isiD "int" (.int i) = some true := by show kitB "int" "int" = some true; decide +kernel
theorem isi_bool_int (i : Int) : isiD "bool" (.int i) = some false := by show kitB "int" "bool" = some false; decide +kernel
def F_law_is_whole : List D → R D
  | [.int _] => .ok (.bl true)
  | _ => .bad
theorem spec_law_is_whole (ds : List D) : F_law_is_whole ds = .bad ∨ M_law_is_whole ds = F_law_is_whole ds := by
  unfold F_law_is_whole
  split
  · exact .inr (by simp [M_law_is_whole, G_law_is_whole, isi_int_int, isi_bool_int])
  · exact .inl rfl
/-! ### the greatest divisor -/
def G_divisor (n : Nat) : List D → R Fl := (sSeq (whileN (tVal (eOp gGt (eVar 1) (eC (.int 0)))) (sSeq (sAsg 2 (eIx (eCall gDivmod (aCons (eVar 0) (aCons (eVar 1) aNil))) (eC (.int 1)))) (sSeq (sAsg 0 (eVar 1)) (sAsg 1 (eVar 2)))) n) (sRet (eVar 0)))
def M_divisor (n : Nat) : List D → R D := runF 3 (G_divisor n)
def F_divisor : List D → R D
  | [.int a, .int b] => if 0 ≤ a ∧ 0 ≤ b ∧ b.natAbs < 2 ^ 8000 then .ok (.int (Int.gcd a b)) else .bad
  | _ => .bad
theorem gcd_step (a b : Int) (hb : 0 < b) (ha : 0 ≤ a) : Int.gcd b (a % b) = Int.gcd a b := by
  obtain ⟨m, rfl⟩ : ∃ m : Nat, a = m := ⟨a.toNat, by omega⟩
  obtain ⟨k, rfl⟩ : ∃ k : Nat, b = k := ⟨b.toNat, by omega⟩
  have e : ((m : Int) % (k : Int)) = ((m % k : Nat) : Int) := by omega
  rw [e, Int.gcd_natCast_natCast, Int.gcd_natCast_natCast, Nat.gcd_comm m k, Nat.gcd_rec k m, Nat.gcd_comm]
theorem while_divisor : ∀ (n : Nat) (a b : Int) (r : D), 0 ≤ a → 0 ≤ b → b.natAbs < 2 ^ 8000 → b.toNat < n →
    ∃ r', whileN (tVal (eOp gGt (eVar 1) (eC (.int 0)))) (sSeq (sAsg 2 (eIx (eCall gDivmod (aCons (eVar 0) (aCons (eVar 1) aNil))) (eC (.int 1)))) (sSeq (sAsg 0 (eVar 1)) (sAsg 1 (eVar 2)))) n [.int a, .int b, r] = .ok (.nx [.int (Int.gcd a b), .int 0, r'])
  | 0, _, _, _, _, _, _, h => by omega
  | n + 1, a, b, r, ha, hb, hz, h => by
    by_cases h0 : b = 0
    · subst h0
      refine ⟨r, ?_⟩
      have e : ((Int.gcd a 0 : Nat) : Int) = a := by rw [Int.gcd_zero_right]; omega
      unfold whileN
      simp [e]
      omega
    · have hp : 0 < b := by omega
      have hd : CDivP a b := divP_of hp (Nat.lt_trans hz (Nat.pow_lt_pow_right (by decide) (by decide)))
      have hm := Int.emod_nonneg a (show b ≠ 0 by omega)
      have hl := Int.emod_lt_of_pos a hp
      obtain ⟨r', ih⟩ := while_divisor n b (a % b) (.int (a % b)) hb hm (Nat.lt_trans (show (a % b).natAbs < b.natAbs by omega) hz) (by omega)
      refine ⟨r', ?_⟩
      rw [← gcd_step a b hp ha, ← ih]
      have a1 : atI [D.int (a / b), D.int (a % b)] 1 = some (.int (a % b)) := rfl
      rw [whileN]
      simp [hp, hd, a1]
theorem spec_divisor (ds : List D) : F_divisor ds = .bad ∨ ∃ n, M_divisor n ds = F_divisor ds := by
  unfold F_divisor
  split
  · rename_i a b
    by_cases h : 0 ≤ a ∧ 0 ≤ b ∧ b.natAbs < 2 ^ 8000
    · rw [if_pos h]
      obtain ⟨r', e⟩ := while_divisor (b.toNat + 1) a b .non h.1 h.2.1 h.2.2 (by omega)
      refine .inr ⟨b.toNat + 1, ?_⟩
      simp [M_divisor, G_divisor, e]
    · rw [if_neg h]
      exact .inl rfl
  · exact .inl rfl
/-! ### the law's own -/
def G_law_divisor (n : Nat) : List D → R Fl := (sSeq (whileN (tVal (eOp gGt (eVar 1) (eC (.int 0)))) (sPar 0 1 (aCons (eVar 1) (aCons (eOp gMod (eVar 0) (eVar 1)) aNil))) n) (sRet (eVar 0)))
def M_law_divisor (n : Nat) : List D → R D := runF 2 (G_law_divisor n)
def F_law_divisor : List D → R D
  | [.int a, .int b] => if 0 ≤ a ∧ 0 ≤ b then .ok (.int (Int.gcd a b)) else .bad
  | _ => .bad
theorem while_law_divisor : ∀ (n : Nat) (a b : Int), 0 ≤ a → 0 ≤ b → b.toNat < n →
    whileN (tVal (eOp gGt (eVar 1) (eC (.int 0)))) (sPar 0 1 (aCons (eVar 1) (aCons (eOp gMod (eVar 0) (eVar 1)) aNil))) n [.int a, .int b] = .ok (.nx [.int (Int.gcd a b), .int 0])
  | 0, _, _, _, _, h => by omega
  | n + 1, a, b, ha, hb, h => by
    by_cases h0 : b = 0
    · subst h0
      have e : ((Int.gcd a 0 : Nat) : Int) = a := by rw [Int.gcd_zero_right]; omega
      unfold whileN
      simp [e]
      omega
    · have hp : 0 < b := by omega
      have hm := Int.emod_nonneg a (show b ≠ 0 by omega)
      have hl := Int.emod_lt_of_pos a hp
      have ih := while_law_divisor n b (a % b) hb hm (by omega)
      rw [← gcd_step a b hp ha, ← ih, whileN]
      simp [hp]
theorem spec_law_divisor (ds : List D) : F_law_divisor ds = .bad ∨ ∃ n, M_law_divisor n ds = F_law_divisor ds := by
  unfold F_law_divisor
  split
  · rename_i a b
    by_cases h : 0 ≤ a ∧ 0 ≤ b
    · rw [if_pos h]
      have e := while_law_divisor (b.toNat + 1) a b h.1 h.2 (by omega)
      refine .inr ⟨b.toNat + 1, ?_⟩
      simp [M_law_divisor, G_law_divisor, e]
    · rw [if_neg h]
      exact .inl rfl
  · exact .inl rfl
end OD
set_option Elab.async false
set_option linter.all false
set_option maxRecDepth 100000
set_option maxHeartbeats 4000000
namespace OD
open PySem PySem.Spec PyProof.Rows L2 L2.VL
def topS (i : Nat) : Stmt := PySem.Challenge.pw_oddsnet_k01_a_divisor.main.body.getD i (.Pass ⟨0, 0, 0, 0⟩)
abbrev s_divisor : Stmt := topS 1
abbrev s_law_is_whole : Stmt := topS 3
abbrev s_law_cell : Stmt := topS 4
abbrev s_law_divisor : Stmt := topS 5
abbrev s_law_number_by : Stmt := topS 6
abbrev s_law : Stmt := topS 7
/-- what the top has written -/
structure Tx (K : PySem.W.Frag) (mg : Str → Option Value) where
  f_divisor : Addr
  fd_divisor : FuncData
  F_divisor : Fun K "divisor" "divisor" s_divisor f_divisor fd_divisor
  g_divisor : mg "divisor" = some (.ref f_divisor)
  b_divisor : Binds K fd_divisor ["one", "other"] []
  f_law_is_whole : Addr
  fd_law_is_whole : FuncData
  F_law_is_whole : Fun K "_law_is_whole" "_law_is_whole" s_law_is_whole f_law_is_whole fd_law_is_whole
  g_law_is_whole : mg "_law_is_whole" = some (.ref f_law_is_whole)
  b_law_is_whole : Binds K fd_law_is_whole ["_law_found"] []
  f_law_cell : Addr
  fd_law_cell : FuncData
  F_law_cell : Fun K "_law_cell" "_law_cell" s_law_cell f_law_cell fd_law_cell
  g_law_cell : mg "_law_cell" = some (.ref f_law_cell)
  b_law_cell : Binds K fd_law_cell ["_law_script", "_law_k"] []
  f_law_divisor : Addr
  fd_law_divisor : FuncData
  F_law_divisor : Fun K "_law_divisor" "_law_divisor" s_law_divisor f_law_divisor fd_law_divisor
  g_law_divisor : mg "_law_divisor" = some (.ref f_law_divisor)
  b_law_divisor : Binds K fd_law_divisor ["_law_one", "_law_other"] []
  f_law_number_by : Addr
  fd_law_number_by : FuncData
  F_law_number_by : Fun K "_law_number_by" "_law_number_by" s_law_number_by f_law_number_by fd_law_number_by
  g_law_number_by : mg "_law_number_by" = some (.ref f_law_number_by)
  b_law_number_by : Binds K fd_law_number_by ["_law_cell_here"] []
  f_law : Addr
  fd_law : FuncData
  F_law : Fun K "law" "law" s_law f_law fd_law
  g_law : mg "law" = some (.ref f_law)
  b_law : Binds K fd_law ["_law_script"] []
  n_bool : mg "bool" = none
  n_divmod : mg "divmod" = none
  n_int : mg "int" = none
  n_isinstance : mg "isinstance" = none
  n_len : mg "len" = none
section
variable {P : Program} {w : World} {K : PySem.W.Frag} {mg : Str → Option Value} {base : Heap}
theorem sc_divisor : FnScope ["one", "other", "rest"] ["one", "other"] (defScope s_divisor) := ⟨rfl, rfl, rfl, by decide +kernel, rfl, by decide +kernel, by decide +kernel⟩
theorem okM_divisor (T : Tx K mg) (n : Nat) : FnOk P w K mg base (L2.CX P w) 1 T.f_divisor T.fd_divisor ["one", "other"] (spF K mg [.im, .im] .im (M_divisor n)) := by
  refine okV (ms := [.im, .im]) (G' := [.im, .im, .un]) (g := G_divisor n) T.F_divisor sc_divisor rfl rfl fun cdv A outer s H E hr => ?_
  have hp := passes_of (X := cxOf (L2.CX P w) P w K mg base ["one", "other", "rest"] "divisor" (defScope s_divisor) T.f_divisor cdv A outer s H E) rfl
  exact (vs_cons (vs_while n hp (vt_cmp op_gt d_gt (ve_im (i := 1)) ve_int) (vs_cons (vs_set (i := 2) (ve_item (ve_divmod T.n_divmod (va_cons (ve_im (i := 0)) (va_cons (ve_im (i := 1)) va_nil))) ve_int) sc_divisor.nd) (vs_cons (vs_set (i := 0) (ve_im (i := 1)) sc_divisor.nd) (vs_one (vs_set (i := 1) (ve_im (i := 2)) sc_divisor.nd)))) (by rfl)) (vs_one (vs_ret (ve_im (i := 0)))))
theorem ok_divisor (T : Tx K mg) : FnOk P w K mg base (L2.CX P w) 1 T.f_divisor T.fd_divisor ["one", "other"] (spF K mg [.im, .im] .im F_divisor) := FnOk.spec (fun n => okM_divisor T n) spec_divisor
theorem sc_law_is_whole : FnScope ["_law_found"] ["_law_found"] (defScope s_law_is_whole) := ⟨rfl, rfl, rfl, by decide +kernel, rfl, by decide +kernel, by decide +kernel⟩
theorem okM_law_is_whole (T : Tx K mg) : FnOk P w K mg base (L2.CX P w) 1 T.f_law_is_whole T.fd_law_is_whole ["_law_found"] (spF K mg [.im] .im (M_law_is_whole)) := by
  refine okV (ms := [.im]) (G' := [.im]) (g := G_law_is_whole) T.F_law_is_whole sc_law_is_whole rfl rfl fun cdv A outer s H E hr => ?_
  exact (vs_one (vs_ret (ve_and (ve_isi (Tn := "int") T.n_isinstance T.n_int (by decide +kernel) (ve_im (i := 0))) (ve_one (ve_not (ve_isi (Tn := "bool") T.n_isinstance T.n_bool (by decide +kernel) (ve_im (i := 0))))))))
theorem ok_law_is_whole (T : Tx K mg) : FnOk P w K mg base (L2.CX P w) 1 T.f_law_is_whole T.fd_law_is_whole ["_law_found"] (spF K mg [.im] .im F_law_is_whole) := FnOk.spec1 (okM_law_is_whole T) spec_law_is_whole
theorem sc_law_cell : FnScope ["_law_script", "_law_k", "_law_spare"] ["_law_script", "_law_k"] (defScope s_law_cell) := ⟨rfl, rfl, rfl, by decide +kernel, rfl, by decide +kernel, by decide +kernel⟩
theorem okM_law_cell (T : Tx K mg) : FnOk P w K mg base (L2.CX P w) 1 T.f_law_cell T.fd_law_cell ["_law_script", "_law_k"] (spF K mg [.ar, .im] .im (M_law_cell)) := by
  refine okV (ms := [.ar, .im]) (G' := [.ar, .im, .im]) (g := G_law_cell) T.F_law_cell sc_law_cell rfl rfl fun cdv A outer s H E hr => ?_
  exact (vs_cons (vs_if (G' := [.ar, .im, .un]) (vt_cmp op_lt d_lt (ve_im (i := 1)) (ve_blt call_len d_len T.n_len PySem.boot_len (va_cons (ve_ar (i := 0)) va_nil))) (vs_one (vs_ret (ve_flat (ve_item (ve_ar (i := 0)) (ve_im (i := 1)))))) vs_nil) (vs_cons (vs_set (i := 2) (ve_bin op_addF d_add ve_int (ve_bin op_mulOk d_mul (ve_bin op_mulOk d_mul ve_int (ve_im (i := 1))) (ve_im (i := 1)))) sc_law_cell.nd) (vs_cons (vs_if (G' := [.ar, .im, .im]) (vt_cmp op_gt d_gt (ve_blt call_len d_len T.n_len PySem.boot_len (va_cons (ve_ar (i := 0)) va_nil)) ve_int) (vs_one (vs_set (i := 2) (ve_bin op_addF d_add (ve_im (i := 2)) (ve_bin op_mulOk d_mul (ve_bin op_mod d_mod (ve_item (ve_ar (i := 0)) ve_int) ve_int) (ve_bin op_addF d_add (ve_im (i := 1)) ve_int))) sc_law_cell.nd)) vs_nil) (vs_one (vs_ret (ve_im (i := 2)))))))
theorem ok_law_cell (T : Tx K mg) : FnOk P w K mg base (L2.CX P w) 1 T.f_law_cell T.fd_law_cell ["_law_script", "_law_k"] (spF K mg [.ar, .im] .im F_law_cell) := FnOk.spec1 (okM_law_cell T) spec_law_cell
theorem sc_law_divisor : FnScope ["_law_one", "_law_other"] ["_law_one", "_law_other"] (defScope s_law_divisor) := ⟨rfl, rfl, rfl, by decide +kernel, rfl, by decide +kernel, by decide +kernel⟩
theorem okM_law_divisor (T : Tx K mg) (n : Nat) : FnOk P w K mg base (L2.CX P w) 1 T.f_law_divisor T.fd_law_divisor ["_law_one", "_law_other"] (spF K mg [.im, .im] .im (M_law_divisor n)) := by
  refine okV (ms := [.im, .im]) (G' := [.im, .im]) (g := G_law_divisor n) T.F_law_divisor sc_law_divisor rfl rfl fun cdv A outer s H E hr => ?_
  have hp := passes_of (X := cxOf (L2.CX P w) P w K mg base ["_law_one", "_law_other"] "_law_divisor" (defScope s_law_divisor) T.f_law_divisor cdv A outer s H E) rfl
  exact (vs_cons (vs_while n hp (vt_cmp op_gt d_gt (ve_im (i := 1)) ve_int) (vs_one (vs_par (i := 0) (j := 1) rfl sc_law_divisor.nd (va_cons (ve_im (i := 1)) (va_cons (ve_bin op_mod d_mod (ve_im (i := 0)) (ve_im (i := 1))) va_nil)) (by decide))) (by rfl)) (vs_one (vs_ret (ve_im (i := 0)))))
theorem ok_law_divisor (T : Tx K mg) : FnOk P w K mg base (L2.CX P w) 1 T.f_law_divisor T.fd_law_divisor ["_law_one", "_law_other"] (spF K mg [.im, .im] .im F_law_divisor) := FnOk.spec (fun n => okM_law_divisor T n) spec_law_divisor
theorem sc_law_number_by : FnScope ["_law_cell_here"] ["_law_cell_here"] (defScope s_law_number_by) := ⟨rfl, rfl, rfl, by decide +kernel, rfl, by decide +kernel, by decide +kernel⟩
def G_law_number_by : List D → R Fl := (sSeq (sIf (tVal (eOp gEq (eOp gMod (eVar 0) (eC (.int 2))) (eC (.int 0)))) (sRet (eOp gMod (eOp gMul (eOp gFdiv (eVar 0) (eC (.int 2))) (eC (.int 982451653))) (eOp gPow (eC (.int 10)) (eC (.int 60))))) sNil) (sRet (eOp gMod (eOp gFdiv (eVar 0) (eC (.int 2))) (eC (.int 13)))))
def M_law_number_by : List D → R D := runF 1 (G_law_number_by)
theorem okM_law_number_by (T : Tx K mg) : FnOk P w K mg base (L2.CX P w) 1 T.f_law_number_by T.fd_law_number_by ["_law_cell_here"] (spF K mg [.im] .im (M_law_number_by)) := by
  refine okV (ms := [.im]) (G' := [.im]) (g := G_law_number_by) T.F_law_number_by sc_law_number_by rfl rfl fun cdv A outer s H E hr => ?_
  exact (vs_cons (vs_if (G' := [.im]) (vt_cmp (op_eqA hr) d_eq (ve_bin op_mod d_mod (ve_im (i := 0)) ve_int) ve_int) (vs_one (vs_ret (ve_bin op_mod d_mod (ve_bin op_mulOk d_mul (ve_bin op_fdivP d_fdiv (ve_im (i := 0)) ve_int) ve_int) (ve_bin op_pow d_pow ve_int ve_int)))) vs_nil) (vs_one (vs_ret (ve_bin op_mod d_mod (ve_bin op_fdivP d_fdiv (ve_im (i := 0)) ve_int) ve_int))))
def numBy (c : Int) : Int := if c % 2 = 0 then c / 2 * 982451653 % 10 ^ 60 else c / 2 % 13
def F_law_number_by : List D → R D
  | [.int c] => .ok (.int (numBy c))
  | _ => .bad
theorem spec_law_number_by (ds : List D) : F_law_number_by ds = .bad ∨ M_law_number_by ds = F_law_number_by ds := by
  unfold F_law_number_by
  split
  · rename_i c
    have h1 : CDivP c 2 := divP_small (by decide) (by decide)
    have h2 : IntMulOk (c / 2) 982451653 := mulOk_right (by decide) (by decide)
    have h3 : CPow 10 60 := by decide
    refine .inr ?_
    by_cases h : c % 2 = 0
    · simp [M_law_number_by, G_law_number_by, h1, h2, h3, h, numBy]
    · simp [M_law_number_by, G_law_number_by, h1, h2, h3, h, numBy]
  · exact .inl rfl
theorem numBy_nn (c : Int) : 0 ≤ numBy c := by
  unfold numBy
  split
  · exact Int.emod_nonneg _ (by decide)
  · exact Int.emod_nonneg _ (by decide)
theorem numBy_lt (c : Int) : numBy c < 10 ^ 60 := by
  unfold numBy
  split
  · exact Int.emod_lt_of_pos _ (by decide)
  · exact Int.lt_trans (Int.emod_lt_of_pos _ (by decide)) (by decide)
theorem ok_law_number_by (T : Tx K mg) : FnOk P w K mg base (L2.CX P w) 1 T.f_law_number_by T.fd_law_number_by ["_law_cell_here"] (spF K mg [.im] .im F_law_number_by) := FnOk.spec1 (okM_law_number_by T) spec_law_number_by
theorem sc_law : FnScope ["_law_script", "_law_by", "_law_one", "_law_other", "_law_way", "_law_found", "_law_turned"] ["_law_script"] (defScope s_law) := ⟨rfl, rfl, rfl, by decide +kernel, rfl, by decide +kernel, by decide +kernel⟩
def G_law : List D → R Fl := (sSeq (sAsg 1 (eOp gAdd (eC (.int 1)) (eOp gMod (eOp gFdiv (eCall F_law_cell (aCons (eVar 0) (aCons (eC (.int 2)) aNil))) (eC (.int 2))) (eIx (eLst (aCons (eC (.int 7)) (aCons (eOp gPow (eC (.int 10)) (eC (.int 9))) aNil))) (eOp gMod (eCall F_law_cell (aCons (eVar 0) (aCons (eC (.int 2)) aNil))) (eC (.int 2))))))) (sSeq (sAsg 2 (eOp gMul (eCall F_law_number_by (aCons (eCall F_law_cell (aCons (eVar 0) (aCons (eC (.int 0)) aNil))) aNil)) (eVar 1))) (sSeq (sAsg 3 (eOp gMul (eCall F_law_number_by (aCons (eCall F_law_cell (aCons (eVar 0) (aCons (eC (.int 1)) aNil))) aNil)) (eVar 1))) (sSeq (sAsg 4 (eOp gMod (eCall F_law_cell (aCons (eVar 0) (aCons (eC (.int 3)) aNil))) (eC (.int 9)))) (sSeq (sIf (tOrB (tVal (eOp gEq (eVar 4) (eC (.int 1)))) (tVal (eOp gEq (eVar 4) (eC (.int 2))))) (sAsg 2 (eC (.int 0))) sNil) (sSeq (sIf (tOrB (tVal (eOp gEq (eVar 4) (eC (.int 2)))) (tVal (eOp gEq (eVar 4) (eC (.int 3))))) (sAsg 3 (eC (.int 0))) sNil) (sSeq (sAsg 5 (eCall F_divisor (aCons (eVar 2) (aCons (eVar 3) aNil)))) (sSeq (sAsg 6 (eCall F_divisor (aCons (eVar 3) (aCons (eVar 2) aNil)))) (sSeq (sIf (tOrB (tNotB (tVal (eCall F_law_is_whole (aCons (eVar 5) aNil)))) (tOrB (tNotB (tVal (eCall F_law_is_whole (aCons (eVar 6) aNil)))) (tVal (eOp gNe (eVar 5) (eVar 6))))) (sRet (eC (.bl false))) sNil) (sSeq (sIf (tAndB (tVal (eOp gEq (eVar 2) (eC (.int 0)))) (tVal (eOp gEq (eVar 3) (eC (.int 0))))) (sRet (eOp gEq (eVar 5) (eC (.int 0)))) sNil) (sSeq (sIf (tOrB (tVal (eOp gLt (eVar 5) (eC (.int 1)))) (tOrB (tVal (eOp gNe (eOp gMod (eVar 5) (eVar 1)) (eC (.int 0)))) (tOrB (tVal (eOp gNe (eOp gMod (eVar 2) (eVar 5)) (eC (.int 0)))) (tVal (eOp gNe (eOp gMod (eVar 3) (eVar 5)) (eC (.int 0))))))) (sRet (eC (.bl false))) sNil) (sRet (eOp gEq (eCall F_law_divisor (aCons (eOp gFdiv (eVar 2) (eVar 5)) (aCons (eOp gFdiv (eVar 3) (eVar 5)) aNil))) (eC (.int 1)))))))))))))))
def M_law : List D → R D := runF 7 (G_law)
theorem okM_law (T : Tx K mg) : FnOk P w K mg base (L2.CX P w) 2 T.f_law T.fd_law ["_law_script"] (spF K mg [.ar] .im (M_law)) := by
  refine okV (ms := [.ar]) (G' := [.ar, .im, .im, .im, .im, .im, .im]) (g := G_law) T.F_law sc_law rfl rfl fun cdv A outer s H E hr => ?_
  have tk : Takes (cxOf (L2.CX P w) P w K mg base ["_law_script", "_law_by", "_law_one", "_law_other", "_law_way", "_law_found", "_law_turned"] "law" (defScope s_law) T.f_law cdv A outer s H E) (fun cls d _ H => E cls d H) := takes_of rfl rfl rfl rfl
  exact (vs_cons (vs_set (i := 1) (ve_bin op_addF d_add ve_int (ve_bin op_mod d_mod (ve_bin op_fdivP d_fdiv (ve_call (ok_law_cell T) (hr.mono (by decide)) T.g_law_cell T.F_law_cell.kp T.b_law_cell tk (va_cons (ve_ar (i := 0)) (va_cons ve_int va_nil))) ve_int) (ve_item (ve_lst (va_cons ve_int (va_cons (ve_bin op_pow d_pow ve_int ve_int) va_nil))) (ve_bin op_mod d_mod (ve_call (ok_law_cell T) (hr.mono (by decide)) T.g_law_cell T.F_law_cell.kp T.b_law_cell tk (va_cons (ve_ar (i := 0)) (va_cons ve_int va_nil))) ve_int)))) sc_law.nd) (vs_cons (vs_set (i := 2) (ve_bin op_mulOk d_mul (ve_call (ok_law_number_by T) (hr.mono (by decide)) T.g_law_number_by T.F_law_number_by.kp T.b_law_number_by tk (va_cons (ve_call (ok_law_cell T) (hr.mono (by decide)) T.g_law_cell T.F_law_cell.kp T.b_law_cell tk (va_cons (ve_ar (i := 0)) (va_cons ve_int va_nil))) va_nil)) (ve_im (i := 1))) sc_law.nd) (vs_cons (vs_set (i := 3) (ve_bin op_mulOk d_mul (ve_call (ok_law_number_by T) (hr.mono (by decide)) T.g_law_number_by T.F_law_number_by.kp T.b_law_number_by tk (va_cons (ve_call (ok_law_cell T) (hr.mono (by decide)) T.g_law_cell T.F_law_cell.kp T.b_law_cell tk (va_cons (ve_ar (i := 0)) (va_cons ve_int va_nil))) va_nil)) (ve_im (i := 1))) sc_law.nd) (vs_cons (vs_set (i := 4) (ve_bin op_mod d_mod (ve_call (ok_law_cell T) (hr.mono (by decide)) T.g_law_cell T.F_law_cell.kp T.b_law_cell tk (va_cons (ve_ar (i := 0)) (va_cons ve_int va_nil))) ve_int) sc_law.nd) (vs_cons (vs_if (G' := [.ar, .im, .im, .im, .im, .un, .un]) (PW.pt (vw_or (vt_cmp (op_eqA hr) d_eq (ve_im (i := 4)) ve_int) (vw_or1 (vt_cmp (op_eqA hr) d_eq (ve_im (i := 4)) ve_int)))) (vs_one (vs_set (i := 2) ve_int sc_law.nd)) vs_nil) (vs_cons (vs_if (G' := [.ar, .im, .im, .im, .im, .un, .un]) (PW.pt (vw_or (vt_cmp (op_eqA hr) d_eq (ve_im (i := 4)) ve_int) (vw_or1 (vt_cmp (op_eqA hr) d_eq (ve_im (i := 4)) ve_int)))) (vs_one (vs_set (i := 3) ve_int sc_law.nd)) vs_nil) (vs_cons (vs_set (i := 5) (ve_call (ok_divisor T) (hr.mono (by decide)) T.g_divisor T.F_divisor.kp T.b_divisor tk (va_cons (ve_im (i := 2)) (va_cons (ve_im (i := 3)) va_nil))) sc_law.nd) (vs_cons (vs_set (i := 6) (ve_call (ok_divisor T) (hr.mono (by decide)) T.g_divisor T.F_divisor.kp T.b_divisor tk (va_cons (ve_im (i := 3)) (va_cons (ve_im (i := 2)) va_nil))) sc_law.nd) (vs_cons (vs_if (G' := [.ar, .im, .im, .im, .im, .im, .im]) (PW.pt (vw_or (vt_not (vt_val (ve_call (ok_law_is_whole T) (hr.mono (by decide)) T.g_law_is_whole T.F_law_is_whole.kp T.b_law_is_whole tk (va_cons (ve_im (i := 5)) va_nil)))) (vw_or (vt_not (vt_val (ve_call (ok_law_is_whole T) (hr.mono (by decide)) T.g_law_is_whole T.F_law_is_whole.kp T.b_law_is_whole tk (va_cons (ve_im (i := 6)) va_nil)))) (vw_or1 (vt_cmp (op_neA hr) d_ne (ve_im (i := 5)) (ve_im (i := 6))))))) (vs_one (vs_ret ve_bl)) vs_nil) (vs_cons (vs_if (G' := [.ar, .im, .im, .im, .im, .im, .im]) (PW.pt (vw_and (vt_cmp (op_eqA hr) d_eq (ve_im (i := 2)) ve_int) (vw_and1 (vt_cmp (op_eqA hr) d_eq (ve_im (i := 3)) ve_int)))) (vs_one (vs_ret (ve_cmp (op_eqA hr) d_eq (ve_im (i := 5)) ve_int))) vs_nil) (vs_cons (vs_if (G' := [.ar, .im, .im, .im, .im, .im, .im]) (PW.pt (vw_or (vt_cmp op_lt d_lt (ve_im (i := 5)) ve_int) (vw_or (vt_cmp (op_neA hr) d_ne (ve_bin op_mod d_mod (ve_im (i := 5)) (ve_im (i := 1))) ve_int) (vw_or (vt_cmp (op_neA hr) d_ne (ve_bin op_mod d_mod (ve_im (i := 2)) (ve_im (i := 5))) ve_int) (vw_or1 (vt_cmp (op_neA hr) d_ne (ve_bin op_mod d_mod (ve_im (i := 3)) (ve_im (i := 5))) ve_int)))))) (vs_one (vs_ret ve_bl)) vs_nil) (vs_one (vs_ret (ve_cmp (op_eqA hr) d_eq (ve_call (ok_law_divisor T) (hr.mono (by decide)) T.g_law_divisor T.F_law_divisor.kp T.b_law_divisor tk (va_cons (ve_bin op_fdivP d_fdiv (ve_im (i := 2)) (ve_im (i := 5))) (va_cons (ve_bin op_fdivP d_fdiv (ve_im (i := 3)) (ve_im (i := 5))) va_nil))) ve_int))))))))))))))
theorem F_divisor_eq {a b : Int} (ha : 0 ≤ a) (hb : 0 ≤ b) (hz : b.natAbs < 2 ^ 8000) : F_divisor [.int a, .int b] = .ok (.int (Int.gcd a b)) := by
  show (if 0 ≤ a ∧ 0 ≤ b ∧ b.natAbs < 2 ^ 8000 then R.ok (D.int (Int.gcd a b)) else .bad) = _
  rw [if_pos ⟨ha, hb, hz⟩]
theorem F_law_divisor_eq {a b : Int} (ha : 0 ≤ a) (hb : 0 ≤ b) : F_law_divisor [.int a, .int b] = .ok (.int (Int.gcd a b)) := by
  show (if 0 ≤ a ∧ 0 ≤ b then R.ok (D.int (Int.gcd a b)) else .bad) = _
  rw [if_pos ⟨ha, hb⟩]
/-- what is asked of the two numbers -/
theorem divisor_law {a b t : Int} (ha : 0 ≤ a) (hb : 0 ≤ b) (h : ¬ (a = 0 ∧ b = 0)) (da : t ∣ a) (db : t ∣ b) :
    1 ≤ (Int.gcd a b : Int) ∧ (Int.gcd a b : Int) % t = 0 ∧ a % (Int.gcd a b : Int) = 0 ∧ b % (Int.gcd a b : Int) = 0 ∧ Int.gcd (a / (Int.gcd a b : Int)) (b / (Int.gcd a b : Int)) = 1 := by
  have hg : 0 < Int.gcd a b := Int.gcd_pos_iff.mpr (by omega)
  refine ⟨by omega, ?_, ?_, ?_, ?_⟩
  · exact Int.emod_eq_zero_of_dvd (Int.dvd_coe_gcd da db)
  · exact Int.emod_eq_zero_of_dvd (Int.gcd_dvd_left ..)
  · exact Int.emod_eq_zero_of_dvd (Int.gcd_dvd_right ..)
  · exact Int.gcd_ediv_gcd_ediv_gcd hg
theorem lt_8000 {a : Int} (h0 : 0 ≤ a) (h : a < 10 ^ 70) : a.natAbs < 2 ^ 8000 := by
  have : a.natAbs < 10 ^ 70 := by omega
  exact Nat.lt_of_lt_of_le this (by decide +kernel)
theorem gcd_lt {a b N : Int} (a0 : 0 ≤ a) (b0 : 0 ≤ b) (a1 : a < N) (b1 : b < N) (h : ¬ (a = 0 ∧ b = 0)) : (Int.gcd a b : Int) < N := by
  by_cases ha : a = 0
  · have hb : b ≠ 0 := fun z => h ⟨ha, z⟩
    have := Int.le_of_dvd (by omega) (Int.gcd_dvd_right (a := a) (b := b))
    omega
  · have := Int.le_of_dvd (by omega) (Int.gcd_dvd_left (a := a) (b := b))
    omega
theorem pick2 (z : Int) : ∃ m : Int, atI [D.int 7, D.int 1000000000] (z % 2) = some (.int m) ∧ 0 < m ∧ m ≤ 1000000000 := by
  rcases Int.emod_two_eq z with h | h <;> rw [h]
  · exact ⟨7, rfl, by decide, by decide⟩
  · exact ⟨1000000000, rfl, by decide, by decide⟩
theorem law_true (ns : List Int) (hl : ns.length ≤ 63) (hb : ∀ z ∈ ns, Builtin.Int.intBits z ≤ 1048576) : M_law [.lst (ns.map D.int)] = .ok (.bl true) := by
  have c0 := F_law_cell_eq ns 0 (by decide) (by decide)
  have c1 := F_law_cell_eq ns 1 (by decide) (by decide)
  have c2 := F_law_cell_eq ns 2 (by decide) (by decide)
  have c3 := F_law_cell_eq ns 3 (by decide) (by decide)
  generalize cell ns (Int.toNat 0) = z0 at c0
  generalize cell ns (Int.toNat 1) = z1 at c1
  generalize cell ns (Int.toNat 2) = z2 at c2
  generalize cell ns (Int.toNat 3) = z3 at c3
  generalize D.lst (ns.map D.int) = sc at *
  obtain ⟨m, hm, m0, m1⟩ := pick2 z2
  have h2 : CDivP z2 2 := divP_small (by decide) (by decide)
  have h3 : CPow 10 9 := by decide
  have hz : (2 : Nat) ≤ sizeLine := by decide
  have n0 := numBy_nn z0
  have n1 := numBy_nn z1
  have l0 := numBy_lt z0
  have l1 := numBy_lt z1
  have e0 : F_law_number_by [.int z0] = .ok (.int (numBy z0)) := rfl
  have e1 : F_law_number_by [.int z1] = .ok (.int (numBy z1)) := rfl
  generalize numBy z0 = x at *
  generalize numBy z1 = y at *
  have t0 : 1 ≤ 1 + z2 / 2 % m := by have := Int.emod_nonneg (z2 / 2) (show m ≠ 0 by omega); omega
  have t1 : 1 + z2 / 2 % m ≤ 10 ^ 9 := by have := Int.emod_lt_of_pos (z2 / 2) m0; omega
  unfold M_law G_law runF
  refine run_seq (e' := [sc, .int (1 + z2 / 2 % m), .non, .non, .non, .non, .non]) (by simp [c2, h2, h3, hm, m0, hz]) ?_
  generalize 1 + z2 / 2 % m = t at *
  have k0 : IntMulOk x t := mulOk_right (by omega) (by omega)
  have k1 : IntMulOk y t := mulOk_right (by omega) (by omega)
  refine run_seq (e' := [sc, .int t, .int (x * t), .non, .non, .non, .non]) (by simp [c0, e0, k0]) ?_
  refine run_seq (e' := [sc, .int t, .int (x * t), .int (y * t), .non, .non, .non]) (by simp [c1, e1, k1]) ?_
  refine run_seq (e' := [sc, .int t, .int (x * t), .int (y * t), .int (z3 % 9), .non, .non]) (by simp [c3]) ?_
  have bd : ∀ u : Int, 0 ≤ u → u < 10 ^ 60 → 0 ≤ u * t ∧ u * t < 10 ^ 70 := fun u hu hv => by
    refine ⟨Int.mul_nonneg hu (by omega), ?_⟩
    have q := Int.mul_le_mul (Int.le_of_lt hv) t1 (by omega) (by decide)
    exact Int.lt_of_le_of_lt q (by decide)
  -- one and other, as they stand behind the ways
  obtain ⟨a, ea, a0, a1, da⟩ : ∃ a, (sIf (tOrB (tVal (eOp gEq (eVar 4) (eC (.int 1)))) (tVal (eOp gEq (eVar 4) (eC (.int 2))))) (sAsg 2 (eC (.int 0))) sNil) [sc, .int t, .int (x * t), .int (y * t), .int (z3 % 9), .non, .non] = .ok (.nx [sc, .int t, .int a, .int (y * t), .int (z3 % 9), .non, .non]) ∧ 0 ≤ a ∧ a < 10 ^ 70 ∧ t ∣ a := by
    by_cases w1 : z3 % 9 = 1
    · exact ⟨0, by simp [w1], by decide, by decide, Int.dvd_zero t⟩
    · by_cases w2 : z3 % 9 = 2
      · exact ⟨0, by simp [w2], by decide, by decide, Int.dvd_zero t⟩
      · exact ⟨x * t, by simp [w1, w2], (bd x n0 l0).1, (bd x n0 l0).2, Int.dvd_mul_left x t⟩
  refine run_seq ea ?_
  obtain ⟨b, eb, b0, b1, db⟩ : ∃ b, (sIf (tOrB (tVal (eOp gEq (eVar 4) (eC (.int 2)))) (tVal (eOp gEq (eVar 4) (eC (.int 3))))) (sAsg 3 (eC (.int 0))) sNil) [sc, .int t, .int a, .int (y * t), .int (z3 % 9), .non, .non] = .ok (.nx [sc, .int t, .int a, .int b, .int (z3 % 9), .non, .non]) ∧ 0 ≤ b ∧ b < 10 ^ 70 ∧ t ∣ b := by
    by_cases w1 : z3 % 9 = 2
    · exact ⟨0, by simp [w1], by decide, by decide, Int.dvd_zero t⟩
    · by_cases w2 : z3 % 9 = 3
      · exact ⟨0, by simp [w2], by decide, by decide, Int.dvd_zero t⟩
      · exact ⟨y * t, by simp [w1, w2], (bd y n1 l1).1, (bd y n1 l1).2, Int.dvd_mul_left y t⟩
  refine run_seq eb ?_
  have f1 := F_divisor_eq a0 b0 (lt_8000 b0 b1)
  have f2 := F_divisor_eq b0 a0 (lt_8000 a0 a1)
  rw [Int.gcd_comm b a] at f2
  have i1 : F_law_is_whole [.int (Int.gcd a b)] = .ok (.bl true) := rfl
  by_cases hz2 : a = 0 ∧ b = 0
  · obtain ⟨rfl, rfl⟩ := hz2
    refine run_seq (e' := [sc, .int t, .int 0, .int 0, .int (z3 % 9), .int 0, .non]) (by simp only [sAsg, eCall, aCons, eVar, aNil]; simp [f1]) ?_
    refine run_seq (e' := [sc, .int t, .int 0, .int 0, .int (z3 % 9), .int 0, .int 0]) (by simp [f1]) ?_
    refine run_seq (e' := [sc, .int t, .int 0, .int 0, .int (z3 % 9), .int 0, .int 0]) (by simp [show F_law_is_whole [.int 0] = .ok (.bl true) from rfl]) ?_
    exact run_ret (d := .bl true) (by simp) rfl
  · obtain ⟨q1, q2, q3, q4, q5⟩ := divisor_law a0 b0 hz2 da db
    have q6 := F_law_divisor_eq (Int.ediv_nonneg a0 (Int.natCast_nonneg (Int.gcd a b))) (Int.ediv_nonneg b0 (Int.natCast_nonneg (Int.gcd a b)))
    rw [q5] at q6
    have gb : (Int.gcd a b : Int).natAbs < 2 ^ 9000 := Nat.lt_trans (lt_8000 (by omega) (gcd_lt a0 b0 a1 b1 hz2)) (Nat.pow_lt_pow_right (by decide) (by decide))
    have p1 : CDivP a (Int.gcd a b : Int) := divP_of (by omega) gb
    have p2 : CDivP b (Int.gcd a b : Int) := divP_of (by omega) gb
    generalize (Int.gcd a b : Int) = g at *
    refine run_seq (e' := [sc, .int t, .int a, .int b, .int (z3 % 9), .int g, .non]) (by simp [f1]) ?_
    refine run_seq (e' := [sc, .int t, .int a, .int b, .int (z3 % 9), .int g, .int g]) (by simp [f2]) ?_
    refine run_seq (e' := [sc, .int t, .int a, .int b, .int (z3 % 9), .int g, .int g]) (by simp [i1]) ?_
    refine run_seq (e' := [sc, .int t, .int a, .int b, .int (z3 % 9), .int g, .int g]) (by
      by_cases ha : a = 0
      · simp [ha, show ¬ b = 0 from fun z => hz2 ⟨ha, z⟩]
      · simp [ha]) ?_
    have g1 : ¬ g < 1 := by omega
    have g2 : 0 < g := by omega
    have t2 : 0 < t := by omega
    refine run_seq (e' := [sc, .int t, .int a, .int b, .int (z3 % 9), .int g, .int g]) (by simp [g1, g2, t2, q2, q3, q4]) ?_
    exact run_end (d := .bl true) (by simp [p1, p2, q6]) rfl
end
theorem all_mk {l : PySem.W.OpenLaw} {w : World} {K : PySem.W.Frag} {h : Heap} {mg : Str → Option Value} {fa : Addr} (X : K.In h) (G : h.Ns mainGlobals mg) (hfa : mg "law" = some (.ref fa))
    {f0 : Addr} {od0 an0 : Option Addr} {sl0 : Array (Option Value)} {oc0 kV0 dc0 pm0 cd0 ct0 : Value} {f1 : Addr} {od1 an1 : Option Addr} {sl1 : Array (Option Value)} {oc1 kV1 dc1 pm1 cd1 ct1 : Value} {f2 : Addr} {od2 an2 : Option Addr} {sl2 : Array (Option Value)} {oc2 kV2 dc2 pm2 cd2 ct2 : Value} {f3 : Addr} {od3 an3 : Option Addr} {sl3 : Array (Option Value)} {oc3 kV3 dc3 pm3 cd3 ct3 : Value} {f4 : Addr} {od4 an4 : Option Addr} {sl4 : Array (Option Value)} {oc4 kV4 dc4 pm4 cd4 ct4 : Value} {f5 : Addr} {od5 an5 : Option Addr} {sl5 : Array (Option Value)} {oc5 kV5 dc5 pm5 cd5 ct5 : Value}
    (a0 : PySem.W.nsIn K mainGlobals "divisor" = some (some (.ref f0)))
    (l0 : K.lookup f0 = some ⟨oc0, od0, .func (PySem.W.fnOf "divisor" "divisor" (defArgs s_divisor) (defBody s_divisor) (defScope s_divisor) .none kV0 dc0 pm0 an0 cd0 ct0), sl0⟩)
    (c0 : PySem.W.codeIn K cd0 "divisor" = true)
    (k0 : PySem.W.keepIn K (.ref f0) = true)
    (a1 : PySem.W.nsIn K mainGlobals "_law_is_whole" = some (some (.ref f1)))
    (l1 : K.lookup f1 = some ⟨oc1, od1, .func (PySem.W.fnOf "_law_is_whole" "_law_is_whole" (defArgs s_law_is_whole) (defBody s_law_is_whole) (defScope s_law_is_whole) .none kV1 dc1 pm1 an1 cd1 ct1), sl1⟩)
    (c1 : PySem.W.codeIn K cd1 "_law_is_whole" = true)
    (k1 : PySem.W.keepIn K (.ref f1) = true)
    (a2 : PySem.W.nsIn K mainGlobals "_law_cell" = some (some (.ref f2)))
    (l2 : K.lookup f2 = some ⟨oc2, od2, .func (PySem.W.fnOf "_law_cell" "_law_cell" (defArgs s_law_cell) (defBody s_law_cell) (defScope s_law_cell) .none kV2 dc2 pm2 an2 cd2 ct2), sl2⟩)
    (c2 : PySem.W.codeIn K cd2 "_law_cell" = true)
    (k2 : PySem.W.keepIn K (.ref f2) = true)
    (a3 : PySem.W.nsIn K mainGlobals "_law_divisor" = some (some (.ref f3)))
    (l3 : K.lookup f3 = some ⟨oc3, od3, .func (PySem.W.fnOf "_law_divisor" "_law_divisor" (defArgs s_law_divisor) (defBody s_law_divisor) (defScope s_law_divisor) .none kV3 dc3 pm3 an3 cd3 ct3), sl3⟩)
    (c3 : PySem.W.codeIn K cd3 "_law_divisor" = true)
    (k3 : PySem.W.keepIn K (.ref f3) = true)
    (a4 : PySem.W.nsIn K mainGlobals "_law_number_by" = some (some (.ref f4)))
    (l4 : K.lookup f4 = some ⟨oc4, od4, .func (PySem.W.fnOf "_law_number_by" "_law_number_by" (defArgs s_law_number_by) (defBody s_law_number_by) (defScope s_law_number_by) .none kV4 dc4 pm4 an4 cd4 ct4), sl4⟩)
    (c4 : PySem.W.codeIn K cd4 "_law_number_by" = true)
    (k4 : PySem.W.keepIn K (.ref f4) = true)
    (a5 : PySem.W.nsIn K mainGlobals "law" = some (some (.ref f5)))
    (l5 : K.lookup f5 = some ⟨oc5, od5, .func (PySem.W.fnOf "law" "law" (defArgs s_law) (defBody s_law) (defScope s_law) .none kV5 dc5 pm5 an5 cd5 ct5), sl5⟩)
    (c5 : PySem.W.codeIn K cd5 "law" = true)
    (k5 : PySem.W.keepIn K (.ref f5) = true)
    (z_bool : PySem.W.nsIn K mainGlobals "bool" = some none)
    (z_divmod : PySem.W.nsIn K mainGlobals "divmod" = some none)
    (z_int : PySem.W.nsIn K mainGlobals "int" = some none)
    (z_isinstance : PySem.W.nsIn K mainGlobals "isinstance" = some none)
    (z_len : PySem.W.nsIn K mainGlobals "len" = some none) :
    ∃ fd : FuncData, (∀ (s : Shared) (v : Value), BindsTo s fd ⟨[v], []⟩ [("_law_script", v)]) ∧ ∀ base : Heap, K.In base → base.Ns mainGlobals mg → FnOk l.prog w K mg base (L2.CX l.prog w) 2 fa fd ["_law_script"] (spLaw K) := by
  have e := hfa.symm.trans (PySem.W.mg_of X G a5)
  cases e
  have F0 := fun_mk (st := s_divisor) l0 c0 k0
  have B0 := F0.binds (ps := ["one", "other"]) fun _ _ _ _ _ _ us hl => match us, hl with | [_, _], _ => rfl
  have F1 := fun_mk (st := s_law_is_whole) l1 c1 k1
  have B1 := F1.binds (ps := ["_law_found"]) fun _ _ _ _ _ _ us hl => match us, hl with | [_], _ => rfl
  have F2 := fun_mk (st := s_law_cell) l2 c2 k2
  have B2 := F2.binds (ps := ["_law_script", "_law_k"]) fun _ _ _ _ _ _ us hl => match us, hl with | [_, _], _ => rfl
  have F3 := fun_mk (st := s_law_divisor) l3 c3 k3
  have B3 := F3.binds (ps := ["_law_one", "_law_other"]) fun _ _ _ _ _ _ us hl => match us, hl with | [_, _], _ => rfl
  have F4 := fun_mk (st := s_law_number_by) l4 c4 k4
  have B4 := F4.binds (ps := ["_law_cell_here"]) fun _ _ _ _ _ _ us hl => match us, hl with | [_], _ => rfl
  have F5 := fun_mk (st := s_law) l5 c5 k5
  have B5 := F5.binds (ps := ["_law_script"]) fun _ _ _ _ _ _ us hl => match us, hl with | [_], _ => rfl
  let T : Tx K mg := { f_divisor := f0, fd_divisor := _, F_divisor := F0, g_divisor := PySem.W.mg_of X G a0, b_divisor := B0, f_law_is_whole := f1, fd_law_is_whole := _, F_law_is_whole := F1, g_law_is_whole := PySem.W.mg_of X G a1, b_law_is_whole := B1, f_law_cell := f2, fd_law_cell := _, F_law_cell := F2, g_law_cell := PySem.W.mg_of X G a2, b_law_cell := B2, f_law_divisor := f3, fd_law_divisor := _, F_law_divisor := F3, g_law_divisor := PySem.W.mg_of X G a3, b_law_divisor := B3, f_law_number_by := f4, fd_law_number_by := _, F_law_number_by := F4, g_law_number_by := PySem.W.mg_of X G a4, b_law_number_by := B4, f_law := fa, fd_law := _, F_law := F5, g_law := PySem.W.mg_of X G a5, b_law := B5, n_bool := PySem.W.mg_none_of X G z_bool, n_divmod := PySem.W.mg_none_of X G z_divmod, n_int := PySem.W.mg_none_of X G z_int, n_isinstance := PySem.W.mg_none_of X G z_isinstance, n_len := PySem.W.mg_none_of X G z_len }
  exact ⟨_, fun s v => .of_eq rfl, fun base _ _ => law_imp law_true (okM_law T)⟩
end OD
open PySem PySem.W PyProof.Rows
set_option maxHeartbeats 0 in
theorem PySem.Challenge.cw_oddsnet_k01_a_divisor_holds : PySem.Challenge.rw_oddsnet_k01_a_divisor.Holds := by
  w_on; o_law; k_head; (case hw => w_witness2)
  k_fill
  refine L2.walk_ofB (l := PySem.Challenge.rw_oddsnet_k01_a_divisor) (n := 63) (k := 2) (x := "_law_script") (CX := fun w => L2.CX PySem.Challenge.rw_oddsnet_k01_a_divisor.prog w) (sp := fun w => L2.VL.spLaw _) rfl (by decide) rfl ⟨rfl, by decide, by decide⟩ (fun w h Y => PySem.W.kIn_of Y) ?F (fun w H a ns hl hb hO hS => ⟨a, ns, rfl, hl, hb, hS, fun _ => rfl⟩) (fun w H s e s' h => L2.VL.cx_false h)
  case F =>
    intro w mg fa h KX G hmg
    refine' OD.all_mk KX G hmg ?a0 ?l0 ?c0 ?k0 ?a1 ?l1 ?c1 ?k1 ?a2 ?l2 ?c2 ?k2 ?a3 ?l3 ?c3 ?k3 ?a4 ?l4 ?c4 ?k4 ?a5 ?l5 ?c5 ?k5 ?z_bool ?z_divmod ?z_int ?z_isinstance ?z_len
    (case a0 => k_is); (case l0 => k_is); (case c0 => k_is); (case k0 => k_is); (case a1 => k_is); (case l1 => k_is); (case c1 => k_is); (case k1 => k_is)
    (case a2 => k_is); (case l2 => k_is); (case c2 => k_is); (case k2 => k_is); (case a3 => k_is); (case l3 => k_is); (case c3 => k_is); (case k3 => k_is)
    (case a4 => k_is); (case l4 => k_is); (case c4 => k_is); (case k4 => k_is); (case a5 => k_is); (case l5 => k_is); (case c5 => k_is); (case k5 => k_is)
    (case z_bool => k_is); (case z_divmod => k_is); (case z_int => k_is); (case z_isinstance => k_is); (case z_len => k_is)
